import PyProof.Rows.All
import Wide.All
import OpenK.AllK
import Wide.FinOn
import HandS.ForMost
import HandS.Flow
import HandS.Wide
import HandS.Style
import HandS.IsInst
import HandS.ExcCtx
import HandS.ExcInit
import HandS.ExcSuper
import HandS.TryOnly
import HandS.Star
import HandS.WordsExc
import HandS.Defaults
import HandS.TupAny
import HandS.TupMul
import HandS.TupLe
import HandS.Deep
import HandS.Walk
import KE.KExcSuper
import HandS.ExcField
import HandS.ExcIs
import KE.KExcIs
import PyProof.ReprRoads
import PyProof.CallFns
import HandS.Head0
import HandS.Head1
import HandS.Head2
import HandS.HeadEnd
import HandS.HeadHook4
import PySem.Challenge.RW_untriedpairs_k01_errors_made
set_option Elab.async false
set_option linter.all false
set_option maxRecDepth 100000
/-! L3: defs as plain Lean functions over structural values. -/
namespace L3
open PySem L2

/-- pure data -/
inductive D where
  | non | bl (b : Bool) | int (i : Int) | str (s : Str) | ty (n : String) | st (a : Addr)
  | tup (l : List D) | lst (l : List D) | fzl (l : List D) | dct (ks : List Key) (l : List D)
  | obj (C : Addr) (ns : List Str) (l : List D) | exc (C : Addr) (ns : List Str) (l : List D)

/-- a value: data, or a mutable object of the small store -/
inductive W where
  | d (x : D) | ref (i : Nat)

/-- what may stand in the store -/
inductive SO where
  | lst (l : List D) | dct (ks : List Key) (l : List D) | ins (C : Addr) (ns : List Str) (l : List D)

abbrev Sto := List (Option SO)
/-- the addresses of the store's objects (none: dead); those that a rule keeps to itself -/
structure Rho where
  l : List (Option Addr)
  hid : List Addr := []
def Live (ρ : Rho) (p : Addr) : Prop := some p ∈ ρ.l ∨ p ∈ ρ.hid
abbrev Tau := List (Option W)

inductive Res (α : Type) where
  | ok (a : α) (S : Sto) | exc (C : Addr) (ns : List Str) (ds : List D) (S : Sto) | bad

def Res.bind {α β : Type} (r : Res α) (k : α → Sto → Res β) : Res β := match r with
  | .ok a S => k a S
  | .exc C ns ds S => .exc C ns ds S
  | .bad => .bad

/-- a list that is not written through the store -/
def LstAt (ρ : Rho) (H : Hp) (p : Addr) (xs : List V) : Prop := ¬ Live ρ p ∧ H p = some (.lst xs)
/-- a list that nobody can write: locked (the script), or of the module's top -/
def FzlAt (K : PySem.W.Frag) (H : Hp) (p : Addr) (xs : List V) : Prop := (∃ o, H p = some (.frz o (.lst xs))) ∨
    ∃ (o : Obj) (its : Array Value) (n : Nat), K.lookup p = some o ∧ o.cls = .type "list" ∧ o.dict = none ∧ o.data = .seq its n ∧ its.size ≤ sizeLine ∧ Vals xs its.toList
theorem LstAt.sq {K : PySem.W.Frag} {ρ : Rho} {H : Hp} {p : Addr} {xs : List V} (h : LstAt ρ H p xs) : SqL K H p xs := .inl (.inl h.2)
theorem FzlAt.sq {K : PySem.W.Frag} {H : Hp} {p : Addr} {xs : List V} (h : FzlAt K H p xs) : SqL K H p xs := h.elim (fun z => .inl (.inr z)) .inr

/-- an exception object, its own dict at d -/
def exq (e C : Addr) (d : Option Addr) : HO := .ext fun h => ∃ (vs : Array Value) (sl : Array (Option Value)), h.get? e = some (⟨.ref C, d, .fields vs, sl⟩ : Obj)
/-- an exception's fields -/
def XdAt (H : Hp) (ρ : Rho) (d : Option Addr) (fs : List (Str × V)) : Prop := (d = none ∧ fs = []) ∨ ∃ a, d = some a ∧ ¬ Live ρ a ∧ H a = some (.xd fs)
mutual
def RelD (K : PySem.W.Frag) (ρ : Rho) (H : Hp) : D → V → Prop
  | .non, v => v = .non
  | .bl b, v => v = .bl b
  | .int i, v => v = .int i
  | .str x, v => v = .str x
  | .ty n, v => v = .ty n
  | .st a, v => v = .ref a
  | .tup l, v => ∃ p xs, v = .ref p ∧ SqT K H p xs ∧ RelDs K ρ H l xs
  | .lst l, v => ∃ p xs, v = .ref p ∧ LstAt ρ H p xs ∧ RelDs K ρ H l xs
  | .fzl l, v => ∃ p xs, v = .ref p ∧ FzlAt K H p xs ∧ RelDs K ρ H l xs
  | .dct ks l, v => ∃ p kvs, v = .ref p ∧ ¬ Live ρ p ∧ H p = some (.dK kvs) ∧ kvs.map (·.1) = ks ∧ RelDs K ρ H l (kvs.map (·.2))
  | .obj C ns l, v => ∃ p dx fs, v = .ref p ∧ ¬ Live ρ p ∧ H p = some (.ins C dx fs) ∧ fs.map (·.1) = ns ∧ RelDs K ρ H l (fs.map (·.2))
  | .exc C ns l, v => ∃ p d fs, v = .ref p ∧ ¬ Live ρ p ∧ H p = some (exq p C d) ∧ XdAt H ρ d fs ∧ fs.map (·.1) = ns ∧ RelDs K ρ H l (fs.map (·.2))
def RelDs (K : PySem.W.Frag) (ρ : Rho) (H : Hp) : List D → List V → Prop
  | [], xs => xs = []
  | x :: l, xs => ∃ y ys, xs = y :: ys ∧ RelD K ρ H x y ∧ RelDs K ρ H l ys
end

/-- from one moment to a later one: what is not written through the store stays; references stay or die -/
structure Keeps (ρ : Rho) (H : Hp) (ρ' : Rho) (H' : Hp) : Prop where
  pre : ∀ (i : Nat) (q : Option Addr), ρ.l[i]? = some q → ∃ q', ρ'.l[i]? = some q' ∧ ∀ p, q' = some p → q = some p
  out : ∀ b o, H b = some o → ¬ Live ρ b → H' b = some o ∧ ¬ Live ρ' b
  tups : ∀ b xs, H b = some (.tup xs) → H' b = some (.tup xs)
  frzs : ∀ b o u, H b = some (.frz o u) → H' b = some (.frz o u)
  hid : ∀ b, b ∈ ρ.hid → b ∈ ρ'.hid ∧ H' b = H b

theorem Keeps.refl {ρ : Rho} {H : Hp} : Keeps ρ H ρ H := ⟨fun i q e => ⟨q, e, fun _ h => h⟩, fun b o e h => ⟨e, h⟩, fun _ _ e => e, fun _ _ _ e => e, fun _ h => ⟨h, rfl⟩⟩
theorem Keeps.trans {ρ ρ1 ρ2 : Rho} {H H1 H2 : Hp} (a : Keeps ρ H ρ1 H1) (b : Keeps ρ1 H1 ρ2 H2) : Keeps ρ H ρ2 H2 where
  pre := fun i q e => by
    obtain ⟨q1, e1, h1⟩ := a.pre i q e
    obtain ⟨q2, e2, h2⟩ := b.pre i q1 e1
    exact ⟨q2, e2, fun p h => h1 p (h2 p h)⟩
  out := fun c o e h => let ⟨e1, h1⟩ := a.out c o e h; b.out c o e1 h1
  tups := fun c xs e => b.tups c xs (a.tups c xs e)
  frzs := fun c o u e => b.frzs c o u (a.frzs c o u e)
  hid := fun c h => let ⟨h1, e1⟩ := a.hid c h; let ⟨h2, e2⟩ := b.hid c h1; ⟨h2, e2.trans e1⟩

section
variable {K : PySem.W.Frag} {ρ ρ' : Rho} {H H' : Hp}
theorem Keeps.sqT (k : Keeps ρ H ρ' H') {p : Addr} {xs : List V} (h : SqT K H p xs) : SqT K H' p xs := by
  rcases h with (h | ⟨o, h⟩) | h
  · exact .inl (.inl (k.tups _ _ h))
  · exact .inl (.inr ⟨o, k.frzs _ _ _ h⟩)
  · exact .inr h
theorem Keeps.lst (k : Keeps ρ H ρ' H') {p : Addr} {xs : List V} (h : LstAt ρ H p xs) : LstAt ρ' H' p xs := let ⟨a, b⟩ := k.out _ _ h.2 h.1; ⟨b, a⟩
theorem Keeps.xd (k : Keeps ρ H ρ' H') {d : Option Addr} {fs : List (Str × V)} (h : XdAt H ρ d fs) : XdAt H' ρ' d fs := h.elim .inl fun ⟨a, e, n, q⟩ => .inr ⟨a, e, (k.out _ _ q n).2, (k.out _ _ q n).1⟩
theorem Keeps.fzl (k : Keeps ρ H ρ' H') {p : Addr} {xs : List V} (h : FzlAt K H p xs) : FzlAt K H' p xs := h.elim (fun ⟨o, z⟩ => .inl ⟨o, k.frzs _ _ _ z⟩) .inr
mutual
theorem RelD.mono (k : Keeps ρ H ρ' H') : ∀ (x : D) {v : V}, RelD K ρ H x v → RelD K ρ' H' x v
  | .non, _, h => h
  | .bl _, _, h => h
  | .int _, _, h => h
  | .str _, _, h => h
  | .ty _, _, h => h
  | .st _, _, h => h
  | .tup l, _, ⟨p, xs, e, h, r⟩ => ⟨p, xs, e, k.sqT h, RelDs.mono k l r⟩
  | .lst l, _, ⟨p, xs, e, h, r⟩ => ⟨p, xs, e, k.lst h, RelDs.mono k l r⟩
  | .fzl l, _, ⟨p, xs, e, h, r⟩ => ⟨p, xs, e, k.fzl h, RelDs.mono k l r⟩
  | .dct ks l, _, ⟨p, kvs, e, n, h, e2, r⟩ => ⟨p, kvs, e, (k.out _ _ h n).2, (k.out _ _ h n).1, e2, RelDs.mono k l r⟩
  | .obj C ns l, _, ⟨p, dx, fs, e, n, h, e2, r⟩ => ⟨p, dx, fs, e, (k.out _ _ h n).2, (k.out _ _ h n).1, e2, RelDs.mono k l r⟩
  | .exc C ns l, _, ⟨p, d, fs, e, n, h, h2, e2, r⟩ => ⟨p, d, fs, e, (k.out _ _ h n).2, (k.out _ _ h n).1, k.xd h2, e2, RelDs.mono k l r⟩
theorem RelDs.mono (k : Keeps ρ H ρ' H') : ∀ (l : List D) {xs : List V}, RelDs K ρ H l xs → RelDs K ρ' H' l xs
  | [], _, h => h
  | x :: l, _, ⟨y, ys, e, h, r⟩ => ⟨y, ys, e, RelD.mono k x h, RelDs.mono k l r⟩
end
theorem RelDs.length : ∀ {l : List D} {xs : List V}, RelDs K ρ H l xs → l.length = xs.length
  | [], _, h => by cases h; rfl
  | x :: l, _, ⟨y, ys, e, h, r⟩ => by subst e; simp [RelDs.length r]
theorem RelDs.get : ∀ {l : List D} {xs : List V} {i : Nat} {x : D}, RelDs K ρ H l xs → l[i]? = some x → ∃ v, xs[i]? = some v ∧ RelD K ρ H x v
  | [], _, _, _, _, e => by simp at e
  | x :: l, _, 0, _, ⟨y, ys, e, h, r⟩, e2 => by
    subst e
    simp at e2
    subst e2
    exact ⟨y, rfl, h⟩
  | x :: l, _, i + 1, _, ⟨y, ys, e, h, r⟩, e2 => by
    subst e
    obtain ⟨v, a, b⟩ := RelDs.get (i := i) r (by simpa using e2)
    exact ⟨v, by simpa using a, b⟩
theorem RelDs.get' : ∀ {l : List D} {xs : List V} {i : Nat} {v : V}, RelDs K ρ H l xs → xs[i]? = some v → ∃ x, l[i]? = some x ∧ RelD K ρ H x v
  | [], _, _, _, h, e => by cases h; simp at e
  | x :: l, _, 0, _, ⟨y, ys, e, h, r⟩, e2 => by
    subst e
    simp at e2
    subst e2
    exact ⟨x, rfl, h⟩
  | x :: l, _, i + 1, _, ⟨y, ys, e, h, r⟩, e2 => by
    subst e
    obtain ⟨v, a, b⟩ := RelDs.get' (i := i) r (by simpa using e2)
    exact ⟨v, by simpa using a, b⟩
theorem RelDs.append : ∀ {l m : List D} {xs ys : List V}, RelDs K ρ H l xs → RelDs K ρ H m ys → RelDs K ρ H (l ++ m) (xs ++ ys)
  | [], _, _, _, h, q => by cases h; exact q
  | x :: l, _, _, _, ⟨y, ys, e, h, r⟩, q => by
    subst e
    exact ⟨y, _, rfl, h, RelDs.append r q⟩
theorem RelDs.set : ∀ {l : List D} {xs : List V} (i : Nat) {x : D} {v : V}, RelDs K ρ H l xs → RelD K ρ H x v → RelDs K ρ H (l.set i x) (xs.set i v)
  | [], _, _, _, _, h, _ => by cases h; exact rfl
  | _ :: l, _, 0, _, _, ⟨y, ys, e, h, r⟩, q => by subst e; exact ⟨_, _, rfl, q, r⟩
  | _ :: l, _, i + 1, _, _, ⟨y, ys, e, h, r⟩, q => by subst e; exact ⟨_, _, rfl, h, RelDs.set i r q⟩
theorem RelDs.take : ∀ {l : List D} {xs : List V} (n : Nat), RelDs K ρ H l xs → RelDs K ρ H (l.take n) (xs.take n)
  | [], _, n, h => by cases h; simp [RelDs]
  | _ :: l, _, 0, h => by simp [RelDs]
  | _ :: l, _, n + 1, ⟨y, ys, e, h, r⟩ => by subst e; exact ⟨_, _, rfl, h, RelDs.take n r⟩
theorem RelDs.drop : ∀ {l : List D} {xs : List V} (n : Nat), RelDs K ρ H l xs → RelDs K ρ H (l.drop n) (xs.drop n)
  | [], _, n, h => by cases h; simp [RelDs]
  | _ :: l, _, 0, h => h
  | _ :: l, _, n + 1, ⟨y, ys, e, h, r⟩ => by subst e; exact RelDs.drop n r

def RelW (K : PySem.W.Frag) (ρ : Rho) (H : Hp) : W → V → Prop
  | .d x, v => RelD K ρ H x v
  | .ref i, v => ∃ q, ρ.l[i]? = some q ∧ ∀ p, q = some p → v = .ref p
theorem RelW.mono (k : Keeps ρ H ρ' H') : ∀ {w : W} {v : V}, RelW K ρ H w v → RelW K ρ' H' w v
  | .d x, _, h => RelD.mono k x h
  | .ref i, _, ⟨q, e, h⟩ => by
    obtain ⟨q', e', h'⟩ := k.pre i q e
    exact ⟨q', e', fun p z => h p (h' p z)⟩
def RelWs (K : PySem.W.Frag) (ρ : Rho) (H : Hp) : List W → List V → Prop := Paired (RelW K ρ H)
theorem RelWs.mono (k : Keeps ρ H ρ' H') {l : List W} {xs : List V} (h : RelWs K ρ H l xs) : RelWs K ρ' H' l xs := Paired.mapP h fun _ _ => RelW.mono k
def RelSO (K : PySem.W.Frag) (ρ : Rho) (H : Hp) : SO → Addr → Prop
  | .lst l, p => ∃ xs, H p = some (.lst xs) ∧ RelDs K ρ H l xs
  | .dct ks l, p => ∃ kvs, H p = some (.dK kvs) ∧ kvs.map (·.1) = ks ∧ RelDs K ρ H l (kvs.map (·.2))
  | .ins C ns l, p => ∃ dx fs, H p = some (.ins C dx fs) ∧ fs.map (·.1) = ns ∧ RelDs K ρ H l (fs.map (·.2))
structure Rel (K : PySem.W.Frag) (ρ : Rho) (S : Sto) (H : Hp) : Prop where
  len : ρ.l.length = S.length
  inj : ∀ (i j : Nat) (p : Addr), ρ.l[i]? = some (some p) → ρ.l[j]? = some (some p) → i = j
  at_ : ∀ (i : Nat) (p : Addr), ρ.l[i]? = some (some p) → ∃ o, S[i]? = some (some o) ∧ RelSO K ρ H o p
  live : ∀ (i : Nat) (o : SO), S[i]? = some (some o) → ∃ p, ρ.l[i]? = some (some p)
  hid : ∀ p, p ∈ ρ.hid → some p ∉ ρ.l ∧ ∃ o, H p = some o ∧ Mut (some o)
theorem RelSO.tracked {o : SO} {p : Addr} (h : RelSO K ρ H o p) : ∃ u, H p = some u ∧ Mut (some u) := by
  cases o with
  | lst l => obtain ⟨xs, e, _⟩ := h; exact ⟨_, e, trivial⟩
  | dct ks l => obtain ⟨kvs, e, _⟩ := h; exact ⟨_, e, trivial⟩
  | ins C ns l => obtain ⟨dx, fs, e, _⟩ := h; exact ⟨_, e, trivial⟩
theorem mem_ix {ρ : List (Option Addr)} {p : Addr} (h : some p ∈ ρ) : ∃ i : Nat, ρ[i]? = some (some p) := by
  obtain ⟨i, hi, e⟩ := List.getElem_of_mem h
  exact ⟨i, by rw [List.getElem?_eq_getElem hi, e]⟩
theorem ix_mem {ρ : List (Option Addr)} {p : Addr} {i : Nat} (h : ρ[i]? = some (some p)) : some p ∈ ρ := List.mem_of_getElem? h
theorem Rel.mut {S : Sto} (R : Rel K ρ S H) {p : Addr} (m : Live ρ p) : ∃ o, H p = some o ∧ Mut (some o) := by
  rcases m with m | m
  · obtain ⟨i, e⟩ := mem_ix m
    obtain ⟨o, _, r⟩ := R.at_ i p e
    exact r.tracked
  · exact (R.hid p m).2
theorem Rel.fresh {S : Sto} (R : Rel K ρ S H) {p : Addr} (h : H p = none) : ¬ Live ρ p := fun m => by
  obtain ⟨o, e, _⟩ := R.mut m
  rw [h] at e
  cases e
theorem RelSO.mono1 (k : Keeps ρ H ρ' H') {o : SO} {p : Addr} (e : H' p = H p) (h : RelSO K ρ H o p) : RelSO K ρ' H' o p := by
  cases o with
  | lst l => obtain ⟨xs, e1, r⟩ := h; exact ⟨xs, e.trans e1, RelDs.mono k l r⟩
  | dct ks l => obtain ⟨kvs, e1, e2, r⟩ := h; exact ⟨kvs, e.trans e1, e2, RelDs.mono k l r⟩
  | ins C ns l => obtain ⟨dx, fs, e1, e2, r⟩ := h; exact ⟨dx, fs, e.trans e1, e2, RelDs.mono k l r⟩
/-- fewer references -/
theorem LstAt.sub (h : ∀ p, Live ρ' p → Live ρ p) {p : Addr} {xs : List V} (a : LstAt ρ H p xs) : LstAt ρ' H p xs := ⟨fun m => a.1 (h p m), a.2⟩
theorem XdAt.sub (h : ∀ p, Live ρ' p → Live ρ p) {d : Option Addr} {fs : List (Str × V)} (x : XdAt H ρ d fs) : XdAt H ρ' d fs := x.elim .inl fun ⟨a, e, n, q⟩ => .inr ⟨a, e, fun m => n (h a m), q⟩
mutual
theorem RelD.sub (h : ∀ p, Live ρ' p → Live ρ p) : ∀ (x : D) {v : V}, RelD K ρ H x v → RelD K ρ' H x v
  | .non, _, e => e
  | .bl _, _, e => e
  | .int _, _, e => e
  | .str _, _, e => e
  | .ty _, _, e => e
  | .st _, _, e => e
  | .tup l, _, ⟨p, xs, e, a, r⟩ => ⟨p, xs, e, a, RelDs.sub h l r⟩
  | .lst l, _, ⟨p, xs, e, a, r⟩ => ⟨p, xs, e, a.sub h, RelDs.sub h l r⟩
  | .fzl l, _, ⟨p, xs, e, a, r⟩ => ⟨p, xs, e, a, RelDs.sub h l r⟩
  | .dct ks l, _, ⟨p, kvs, e, n, a, e2, r⟩ => ⟨p, kvs, e, fun m => n (h p m), a, e2, RelDs.sub h l r⟩
  | .obj C ns l, _, ⟨p, dx, fs, e, n, a, e2, r⟩ => ⟨p, dx, fs, e, fun m => n (h p m), a, e2, RelDs.sub h l r⟩
  | .exc C ns l, _, ⟨p, d, fs, e, n, a, a2, e2, r⟩ => ⟨p, d, fs, e, fun m => n (h p m), a, a2.sub h, e2, RelDs.sub h l r⟩
theorem RelDs.sub (h : ∀ p, Live ρ' p → Live ρ p) : ∀ (l : List D) {xs : List V}, RelDs K ρ H l xs → RelDs K ρ' H l xs
  | [], _, e => e
  | x :: l, _, ⟨y, ys, e, a, r⟩ => ⟨y, ys, e, RelD.sub h x a, RelDs.sub h l r⟩
end
theorem RelSO.sub (h : ∀ p, Live ρ' p → Live ρ p) {o : SO} {p : Addr} (r : RelSO K ρ H o p) : RelSO K ρ' H o p := by
  cases o with
  | lst l => obtain ⟨xs, e, r⟩ := r; exact ⟨xs, e, RelDs.sub h l r⟩
  | dct ks l => obtain ⟨kvs, e, e2, r⟩ := r; exact ⟨kvs, e, e2, RelDs.sub h l r⟩
  | ins C ns l => obtain ⟨dx, fs, e, e2, r⟩ := r; exact ⟨dx, fs, e, e2, RelDs.sub h l r⟩
/-- the first n places alone -/
def Rho.cut (ρ : Rho) (n : Nat) : Rho := { ρ with l := ρ.l.take n }
theorem live_cut {ρ : Rho} {n : Nat} {p : Addr} (h : Live (ρ.cut n) p) : Live ρ p := h.elim (fun m => .inl (List.mem_of_mem_take m)) .inr
theorem Rel.cut {S : Sto} (R : Rel K ρ S H) (n : Nat) : Rel K (ρ.cut n) (S.take n) H := by
  have key : ∀ (i : Nat) (q : Option Addr), (ρ.l.take n)[i]? = some q → i < n ∧ ρ.l[i]? = some q := fun i q e => by
    rw [List.getElem?_take] at e
    split at e
    · exact ⟨by assumption, e⟩
    · cases e
  refine ⟨by simp [Rho.cut, R.len], fun i j p e1 e2 => R.inj i j p (key i _ e1).2 (key j _ e2).2, fun i p e => ?_, fun i o e => ?_, fun p m => ⟨fun z => (R.hid p m).1 (List.mem_of_mem_take z), (R.hid p m).2⟩⟩
  · obtain ⟨hi, e1⟩ := key i _ e
    obtain ⟨o, e2, r⟩ := R.at_ i p e1
    exact ⟨o, by rw [List.getElem?_take_of_lt hi]; exact e2, RelSO.sub (fun p m => live_cut m) r⟩
  · rw [List.getElem?_take] at e
    split at e
    · rename_i hi
      obtain ⟨p, e1⟩ := R.live i o e
      exact ⟨p, by show (ρ.l.take n)[i]? = _; rw [List.getElem?_take_of_lt hi]; exact e1⟩
    · cases e
/-- a new object, not kept in the store -/
theorem Keeps.new {p : Addr} {o : HO} (h : H p = none) (R : ∀ b, b ∈ ρ.hid → ∃ u, H b = some u) : Keeps ρ H ρ (upd H p o) :=
  ⟨fun i q e => ⟨q, e, fun _ z => z⟩, fun b u e n => ⟨by rw [upd_ne (ne_of_none e h)]; exact e, n⟩, fun b xs e => by rw [upd_ne (ne_of_none e h)]; exact e, fun b u v e => by rw [upd_ne (ne_of_none e h)]; exact e,
    fun b m => ⟨m, by obtain ⟨u, e⟩ := R b m; rw [upd_ne (ne_of_none e h)]⟩⟩
theorem Rel.hid' {S : Sto} (R : Rel K ρ S H) : ∀ b, b ∈ ρ.hid → ∃ u, H b = some u := fun b m => let ⟨_, u, e, _⟩ := R.hid b m; ⟨u, e⟩
theorem Rel.new {S : Sto} {p : Addr} {o : HO} (R : Rel K ρ S H) (h : H p = none) : Rel K ρ S (upd H p o) :=
  ⟨R.len, R.inj, fun i q e => by
    obtain ⟨u, e1, r⟩ := R.at_ i q e
    obtain ⟨v, e2, _⟩ := r.tracked
    exact ⟨u, e1, r.mono1 (Keeps.new h R.hid') (upd_ne (ne_of_none e2 h))⟩, R.live, fun b m => ⟨(R.hid b m).1, by obtain ⟨u, e, mu⟩ := (R.hid b m).2; exact ⟨u, by rw [upd_ne (ne_of_none e h)]; exact e, mu⟩⟩⟩
/-- a new object, kept in the store -/
def Rho.reg (ρ : Rho) (p : Addr) : Rho := { ρ with l := ρ.l ++ [some p] }
theorem live_reg {ρ : Rho} {p q : Addr} (h : Live (ρ.reg p) q) : Live ρ q ∨ q = p := by
  rcases h with h | h
  · rcases List.mem_append.mp h with m | m
    · exact .inl (.inl m)
    · have : some q = some p := by simpa using m
      cases this
      exact .inr rfl
  · exact .inl (.inr h)
theorem Keeps.reg {p : Addr} {o : HO} (h : H p = none) (R : ∀ b, b ∈ ρ.hid → ∃ u, H b = some u) : Keeps ρ H (ρ.reg p) (upd H p o) :=
  ⟨fun i q e => ⟨q, by show (ρ.l ++ [some p])[i]? = _; rw [List.getElem?_append_left (List.getElem?_eq_some_iff.mp e).1]; exact e, fun _ z => z⟩,
    fun b u e n => ⟨by rw [upd_ne (ne_of_none e h)]; exact e, fun m => by
      rcases live_reg m with m | m
      · exact n m
      · subst m
        rw [h] at e
        cases e⟩, fun b xs e => by rw [upd_ne (ne_of_none e h)]; exact e, fun b u v e => by rw [upd_ne (ne_of_none e h)]; exact e,
    fun b m => ⟨m, by obtain ⟨u, e⟩ := R b m; rw [upd_ne (ne_of_none e h)]⟩⟩
theorem Rel.reg {S : Sto} {p : Addr} {u : HO} {o : SO} (R : Rel K ρ S H) (h : H p = none) (r : RelSO K (ρ.reg p) (upd H p u) o p) : Rel K (ρ.reg p) (S ++ [some o]) (upd H p u) := by
  have key : ∀ (i : Nat) (q : Addr), (ρ.l ++ [some p])[i]? = some (some q) → (ρ.l[i]? = some (some q) ∧ q ≠ p) ∨ (i = ρ.l.length ∧ q = p) := fun i q e => by
    by_cases hi : i < ρ.l.length
    · rw [List.getElem?_append_left hi] at e
      refine .inl ⟨e, fun z => ?_⟩
      subst z
      exact R.fresh h (.inl (ix_mem e))
    · rw [List.getElem?_append_right (by omega)] at e
      have hl : i - ρ.l.length = 0 := by
        have := (List.getElem?_eq_some_iff.mp e).1
        simp at this
        omega
      rw [hl] at e
      simp at e
      exact .inr ⟨by omega, e.symm⟩
  refine ⟨by simp [Rho.reg, R.len], fun i j q e1 e2 => ?_, fun i q e => ?_, fun i u2 e => ?_, fun b m => ⟨fun z => ?_, ?_⟩⟩
  · rcases key i q e1 with ⟨a, n⟩ | ⟨a, n⟩ <;> rcases key j q e2 with ⟨b, m⟩ | ⟨b, m⟩
    · exact R.inj i j q a b
    · exact absurd m n
    · exact absurd n m
    · omega
  · rcases key i q e with ⟨a, n⟩ | ⟨a, n⟩
    · obtain ⟨v, e1, r1⟩ := R.at_ i q a
      exact ⟨v, by rw [List.getElem?_append_left (List.getElem?_eq_some_iff.mp e1).1]; exact e1, r1.mono1 (Keeps.reg h R.hid') (upd_ne n)⟩
    · subst n
      refine ⟨o, ?_, r⟩
      rw [a, R.len]
      simp
  · by_cases hi : i < S.length
    · rw [List.getElem?_append_left hi] at e
      obtain ⟨q, e2⟩ := R.live i u2 e
      exact ⟨q, by show (ρ.l ++ [some p])[i]? = _; rw [List.getElem?_append_left (List.getElem?_eq_some_iff.mp e2).1]; exact e2⟩
    · rw [List.getElem?_append_right (by omega)] at e
      have hl : i - S.length = 0 := by
        have := (List.getElem?_eq_some_iff.mp e).1
        simp at this
        omega
      exact ⟨p, by show (ρ.l ++ [some p])[i]? = _; rw [show i = ρ.l.length by rw [R.len]; omega]; simp⟩
  · rcases live_reg (.inl z) with z | z
    · rcases z with z | z
      · exact (R.hid b m).1 z
      · rcases List.mem_append.mp ‹some b ∈ (ρ.reg p).l› with q | q
        · exact (R.hid b m).1 q
        · have : some b = some p := by simpa using q
          cases this
          exact R.fresh h (.inr m)
    · subst z
      exact R.fresh h (.inr m)
  · obtain ⟨v, e, mu⟩ := (R.hid b m).2
    exact ⟨v, by rw [upd_ne (ne_of_none e h)]; exact e, mu⟩
/-- an object of the store is written -/
theorem Keeps.write {S : Sto} {p : Addr} {o : HO} {i : Nat} (R : Rel K ρ S H) (h : ρ.l[i]? = some (some p)) : Keeps ρ H ρ (upd H p o) := by
  obtain ⟨v, e1, r1⟩ := R.at_ i p h
  obtain ⟨u, e2, mu⟩ := r1.tracked
  exact ⟨fun i q e => ⟨q, e, fun _ z => z⟩, fun b u e n => ⟨by rw [upd_ne (fun z : b = p => n (by rw [z]; exact .inl (ix_mem h)))]; exact e, n⟩,
    fun b xs e => by rw [upd_ne (fun z => by subst z; rw [e] at e2; cases e2; exact mu)]; exact e,
    fun b u v e => by rw [upd_ne (fun z => by subst z; rw [e] at e2; cases e2; exact mu)]; exact e,
    fun b m => ⟨m, upd_ne (fun z : b = p => (R.hid b m).1 (by rw [z]; exact ix_mem h))⟩⟩
theorem Rel.write {S : Sto} {p : Addr} {u : HO} {o : SO} {i : Nat} (R : Rel K ρ S H) (h : ρ.l[i]? = some (some p)) (r : RelSO K ρ (upd H p u) o p) : Rel K ρ (S.set i (some o)) (upd H p u) := by
  have hi : i < S.length := by rw [← R.len]; exact (List.getElem?_eq_some_iff.mp h).1
  refine ⟨by simp [R.len], R.inj, fun j q e => ?_, fun j u2 e => ?_, fun b m => ⟨(R.hid b m).1, ?_⟩⟩
  · by_cases hj : j = i
    · subst hj
      rw [h] at e
      cases e
      exact ⟨o, by simp [hi], r⟩
    · obtain ⟨v, e1, r1⟩ := R.at_ j q e
      exact ⟨v, by rw [List.getElem?_set_ne (Ne.symm hj)]; exact e1, r1.mono1 (Keeps.write R h) (upd_ne fun z => hj (R.inj j i q e (z ▸ h)))⟩
  · by_cases hj : j = i
    · subst hj
      exact ⟨p, h⟩
    · rw [List.getElem?_set_ne (Ne.symm hj)] at e
      exact R.live j u2 e
  · obtain ⟨v, e, mu⟩ := (R.hid b m).2
    exact ⟨v, by rw [upd_ne (fun z : b = p => (R.hid b m).1 (by rw [z]; exact ix_mem h))]; exact e, mu⟩
/-- the store back to its first n objects -/
theorem Keeps.cut {ρ1 : Rho} {H1 : Hp} (k : Keeps ρ H ρ1 H1) (n : Nat) (hn : n = ρ.l.length) : Keeps ρ H (ρ1.cut n) H1 where
  pre := fun i q e => by
    obtain ⟨q', e', h'⟩ := k.pre i q e
    refine ⟨q', ?_, h'⟩
    show (ρ1.l.take n)[i]? = _
    rw [List.getElem?_take_of_lt (by rw [hn]; exact (List.getElem?_eq_some_iff.mp e).1)]
    exact e'
  out := fun b o e h => ⟨(k.out b o e h).1, fun m => (k.out b o e h).2 (live_cut m)⟩
  tups := k.tups
  frzs := k.frzs
  hid := k.hid
end
/-- what stands beyond the first n is not among them -/
theorem Rel.beyond {K : PySem.W.Frag} {ρ : Rho} {S : Sto} {H : Hp} (R : Rel K ρ S H) {n i : Nat} {p : Addr} (h : n ≤ i) (e : ρ.l[i]? = some (some p)) : ¬ Live (ρ.cut n) p := fun m => by
  rcases m with m | m
  · obtain ⟨j, hj⟩ := mem_ix m
    have hj' : (ρ.l.take n)[j]? = some (some p) := hj
    rw [List.getElem?_take] at hj'
    split at hj'
    · have := R.inj i j p e hj'
      omega
    · cases hj'
  · exact (R.hid p m).1 (ix_mem e)

/-! ### the frame's names -/
structure RelSt (K : PySem.W.Frag) (ρ : Rho) (H : Hp) (τ : Tau) (σ : St) : Prop where
  len : τ.length = σ.length
  at_ : ∀ (i : Nat) (w : W), τ[i]? = some (some w) → ∃ v, σ[i]? = some (some v) ∧ RelW K ρ H w v
section
variable {K : PySem.W.Frag} {ρ ρ' : Rho} {H H' : Hp} {τ : Tau} {σ : St}
theorem RelSt.mono (k : Keeps ρ H ρ' H') (h : RelSt K ρ H τ σ) : RelSt K ρ' H' τ σ := ⟨h.len, fun i w e => let ⟨v, e1, r⟩ := h.at_ i w e; ⟨v, e1, r.mono k⟩⟩
theorem RelSt.set (h : RelSt K ρ H τ σ) (i : Nat) {w : W} {v : V} (r : RelW K ρ H w v) : RelSt K ρ H (τ.set i (some w)) (σ.set i (some v)) := by
  refine ⟨by simp [h.len], fun j u e => ?_⟩
  by_cases hj : i = j
  · subst hj
    have hi : i < τ.length := by
      have := (List.getElem?_eq_some_iff.mp e).1
      simpa using this
    rw [List.getElem?_set_self hi] at e
    cases e
    exact ⟨v, by rw [List.getElem?_set_self (by rw [← h.len]; exact hi)], r⟩
  · rw [List.getElem?_set_ne hj] at e
    obtain ⟨x, e1, r1⟩ := h.at_ j u e
    exact ⟨x, by rw [List.getElem?_set_ne hj]; exact e1, r1⟩

/-! ### what is wanted behind a mirror's end -/
def After (K : PySem.W.Frag) (ρ : Rho) (H : Hp) (r : Res W) (Q : VK) (E : XK) : Prop := match r with
  | .ok w S' => ∀ ρ' H' v, Keeps ρ H ρ' H' → Rel K ρ' S' H' → RelW K ρ' H' w v → Q v H'
  | .exc C ns ds S' => ∀ ρ' H' d fs, Keeps ρ H ρ' H' → Rel K ρ' S' H' → XdAt H' ρ' d fs → fs.map (·.1) = ns → RelDs K ρ' H' ds (fs.map (·.2)) → E (.ref C) d H'
  | .bad => False
/-- the same of lists of values (arguments) -/
def AfterL (K : PySem.W.Frag) (ρ : Rho) (H : Hp) (r : Res (List W)) (Q : List V → Hp → Prop) (E : XK) : Prop := match r with
  | .ok w S' => ∀ ρ' H' v, Keeps ρ H ρ' H' → Rel K ρ' S' H' → RelWs K ρ' H' w v → Q v H'
  | .exc C ns ds S' => ∀ ρ' H' d fs, Keeps ρ H ρ' H' → Rel K ρ' S' H' → XdAt H' ρ' d fs → fs.map (·.1) = ns → RelDs K ρ' H' ds (fs.map (·.2)) → E (.ref C) d H'
  | .bad => False
def AfterB (K : PySem.W.Frag) (ρ : Rho) (H : Hp) (r : Res Bool) (Q : Bool → Hp → Prop) (E : XK) : Prop := match r with
  | .ok w S' => ∀ ρ' H', Keeps ρ H ρ' H' → Rel K ρ' S' H' → Q w H'
  | .exc C ns ds S' => ∀ ρ' H' d fs, Keeps ρ H ρ' H' → Rel K ρ' S' H' → XdAt H' ρ' d fs → fs.map (·.1) = ns → RelDs K ρ' H' ds (fs.map (·.2)) → E (.ref C) d H'
  | .bad => False
theorem After.shift {r : Res W} {Q : VK} {E : XK} (k : Keeps ρ H ρ' H') (h : After K ρ H r Q E) : After K ρ' H' r Q E := by
  cases r with
  | ok w S => exact fun ρ2 H2 v k2 R r => h ρ2 H2 v (k.trans k2) R r
  | exc C ns ds S => exact fun ρ2 H2 d fs k2 R a b c => h ρ2 H2 d fs (k.trans k2) R a b c
  | bad => exact h
theorem AfterL.shift {r : Res (List W)} {Q : List V → Hp → Prop} {E : XK} (k : Keeps ρ H ρ' H') (h : AfterL K ρ H r Q E) : AfterL K ρ' H' r Q E := by
  cases r with
  | ok w S => exact fun ρ2 H2 v k2 R r => h ρ2 H2 v (k.trans k2) R r
  | exc C ns ds S => exact fun ρ2 H2 d fs k2 R a b c => h ρ2 H2 d fs (k.trans k2) R a b c
  | bad => exact h
theorem AfterB.shift {r : Res Bool} {Q : Bool → Hp → Prop} {E : XK} (k : Keeps ρ H ρ' H') (h : AfterB K ρ H r Q E) : AfterB K ρ' H' r Q E := by
  cases r with
  | ok w S => exact fun ρ2 H2 k2 R => h ρ2 H2 (k.trans k2) R
  | exc C ns ds S => exact fun ρ2 H2 d fs k2 R a b c => h ρ2 H2 d fs (k.trans k2) R a b c
  | bad => exact h
end
end L3

set_option Elab.async false
set_option linter.all false
set_option maxRecDepth 100000
set_option maxHeartbeats 2000000
namespace L3
open PySem L2

/-! ### mirrors and what they lift to -/
abbrev ME := Tau → Sto → Res W
abbrev MB := Tau → Sto → Res Bool
abbrev ML := Tau → Sto → Res (List W)
inductive Fl where
  | nx (τ : Tau) | rt (w : W) | bk (τ : Tau) | ct (τ : Tau)
inductive RS where
  | ok (f : Fl) (S : Sto) | exc (C : Addr) (ns : List Str) (ds : List D) (τ : Tau) (S : Sto) | bad
abbrev MS := Tau → Sto → RS
/-- the wish about exceptions, at the slots σ -/
def atσ (Wx : WX) (σ : St) : XK := fun c d H => Wx c d σ H
def LE (K : PySem.W.Frag) (Wx : WX) (m : ME) : TE := fun σ H Q => ∃ ρ S τ, Rel K ρ S H ∧ RelSt K ρ H τ σ ∧ After K ρ H (m τ S) Q (atσ Wx σ)
def LT (K : PySem.W.Frag) (Wx : WX) (m : MB) : TT := fun σ H Q => ∃ ρ S τ, Rel K ρ S H ∧ RelSt K ρ H τ σ ∧ AfterB K ρ H (m τ S) Q (atσ Wx σ)
def LA (K : PySem.W.Frag) (Wx : WX) (m : ML) : TA := fun σ H Q => ∃ ρ S τ, Rel K ρ S H ∧ RelSt K ρ H τ σ ∧ AfterL K ρ H (m τ S) Q (atσ Wx σ)
def AfterS (K : PySem.W.Frag) (ρ : Rho) (H : Hp) (r : RS) (D : Ends) (Wx : WX) : Prop := match r with
  | .ok (.nx τ) S => ∀ ρ' H' σ', Keeps ρ H ρ' H' → Rel K ρ' S H' → RelSt K ρ' H' τ σ' → D.nx σ' H'
  | .ok (.bk τ) S => ∀ ρ' H' σ', Keeps ρ H ρ' H' → Rel K ρ' S H' → RelSt K ρ' H' τ σ' → D.bk σ' H'
  | .ok (.ct τ) S => ∀ ρ' H' σ', Keeps ρ H ρ' H' → Rel K ρ' S H' → RelSt K ρ' H' τ σ' → D.ct σ' H'
  | .ok (.rt w) S => ∀ ρ' H' v, Keeps ρ H ρ' H' → Rel K ρ' S H' → RelW K ρ' H' w v → D.rt v H'
  | .exc C ns ds τ S => ∀ ρ' H' σ' d fs, Keeps ρ H ρ' H' → Rel K ρ' S H' → RelSt K ρ' H' τ σ' → XdAt H' ρ' d fs → fs.map (·.1) = ns → RelDs K ρ' H' ds (fs.map (·.2)) → Wx (.ref C) d σ' H'
  | .bad => False
def LS (K : PySem.W.Frag) (Wx : WX) (m : MS) : TS := fun D σ H => ∃ ρ S τ, Rel K ρ S H ∧ RelSt K ρ H τ σ ∧ AfterS K ρ H (m τ S) D Wx

/-! ### weaker readings -/
section
variable {X : Cx}
theorem _root_.L2.PE.mono {e : Expr} {t t' : TE} (h : PE X e t) (i : ∀ σ H Q, t' σ H Q → t σ H Q) : PE X e t' := ⟨fun pins s σ H Q I q => h.run pins s σ H Q I (i σ H Q q)⟩
theorem _root_.L2.PT.mono {e : Expr} {t t' : TT} (h : PT X e t) (i : ∀ σ H Q, t' σ H Q → t σ H Q) : PT X e t' := ⟨fun pins s σ H Q I q => h.run pins s σ H Q I (i σ H Q q)⟩
theorem _root_.L2.PW.mono {e : Expr} {t t' : TT} (h : PW X e t) (i : ∀ σ H Q, t' σ H Q → t σ H Q) : PW X e t' := ⟨fun wh pins s σ H Q I q => h.run wh pins s σ H Q I (i σ H Q q)⟩
theorem _root_.L2.PA.mono {e : List Expr} {t t' : TA} (h : PA X e t) (i : ∀ σ H Q, t' σ H Q → t σ H Q) : PA X e t' := ⟨fun pos pins s σ H Q I q => h.run pos pins s σ H Q I (i σ H Q q)⟩
theorem _root_.L2.PS.mono {e : Stmt} {t t' : TS} (h : PS X e t) (i : ∀ D σ H, t' D σ H → t D σ H) : PS X e t' := ⟨fun pins s σ H D I q => h.run pins s σ H D I (i D σ H q)⟩
theorem _root_.L2.PSs.mono {e : List Stmt} {t t' : TS} (h : PSs X e t) (i : ∀ D σ H, t' D σ H → t D σ H) : PSs X e t' := ⟨fun pins s σ H D I q => h.run pins s σ H D I (i D σ H q)⟩
end
theorem opMono {X : Cx} {f : Value → Value → Sem Value} {r r' : R2} (h : OpR X f r) (i : ∀ x y H Q, r' x y H Q → r x y H Q) : OpR X f r' := fun pins s σ H x y v u Q I rx ry q => h pins s σ H x y v u Q I rx ry (i x y H Q q)

/-! ### chaining -/
section
variable {K : PySem.W.Frag} {ρ : Rho} {H : Hp} {E : XK}
/-- behind a part -/
structure At (K : PySem.W.Frag) (ρ : Rho) (H : Hp) (w : W) (S1 : Sto) (v : V) (ρ1 : Rho) (H1 : Hp) : Prop where
  k : Keeps ρ H ρ1 H1
  R : Rel K ρ1 S1 H1
  r : RelW K ρ1 H1 w v
theorem After.bind {r : Res W} {k : W → Sto → Res W} {Q : VK} (h : After K ρ H (r.bind k) Q E) : After K ρ H r (fun v H1 => ∃ ρ1 S1 w, At K ρ H w S1 v ρ1 H1 ∧ After K ρ1 H1 (k w S1) Q E) E := by
  cases r with
  | ok w S => exact fun ρ1 H1 v a b c => ⟨ρ1, S, w, ⟨a, b, c⟩, h.shift a⟩
  | exc C ns ds S => exact h
  | bad => exact h
theorem After.bindB {r : Res W} {k : W → Sto → Res Bool} {Q : Bool → Hp → Prop} (h : AfterB K ρ H (r.bind k) Q E) : After K ρ H r (fun v H1 => ∃ ρ1 S1 w, At K ρ H w S1 v ρ1 H1 ∧ AfterB K ρ1 H1 (k w S1) Q E) E := by
  cases r with
  | ok w S => exact fun ρ1 H1 v a b c => ⟨ρ1, S, w, ⟨a, b, c⟩, AfterB.shift a h⟩
  | exc C ns ds S => exact h
  | bad => exact h
theorem After.bindL {r : Res W} {k : W → Sto → Res (List W)} {Q : List V → Hp → Prop} (h : AfterL K ρ H (r.bind k) Q E) : After K ρ H r (fun v H1 => ∃ ρ1 S1 w, At K ρ H w S1 v ρ1 H1 ∧ AfterL K ρ1 H1 (k w S1) Q E) E := by
  cases r with
  | ok w S => exact fun ρ1 H1 v a b c => ⟨ρ1, S, w, ⟨a, b, c⟩, AfterL.shift a h⟩
  | exc C ns ds S => exact h
  | bad => exact h
theorem AfterL.bind {r : Res (List W)} {k : List W → Sto → Res W} {Q : VK} (h : After K ρ H (r.bind k) Q E) : AfterL K ρ H r (fun v H1 => ∃ ρ1 S1 w, Keeps ρ H ρ1 H1 ∧ Rel K ρ1 S1 H1 ∧ RelWs K ρ1 H1 w v ∧ After K ρ1 H1 (k w S1) Q E) E := by
  cases r with
  | ok w S => exact fun ρ1 H1 v a b c => ⟨ρ1, S, w, a, b, c, h.shift a⟩
  | exc C ns ds S => exact h
  | bad => exact h
theorem AfterL.bindL {r : Res (List W)} {k : List W → Sto → Res (List W)} {Q : List V → Hp → Prop} (h : AfterL K ρ H (r.bind k) Q E) : AfterL K ρ H r (fun v H1 => ∃ ρ1 S1 w, Keeps ρ H ρ1 H1 ∧ Rel K ρ1 S1 H1 ∧ RelWs K ρ1 H1 w v ∧ AfterL K ρ1 H1 (k w S1) Q E) E := by
  cases r with
  | ok w S => exact fun ρ1 H1 v a b c => ⟨ρ1, S, w, a, b, c, AfterL.shift a h⟩
  | exc C ns ds S => exact h
  | bad => exact h
theorem AfterB.bind {r : Res Bool} {k : Bool → Sto → Res W} {Q : VK} (h : After K ρ H (r.bind k) Q E) : AfterB K ρ H r (fun v H1 => ∃ ρ1 S1, Keeps ρ H ρ1 H1 ∧ Rel K ρ1 S1 H1 ∧ After K ρ1 H1 (k v S1) Q E) E := by
  cases r with
  | ok w S => exact fun ρ1 H1 a b => ⟨ρ1, S, a, b, h.shift a⟩
  | exc C ns ds S => exact h
  | bad => exact h
theorem AfterB.bindB {r : Res Bool} {k : Bool → Sto → Res Bool} {Q : Bool → Hp → Prop} (h : AfterB K ρ H (r.bind k) Q E) : AfterB K ρ H r (fun v H1 => ∃ ρ1 S1, Keeps ρ H ρ1 H1 ∧ Rel K ρ1 S1 H1 ∧ AfterB K ρ1 H1 (k v S1) Q E) E := by
  cases r with
  | ok w S => exact fun ρ1 H1 a b => ⟨ρ1, S, a, b, AfterB.shift a h⟩
  | exc C ns ds S => exact h
  | bad => exact h
/-- only what comes back -/
def Res.quiet {α : Type} (r : Res α) : Res α := match r with
  | .ok a S => .ok a S
  | _ => .bad
theorem After.quiet {r : Res W} {Q : VK} (h : After K ρ H r.quiet Q E) : ∃ w S, r = .ok w S ∧ ∀ ρ' H' v, Keeps ρ H ρ' H' → Rel K ρ' S H' → RelW K ρ' H' w v → Q v H' := by
  cases r with
  | ok w S => exact ⟨w, S, rfl, h⟩
  | exc C ns ds S => exact h.elim
  | bad => exact h.elim
/-- an end without a change -/
theorem After.here {w : W} {S : Sto} {Q : VK} {v : V} (R : Rel K ρ S H) (r : RelW K ρ H w v) (h : After K ρ H (.ok w S) Q E) : Q v H := h ρ H v Keeps.refl R r
end

/-! ### names, constants -/
def mVar (i : Nat) : ME := fun τ S => match τ[i]? with
  | some (some w) => .ok w S
  | _ => .bad
def mD (x : D) : ME := fun _ S => .ok (.d x) S
section
variable {X : Cx} {Wx : WX}
theorem re_var (i : Nat) {x : Str} {pos : Pos} (hN : X.N[i]? = some x := by rfl) (hv : Vis X.env.scope x := by first | exact Or.inl rfl | exact Or.inr (Or.inl rfl) | exact Or.inr (Or.inr rfl)) (hd : (x == ("__debug__" : Str)) = false := by decide)
    (hcd : (x == ("__classdict__" : Str)) = false := by decide) : PE X (.Name x pos) (LE X.K Wx (mVar i)) := (pe_var hN hv hd hcd).mono fun σ H Q h => by
  obtain ⟨ρ, S, τ, R, s, h⟩ := h
  unfold mVar at h
  split at h
  · rename_i w e
    obtain ⟨v, e1, r⟩ := s.at_ i w e
    exact ⟨v, e1, h.here R r⟩
  · exact h.elim
theorem re_d {e : Expr} {v : V} {x : D} (h : PE X e (tC v)) (r : ∀ ρ H, RelD X.K ρ H x v) : PE X e (LE X.K Wx (mD x)) := h.mono fun σ H Q h => by
  obtain ⟨ρ, S, τ, R, s, h⟩ := h
  exact After.here (w := .d x) R (r ρ H) h
theorem re_int {i j pos} : PE X (.Constant (.int i) j pos) (LE X.K Wx (mD (.int i))) := re_d pe_int fun _ _ => rfl
theorem re_bl {i j pos} : PE X (.Constant (.bool i) j pos) (LE X.K Wx (mD (.bl i))) := re_d pe_bl fun _ _ => rfl
theorem re_non {j pos} : PE X (.Constant .none j pos) (LE X.K Wx (mD .non)) := re_d pe_non fun _ _ => rfl
theorem re_str {i j pos} : PE X (.Constant (.str i) j pos) (LE X.K Wx (mD (.str i))) := re_d pe_str fun _ _ => rfl
/-- a class, a def, an int, a text of the module -/
theorem re_glob {x : Str} {v : V} {u : Value} {y : D} {pos : Pos} (hm : X.mg x = some u) (r : RelV v u) (ry : ∀ ρ H, RelD X.K ρ H y v) (hg : Gl X x := by rfl) (hd : (x == ("__debug__" : Str)) = false := by decide) : PE X (.Name x pos) (LE X.K Wx (mD y)) := re_d (pe_glob hg hm r hd) ry
theorem re_bltn {x : Str} {v : V} {u : Value} {y : D} {pos : Pos} (hm : X.mg x = none) (hv : bootBuiltins x = some u) (r : RelV v u) (ry : ∀ ρ H, RelD X.K ρ H y v) (hg : Gl X x := by rfl) (hn : x ≠ "__name__" := by decide) (hd : (x == ("__debug__" : Str)) = false := by decide) : PE X (.Name x pos) (LE X.K Wx (mD y)) := re_d (pe_bltn hg hm hv r hn hd) ry
end

/-! ### operators -/
def mBin (g : W → W → Sto → Res W) (a b : ME) : ME := fun τ S => (a τ S).bind fun x S1 => (b τ S1).bind fun y S2 => (g x y S2).quiet
def liftOp (K : PySem.W.Frag) (g : W → W → Sto → Res W) : R2 := fun x y H Q => ∃ ρ S a b w S', Rel K ρ S H ∧ RelW K ρ H a x ∧ RelW K ρ H b y ∧ g a b S = .ok w S' ∧ ∀ ρ' H' v, Keeps ρ H ρ' H' → Rel K ρ' S' H' → RelW K ρ' H' w v → Q v H'
theorem bin_core {K : PySem.W.Frag} {Wx : WX} {g : W → W → Sto → Res W} {ma mb : ME} {σ : St} {H : Hp} {Q : VK} (h : LE K Wx (mBin g ma mb) σ H Q) : tOp (liftOp K g) (LE K Wx ma) (LE K Wx mb) σ H Q := by
  obtain ⟨ρ, S, τ, R, s, h⟩ := h
  refine ⟨ρ, S, τ, R, s, ?_⟩
  have h1 := After.bind h
  revert h1
  cases ma τ S with
  | bad => exact fun z => z
  | exc C ns ds S1 => exact fun z => z
  | ok w S1 =>
    intro h1 ρ1 H1 v k1 R1 r1
    obtain ⟨ρa, Sa, wa, A, h2⟩ := h1 ρ1 H1 v k1 R1 r1
    refine ⟨ρa, Sa, τ, A.R, s.mono A.k, ?_⟩
    have h3 := After.bind h2
    revert h3
    cases mb τ Sa with
    | bad => exact fun z => z
    | exc C ns ds S1 => exact fun z => z
    | ok w2 S2 =>
      intro h3 ρ2 H2 u k2 R2 r2
      obtain ⟨ρb, Sb, wb, B, h4⟩ := h3 ρ2 H2 u k2 R2 r2
      obtain ⟨w', S', e, q⟩ := After.quiet h4
      exact ⟨ρb, Sb, wa, wb, w', S', B.R, A.r.mono B.k, B.r, e, q⟩
section
variable {X : Cx} {Wx : WX} {a b c : Expr} {ma mb mc : ME} {pos : Pos} {g g' : W → W → Sto → Res W}
theorem re_bin {op : Operator} (ho : OpR X (binaryOp op) (liftOp X.K g)) (ha : PE X a (LE X.K Wx ma)) (hb : PE X b (LE X.K Wx mb)) : PE X (.BinOp a op b pos) (LE X.K Wx (mBin g ma mb)) := (pe_op ho ha hb).mono fun _ _ _ h => bin_core h
theorem re_cmp {op : CmpOp} (ho : OpR X (compareOp op) (liftOp X.K g)) (ha : PE X a (LE X.K Wx ma)) (hb : PE X b (LE X.K Wx mb)) (hm : behindInMarks op b = false) : PE X (.Compare a [op] [b] pos) (LE X.K Wx (mBin g ma mb)) := (pe_cmpR ho ha hb hm).mono fun _ _ _ h => bin_core h
end

/-! ### the test of a value -/
def blOf : W → Option Bool
  | .d (.bl b) => some b
  | _ => none
def lenOf (S : Sto) : W → Option Nat
  | .d (.str x) => some x.length
  | .d (.tup l) => some l.length
  | .d (.lst l) => some l.length
  | .d (.fzl l) => some l.length
  | .d (.dct ks _) => some ks.length
  | .ref i => match S[i]? with
    | some (some (.lst l)) => some l.length
    | some (some (.dct ks _)) => some ks.length
    | _ => none
  | _ => none
def truOf (S : Sto) : W → Option Bool
  | .d .non => some false
  | .d (.bl b) => some b
  | .d (.int i) => some (i != 0)
  | .d (.str x) => if x.length ≤ 100000 then some ((x.length : Int) != 0) else none
  | .d (.tup l) => some (!l.isEmpty)
  | .d (.lst l) => some (!l.isEmpty)
  | .d (.fzl l) => some (!l.isEmpty)
  | .d (.dct ks _) => some (!ks.isEmpty)
  | .ref i => match S[i]? with
    | some (some (.lst l)) => some (!l.isEmpty)
    | some (some (.dct ks _)) => some (!ks.isEmpty)
    | _ => none
  | _ => none
theorem size5 {n : Nat} (h : n ≤ 100000) : n ≤ sizeLine := Nat.le_trans h (by decide)
theorem RelDs.empty {K : PySem.W.Frag} {ρ : Rho} {H : Hp} {l : List D} {xs : List V} (r : RelDs K ρ H l xs) : l.isEmpty = xs.isEmpty := by
  have := r.length
  cases l <;> cases xs <;> simp_all
section
variable {K : PySem.W.Frag} {ρ : Rho} {H : Hp} {S : Sto}
theorem Rel.ref (R : Rel K ρ S H) {i : Nat} {o : SO} {v : V} (e : S[i]? = some (some o)) (r : RelW K ρ H (.ref i) v) : ∃ p, v = .ref p ∧ ρ.l[i]? = some (some p) ∧ RelSO K ρ H o p := by
  obtain ⟨p, e1⟩ := R.live i o e
  obtain ⟨q, e2, h⟩ := r
  rw [e1] at e2
  cases e2
  obtain ⟨o', e3, r'⟩ := R.at_ i p e1
  rw [e] at e3
  cases e3
  exact ⟨p, h p rfl, e1, r'⟩
theorem tru_of (R : Rel K ρ S H) {w : W} {v : V} {b : Bool} (r : RelW K ρ H w v) (e : truOf S w = some b) : TruV K v H b := by
  cases w with
  | ref i =>
    unfold truOf at e
    simp only at e
    split at e
    · rename_i l e1
      cases e
      obtain ⟨p, rfl, _, xs, e2, r2⟩ := R.ref e1 r
      exact .inl ⟨xs, SqL.of e2, by rw [r2.empty]⟩
    · rename_i ks l e1
      cases e
      obtain ⟨p, rfl, _, kvs, e2, e3, r2⟩ := R.ref e1 r
      exact .inr (.inr ⟨kvs, e2, by rw [← e3]; cases kvs <;> rfl⟩)
    · cases e
  | d x =>
    cases x with
    | non => cases e; cases r; rfl
    | bl b => cases e; cases r; rfl
    | int i => cases e; cases r; rfl
    | str x =>
      cases r
      unfold truOf at e
      simp only at e
      split at e
      · rename_i hl
        cases e
        exact ⟨size5 hl, rfl⟩
      · cases e
    | tup l =>
      obtain ⟨p, xs, rfl, h, r2⟩ := r
      cases e
      exact .inr (.inl ⟨xs, h, by rw [RelDs.empty r2]⟩)
    | lst l =>
      obtain ⟨p, xs, rfl, h, r2⟩ := r
      cases e
      exact .inl ⟨xs, h.sq, by rw [RelDs.empty r2]⟩
    | fzl l =>
      obtain ⟨p, xs, rfl, h, r2⟩ := r
      cases e
      exact .inl ⟨xs, h.sq, by rw [RelDs.empty r2]⟩
    | dct ks l =>
      obtain ⟨p, kvs, rfl, n, h, e3, r2⟩ := r
      cases e
      exact .inr (.inr ⟨kvs, h, by rw [← e3]; cases kvs <;> rfl⟩)
    | _ => cases e
end
/-- a test: a value's truth -/
def mTru (m : ME) : MB := fun τ S => (m τ S).bind fun w S1 => match truOf S1 w with
  | some b => .ok b S1
  | none => .bad
/-- a comparison as a test -/
def mTst (m : ME) : MB := fun τ S => (m τ S).bind fun w S1 => match blOf w with
  | some b => .ok b S1
  | none => .bad
section
variable {X : Cx} {Wx : WX} {a b c : Expr} {ma mb mc : ME} {pos : Pos} {g g' : W → W → Sto → Res W}
theorem rt_tru (ha : PE X a (LE X.K Wx ma)) (he : ∀ whole, isTrue a X.env whole = (do let v ← whole; standAt a.pos; holding [v] (truthy v)) := by intro _; rfl) : PT X a (LT X.K Wx (mTru ma)) := (pt_truth ha he).mono fun σ H Q h => by
  obtain ⟨ρ, S, τ, R, s, h⟩ := h
  refine ⟨ρ, S, τ, R, s, ?_⟩
  have h1 := After.bindB h
  revert h1
  cases ma τ S with
  | bad => exact fun z => z
  | exc C ns ds S1 => exact fun z => z
  | ok w S1 =>
    intro h1 ρ1 H1 v k1 R1 r1
    obtain ⟨ρa, Sa, wa, A, h2⟩ := h1 ρ1 H1 v k1 R1 r1
    split at h2
    · rename_i b e
      exact ⟨b, tru_of A.R A.r e, h2 _ _ Keeps.refl A.R⟩
    · exact h2.elim
theorem tst_core {K : PySem.W.Frag} {t : TE} {ma : ME} {σ : St} {H : Hp} {Q : Bool → Hp → Prop} (ht : ∀ Q, LE K Wx ma σ H Q → t σ H Q) (h : LT K Wx (mTst ma) σ H Q) : tTest t σ H Q := by
  refine ht _ ?_
  obtain ⟨ρ, S, τ, R, s, h⟩ := h
  refine ⟨ρ, S, τ, R, s, ?_⟩
  have h1 := After.bindB h
  revert h1
  cases ma τ S with
  | bad => exact fun z => z
  | exc C ns ds S1 => exact fun z => z
  | ok w S1 =>
    intro h1 ρ1 H1 v k1 R1 r1
    obtain ⟨ρa, Sa, wa, A, h2⟩ := h1 ρ1 H1 v k1 R1 r1
    obtain ⟨k, R, r⟩ := A
    cases wa with
    | ref i => exact h2.elim
    | d x =>
      cases x with
      | bl b =>
        cases r
        exact ⟨b, rfl, h2 _ _ Keeps.refl R⟩
      | _ => exact h2.elim
theorem rt_cmp {op : CmpOp} (ho : OpR X (compareOp op) (liftOp X.K g)) (ha : PE X a (LE X.K Wx ma)) (hb : PE X b (LE X.K Wx mb)) (hm : behindInMarks op b = false) : PT X (.Compare a [op] [b] pos) (LT X.K Wx (mTst (mBin g ma mb))) :=
  (pt_cmpR ho ha hb hm).mono fun _ _ _ h => tst_core (fun _ => bin_core) h
/-- a op b op' c -/
def mChain (g g' : W → W → Sto → Res W) (a b c : ME) : ME := fun τ S => (a τ S).bind fun x S1 => (b τ S1).bind fun y S2 => (g x y S2).quiet.bind fun z S3 => match blOf z with
  | some true => (c τ S3).bind fun u S4 => (g' y u S4).quiet
  | some false => .ok (.d (.bl false)) S3
  | none => .bad
theorem chain_core {K : PySem.W.Frag} {σ : St} {H : Hp} {Q : VK} (h : LE K Wx (mChain g g' ma mb mc) σ H Q) : tChain (liftOp K g) (liftOp K g') (LE K Wx ma) (LE K Wx mb) (LE K Wx mc) σ H Q := by
  obtain ⟨ρ, S, τ, R, s, h⟩ := h
  refine ⟨ρ, S, τ, R, s, ?_⟩
  have h1 := After.bind h
  revert h1
  cases ma τ S with
  | bad => exact fun z => z
  | exc C ns ds S1 => exact fun z => z
  | ok w S1 =>
    intro h1 ρ1 H1 v k1 R1 r1
    obtain ⟨ρa, Sa, wa, A, h2⟩ := h1 ρ1 H1 v k1 R1 r1
    refine ⟨ρa, Sa, τ, A.R, s.mono A.k, ?_⟩
    have h3 := After.bind h2
    revert h3
    cases mb τ Sa with
    | bad => exact fun z => z
    | exc C ns ds S1 => exact fun z => z
    | ok w2 S2 =>
      intro h3 ρ2 H2 u k2 R2 r2
      obtain ⟨ρb, Sb, wb, B, h4⟩ := h3 ρ2 H2 u k2 R2 r2
      have h5 := After.bind h4
      obtain ⟨w', S', e, q⟩ := After.quiet h5
      refine ⟨ρb, Sb, wa, wb, w', S', B.R, A.r.mono B.k, B.r, e, fun ρ3 H3 z k3 R3 r3 => ?_⟩
      obtain ⟨ρc, Sc, wc, C, h6⟩ := q ρ3 H3 z k3 R3 r3
      obtain ⟨kc, Rc, rc⟩ := C
      cases wc with
      | ref i => exact h6.elim
      | d x =>
        cases x with
        | bl bb =>
          cases rc
          refine ⟨bb, rfl, ?_⟩
          cases bb with
          | false =>
            simp only [Bool.false_eq_true, if_false]
            exact h6 _ _ _ Keeps.refl Rc rfl
          | true =>
            simp only [if_true]
            refine ⟨ρc, Sc, τ, Rc, (s.mono A.k).mono (B.k.trans kc), ?_⟩
            have h7 := After.bind h6
            revert h7
            cases mc τ Sc with
            | bad => exact fun z => z
            | exc C ns ds S1 => exact fun z => z
            | ok w3 S3 =>
              intro h7 ρ4 H4 u4 k4 R4 r4
              obtain ⟨ρd, Sd, wd, D, h8⟩ := h7 ρ4 H4 u4 k4 R4 r4
              obtain ⟨w'', S'', e', q'⟩ := After.quiet h8
              exact ⟨ρd, Sd, wb, wd, w'', S'', D.R, (B.r.mono kc).mono D.k, D.r, e', q'⟩
        | _ => exact h6.elim
theorem re_chain {op op' : CmpOp} (ho : OpR X (compareOp op) (liftOp X.K g)) (ho' : OpR X (compareOp op') (liftOp X.K g')) (ha : PE X a (LE X.K Wx ma)) (hb : PE X b (LE X.K Wx mb)) (hc : PE X c (LE X.K Wx mc)) (hm : lastMarks [op, op'] [b, c] = false := by rfl) :
    PE X (.Compare a [op, op'] [b, c] pos) (LE X.K Wx (mChain g g' ma mb mc)) := (pe_chain ho ho' ha hb hc hm).mono fun _ _ _ h => chain_core h
theorem rt_chain {op op' : CmpOp} (ho : OpR X (compareOp op) (liftOp X.K g)) (ho' : OpR X (compareOp op') (liftOp X.K g')) (ha : PE X a (LE X.K Wx ma)) (hb : PE X b (LE X.K Wx mb)) (hc : PE X c (LE X.K Wx mc)) (hm : lastMarks [op, op'] [b, c] = false := by rfl) :
    PT X (.Compare a [op, op'] [b, c] pos) (LT X.K Wx (mTst (mChain g g' ma mb mc))) := (pt_chain ho ho' ha hb hc hm).mono fun _ _ _ h => tst_core (fun _ => chain_core) h
end

/-! ### not, and, or as tests -/
def mNotB (m : MB) : MB := fun τ S => (m τ S).bind fun b S1 => .ok (!b) S1
def mAndB (m n : MB) : MB := fun τ S => (m τ S).bind fun b S1 => match b with
  | true => n τ S1
  | false => .ok false S1
def mOrB (m n : MB) : MB := fun τ S => (m τ S).bind fun b S1 => match b with
  | true => .ok true S1
  | false => n τ S1
section
variable {X : Cx} {Wx : WX} {a b c : Expr} {rest : List Expr} {ma mb mc : MB} {pos : Pos}
theorem rt_not (ha : PT X a (LT X.K Wx ma)) : PT X (.UnaryOp .Not a pos) (LT X.K Wx (mNotB ma)) := (pt_not ha).mono fun σ H Q h => by
  obtain ⟨ρ, S, τ, R, s, h⟩ := h
  refine ⟨ρ, S, τ, R, s, ?_⟩
  have h1 := AfterB.bindB h
  revert h1
  cases ma τ S with
  | bad => exact fun z => z
  | exc C ns ds S1 => exact fun z => z
  | ok w S1 =>
    intro h1 ρ1 H1 k1 R1
    obtain ⟨ρa, Sa, ka, Ra, h2⟩ := h1 ρ1 H1 k1 R1
    exact h2 _ _ Keeps.refl Ra
theorem rw_one {op} (ha : PT X a (LT X.K Wx ma)) (h : op = .And ∨ op = .Or) : PW X (.BoolOp op [a] pos) (LT X.K Wx ma) := by
  rcases h with rfl | rfl
  · exact pw_and1 ha
  · exact pw_or1 ha
theorem rw_and (ha : PT X a (LT X.K Wx ma)) (hb : PW X (.BoolOp .And (b :: rest) pos) (LT X.K Wx mb)) : PW X (.BoolOp .And (a :: b :: rest) pos) (LT X.K Wx (mAndB ma mb)) := (pw_and ha hb).mono fun σ H Q h => by
  obtain ⟨ρ, S, τ, R, s, h⟩ := h
  refine ⟨ρ, S, τ, R, s, ?_⟩
  have h1 := AfterB.bindB h
  revert h1
  cases ma τ S with
  | bad => exact fun z => z
  | exc C ns ds S1 => exact fun z => z
  | ok w S1 =>
    intro h1 ρ1 H1 k1 R1
    obtain ⟨ρa, Sa, ka, Ra, h2⟩ := h1 ρ1 H1 k1 R1
    cases w with
    | true => exact iteT ⟨ρa, Sa, τ, Ra, s.mono ka, h2⟩
    | false => exact iteF (h2 _ _ Keeps.refl Ra)
theorem rw_or (ha : PT X a (LT X.K Wx ma)) (hb : PW X (.BoolOp .Or (b :: rest) pos) (LT X.K Wx mb)) : PW X (.BoolOp .Or (a :: b :: rest) pos) (LT X.K Wx (mOrB ma mb)) := (pw_or ha hb).mono fun σ H Q h => by
  obtain ⟨ρ, S, τ, R, s, h⟩ := h
  refine ⟨ρ, S, τ, R, s, ?_⟩
  have h1 := AfterB.bindB h
  revert h1
  cases ma τ S with
  | bad => exact fun z => z
  | exc C ns ds S1 => exact fun z => z
  | ok w S1 =>
    intro h1 ρ1 H1 k1 R1
    obtain ⟨ρa, Sa, ka, Ra, h2⟩ := h1 ρ1 H1 k1 R1
    cases w with
    | true => exact iteT (h2 _ _ Keeps.refl Ra)
    | false => exact iteF ⟨ρa, Sa, τ, Ra, s.mono ka, h2⟩
end

/-! ### a if t else b; and, or, not as values -/
def mIfE (c : MB) (a b : ME) : ME := fun τ S => (c τ S).bind fun k S1 => match k with
  | true => a τ S1
  | false => b τ S1
def mAndE (a b : ME) : ME := fun τ S => (a τ S).bind fun w S1 => match truOf S1 w with
  | some true => b τ S1
  | some false => .ok w S1
  | none => .bad
def mOrE (a b : ME) : ME := fun τ S => (a τ S).bind fun w S1 => match truOf S1 w with
  | some true => .ok w S1
  | some false => b τ S1
  | none => .bad
def mNotE (a : ME) : ME := fun τ S => (a τ S).bind fun w S1 => match truOf S1 w with
  | some k => .ok (.d (.bl (!k))) S1
  | none => .bad
section
variable {X : Cx} {Wx : WX} {a b c : Expr} {rest : List Expr} {mt : MB} {ma mb mc : ME} {pos : Pos}
theorem re_if (hc : PT X c (LT X.K Wx mt)) (ha : PE X a (LE X.K Wx ma)) (hb : PE X b (LE X.K Wx mb)) : PE X (.IfExp c a b pos) (LE X.K Wx (mIfE mt ma mb)) := (pe_ifExp hc ha hb).mono fun σ H Q h => by
  obtain ⟨ρ, S, τ, R, s, h⟩ := h
  refine ⟨ρ, S, τ, R, s, ?_⟩
  have h1 := AfterB.bind h
  revert h1
  cases mt τ S with
  | bad => exact fun z => z
  | exc C ns ds S1 => exact fun z => z
  | ok w S1 =>
    intro h1 ρ1 H1 k1 R1
    obtain ⟨ρa, Sa, ka, Ra, h2⟩ := h1 ρ1 H1 k1 R1
    cases w with
    | true => exact iteT ⟨ρa, Sa, τ, Ra, s.mono ka, h2⟩
    | false => exact iteF ⟨ρa, Sa, τ, Ra, s.mono ka, h2⟩
theorem re_andE (ha : PE X a (LE X.K Wx ma)) (hb : PE X (.BoolOp .And (b :: rest) pos) (LE X.K Wx mb)) : PE X (.BoolOp .And (a :: b :: rest) pos) (LE X.K Wx (mAndE ma mb)) := (pe_andT ha hb).mono fun σ H Q h => by
  obtain ⟨ρ, S, τ, R, s, h⟩ := h
  refine ⟨ρ, S, τ, R, s, ?_⟩
  have h1 := After.bind h
  revert h1
  cases ma τ S with
  | bad => exact fun z => z
  | exc C ns ds S1 => exact fun z => z
  | ok w S1 =>
    intro h1 ρ1 H1 v k1 R1 r1
    obtain ⟨ρa, Sa, wa, A, h2⟩ := h1 ρ1 H1 v k1 R1 r1
    split at h2
    · rename_i e
      exact ⟨true, tru_of A.R A.r e, iteT ⟨ρa, Sa, τ, A.R, s.mono A.k, h2⟩⟩
    · rename_i e
      exact ⟨false, tru_of A.R A.r e, iteF (h2.here A.R A.r)⟩
    · exact h2.elim
theorem re_orE (ha : PE X a (LE X.K Wx ma)) (hb : PE X (.BoolOp .Or (b :: rest) pos) (LE X.K Wx mb)) : PE X (.BoolOp .Or (a :: b :: rest) pos) (LE X.K Wx (mOrE ma mb)) := (pe_orT ha hb).mono fun σ H Q h => by
  obtain ⟨ρ, S, τ, R, s, h⟩ := h
  refine ⟨ρ, S, τ, R, s, ?_⟩
  have h1 := After.bind h
  revert h1
  cases ma τ S with
  | bad => exact fun z => z
  | exc C ns ds S1 => exact fun z => z
  | ok w S1 =>
    intro h1 ρ1 H1 v k1 R1 r1
    obtain ⟨ρa, Sa, wa, A, h2⟩ := h1 ρ1 H1 v k1 R1 r1
    split at h2
    · rename_i e
      exact ⟨true, tru_of A.R A.r e, iteT (h2.here A.R A.r)⟩
    · rename_i e
      exact ⟨false, tru_of A.R A.r e, iteF ⟨ρa, Sa, τ, A.R, s.mono A.k, h2⟩⟩
    · exact h2.elim
theorem re_one {op} (h : PE X a (LE X.K Wx ma)) : PE X (.BoolOp op [a] pos) (LE X.K Wx ma) := pe_one h
theorem re_not (ha : PE X a (LE X.K Wx ma)) : PE X (.UnaryOp .Not a pos) (LE X.K Wx (mNotE ma)) := (pe_notT ha).mono fun σ H Q h => by
  obtain ⟨ρ, S, τ, R, s, h⟩ := h
  refine ⟨ρ, S, τ, R, s, ?_⟩
  have h1 := After.bind h
  revert h1
  cases ma τ S with
  | bad => exact fun z => z
  | exc C ns ds S1 => exact fun z => z
  | ok w S1 =>
    intro h1 ρ1 H1 v k1 R1 r1
    obtain ⟨ρa, Sa, wa, A, h2⟩ := h1 ρ1 H1 v k1 R1 r1
    split at h2
    · rename_i k e
      exact ⟨k, tru_of A.R A.r e, h2 _ _ _ Keeps.refl A.R rfl⟩
    · exact h2.elim
end
end L3

set_option Elab.async false
set_option linter.all false
set_option maxRecDepth 100000
set_option maxHeartbeats 2000000
namespace L3
open PySem PySem.Spec PyProof.Rows L2

/-! ### argument lists -/
def mNil : ML := fun _ S => .ok [] S
def mCons (a : ME) (r : ML) : ML := fun τ S => (a τ S).bind fun w S1 => (r τ S1).bind fun ws S2 => .ok (w :: ws) S2
/-- the items of a tuple or a list -/
def itemsOf (S : Sto) : W → Option (List D)
  | .d (.tup l) => some l
  | .d (.lst l) => some l
  | .d (.fzl l) => some l
  | .ref i => match S[i]? with
    | some (some (.lst l)) => some l
    | _ => none
  | _ => none
def mStar (a : ME) (r : ML) : ML := fun τ S => (a τ S).bind fun w S1 => match itemsOf S1 w with
  | some l => (r τ S1).bind fun ws S2 => .ok (l.map W.d ++ ws) S2
  | none => .bad
section
variable {K : PySem.W.Frag} {ρ : Rho} {H : Hp} {S : Sto}
theorem RelDs.ws : ∀ {l : List D} {xs : List V}, RelDs K ρ H l xs → RelWs K ρ H (l.map W.d) xs
  | [], _, h => by cases h; exact .nil
  | x :: l, _, ⟨y, ys, e, h, r⟩ => by subst e; exact .cons h (RelDs.ws r)
theorem items_of (R : Rel K ρ S H) {w : W} {v : V} {l : List D} (r : RelW K ρ H w v) (e : itemsOf S w = some l) : ∃ p xs, v = .ref p ∧ (SqT K H p xs ∨ SqL K H p xs) ∧ RelDs K ρ H l xs := by
  cases w with
  | ref i =>
    unfold itemsOf at e
    simp only at e
    split at e
    · rename_i l e1
      cases e
      obtain ⟨p, rfl, _, xs, e2, r2⟩ := R.ref e1 r
      exact ⟨p, xs, rfl, .inr (SqL.of e2), r2⟩
    · cases e
  | d x =>
    cases x with
    | tup l => cases e; obtain ⟨p, xs, rfl, h, r2⟩ := r; exact ⟨p, xs, rfl, .inl h, r2⟩
    | lst l => cases e; obtain ⟨p, xs, rfl, h, r2⟩ := r; exact ⟨p, xs, rfl, .inr h.sq, r2⟩
    | fzl l => cases e; obtain ⟨p, xs, rfl, h, r2⟩ := r; exact ⟨p, xs, rfl, .inr h.sq, r2⟩
    | _ => cases e
theorem RelWs.append {l m : List W} {xs ys : List V} (a : RelWs K ρ H l xs) (b : RelWs K ρ H m ys) : RelWs K ρ H (l ++ m) (xs ++ ys) := by
  induction a with
  | nil => exact b
  | cons h _ ih => exact .cons h ih
end
section
variable {X : Cx} {Wx : WX} {e : Expr} {es : List Expr} {me : ME} {ml : ML} {p pos : Pos}
theorem ra_nil : PA X [] (LA X.K Wx mNil) := pa_nil.mono fun σ H Q h => by
  obtain ⟨ρ, S, τ, R, s, h⟩ := h
  exact h ρ H [] Keeps.refl R .nil
theorem ra_cons (ha : PE X e (LE X.K Wx me)) (hr : PA X es (LA X.K Wx ml)) (hs : starEach (e :: es) X.env = (false, eval e X.env) :: starEach es X.env := by rfl) : PA X (e :: es) (LA X.K Wx (mCons me ml)) := (pa_cons ha hr hs).mono fun σ H Q h => by
  obtain ⟨ρ, S, τ, R, s, h⟩ := h
  refine ⟨ρ, S, τ, R, s, ?_⟩
  have h1 := After.bindL h
  revert h1
  cases me τ S with
  | bad => exact fun z => z
  | exc C ns ds S1 => exact fun z => z
  | ok w S1 =>
    intro h1 ρ1 H1 v k1 R1 r1
    obtain ⟨ρa, Sa, wa, A, h2⟩ := h1 ρ1 H1 v k1 R1 r1
    refine ⟨ρa, Sa, τ, A.R, s.mono A.k, ?_⟩
    have h3 := AfterL.bindL h2
    revert h3
    cases ml τ Sa with
    | bad => exact fun z => z
    | exc C ns ds S1 => exact fun z => z
    | ok ws S2 =>
      intro h3 ρ2 H2 vs k2 R2 r2
      obtain ⟨ρb, Sb, wb, kb, Rb, rb, h4⟩ := h3 ρ2 H2 vs k2 R2 r2
      exact h4 _ _ _ Keeps.refl Rb (.cons (A.r.mono kb) rb)
theorem ra_star (ha : PE X e (LE X.K Wx me)) (hr : PA X es (LA X.K Wx ml)) (hs : starEach (.Starred e p :: es) X.env = (true, eval e X.env) :: starEach es X.env := by rfl) : PA X (.Starred e p :: es) (LA X.K Wx (mStar me ml)) := (StX.pa_star ha hr hs).mono fun σ H Q h => by
  obtain ⟨ρ, S, τ, R, s, h⟩ := h
  refine ⟨ρ, S, τ, R, s, ?_⟩
  have h1 := After.bindL h
  revert h1
  cases me τ S with
  | bad => exact fun z => z
  | exc C ns ds S1 => exact fun z => z
  | ok w S1 =>
    intro h1 ρ1 H1 v k1 R1 r1
    obtain ⟨ρa, Sa, wa, A, h2⟩ := h1 ρ1 H1 v k1 R1 r1
    split at h2
    · rename_i l e
      obtain ⟨q, xs, rfl, hq, rl⟩ := items_of A.R A.r e
      refine ⟨q, xs, rfl, hq, ρa, Sa, τ, A.R, s.mono A.k, ?_⟩
      have h3 := AfterL.bindL h2
      revert h3
      cases ml τ Sa with
      | bad => exact fun z => z
      | exc C ns ds S1 => exact fun z => z
      | ok ws S2 =>
        intro h3 ρ2 H2 vs k2 R2 r2
        obtain ⟨ρb, Sb, wb, kb, Rb, rb, h4⟩ := h3 ρ2 H2 vs k2 R2 r2
        exact h4 _ _ _ Keeps.refl Rb ((RelDs.mono kb l rl).ws.append rb)
    · exact h2.elim
end

/-! ### references frozen: data of values -/
/-- a value as data; a list or dict of the store is frozen (its place dies) -/
def dat (S : Sto) : W → Option (D × Sto)
  | .d x => some (x, S)
  | .ref i => match S[i]? with
    | some (some (.lst l)) => some (.lst l, S.set i none)
    | some (some (.dct ks l)) => some (.dct ks l, S.set i none)
    | some (some (.ins C ns l)) => some (.obj C ns l, S.set i none)
    | _ => none
def dats (S : Sto) : List W → Option (List D × Sto)
  | [] => some ([], S)
  | w :: ws => match dat S w with
    | some (x, S1) => match dats S1 ws with
      | some (l, S2) => some (x :: l, S2)
      | none => none
    | none => none
section
variable {K : PySem.W.Frag} {ρ : Rho} {H : Hp} {S : Sto}
/-- a place dies -/
def _root_.L3.Rho.kill (ρ : Rho) (i : Nat) : Rho := { ρ with l := ρ.l.set i none }
theorem set_none_pre {ρ : List (Option Addr)} {i : Nat} : ∀ (j : Nat) (q : Option Addr), ρ[j]? = some q → ∃ q', (ρ.set i none)[j]? = some q' ∧ ∀ p, q' = some p → q = some p := fun j q e => by
  have hj := (List.getElem?_eq_some_iff.mp e).1
  by_cases h : i = j
  · subst h
    exact ⟨none, by rw [List.getElem?_set_self hj], fun p z => nomatch z⟩
  · exact ⟨q, by rw [List.getElem?_set_ne h]; exact e, fun _ z => z⟩
theorem kill_ix {ρ : List (Option Addr)} {i j : Nat} {p : Addr} (e : (ρ.set i none)[j]? = some (some p)) : j ≠ i ∧ ρ[j]? = some (some p) := by
  by_cases hi : i = j
  · subst hi
    rw [List.getElem?_set] at e
    split at e
    · split at e <;> cases e
    · simp at *
  · exact ⟨Ne.symm hi, by rw [List.getElem?_set_ne hi] at e; exact e⟩
theorem live_kill {ρ : Rho} {i : Nat} {p : Addr} (h : Live (ρ.kill i) p) : Live ρ p := by
  rcases h with h | h
  · obtain ⟨j, e⟩ := mem_ix h
    exact .inl (ix_mem (kill_ix e).2)
  · exact .inr h
theorem Keeps.kill (i : Nat) : Keeps ρ H (ρ.kill i) H := ⟨set_none_pre, fun b o e n => ⟨e, fun m => n (live_kill m)⟩, fun _ _ e => e, fun _ _ _ e => e, fun _ m => ⟨m, rfl⟩⟩
theorem Rel.kill (R : Rel K ρ S H) (i : Nat) : Rel K (ρ.kill i) (S.set i none) H := by
  refine ⟨by simp [Rho.kill, R.len], fun a b p e1 e2 => R.inj a b p (kill_ix e1).2 (kill_ix e2).2, fun j p e => ?_, fun j o e => ?_, fun p m => ⟨fun z => ?_, (R.hid p m).2⟩⟩
  · obtain ⟨h, e1⟩ := kill_ix e
    obtain ⟨o, e2, r⟩ := R.at_ j p e1
    exact ⟨o, by rw [List.getElem?_set_ne (Ne.symm h)]; exact e2, r.sub fun p m => live_kill m⟩
  · by_cases hi : i = j
    · subst hi
      rw [List.getElem?_set] at e
      split at e
      · split at e <;> cases e
      · simp at *
    · rw [List.getElem?_set_ne hi] at e
      obtain ⟨p, e1⟩ := R.live j o e
      exact ⟨p, by show (ρ.l.set i none)[j]? = _; rw [List.getElem?_set_ne hi]; exact e1⟩
  · obtain ⟨j, e⟩ := mem_ix z
    exact (R.hid p m).1 (ix_mem (kill_ix e).2)
theorem not_mem_kill (R : Rel K ρ S H) {i : Nat} {p : Addr} (h : ρ.l[i]? = some (some p)) : ¬ Live (ρ.kill i) p := fun m => by
  rcases m with m | m
  · obtain ⟨j, e⟩ := mem_ix m
    obtain ⟨h1, h2⟩ := kill_ix e
    exact h1 (R.inj j i p h2 h)
  · exact (R.hid p m).1 (ix_mem h)
theorem dat_of (R : Rel K ρ S H) {w : W} {v : V} {x : D} {S1 : Sto} (r : RelW K ρ H w v) (e : dat S w = some (x, S1)) : ∃ ρ1, Keeps ρ H ρ1 H ∧ Rel K ρ1 S1 H ∧ RelD K ρ1 H x v := by
  cases w with
  | d y => cases e; exact ⟨ρ, Keeps.refl, R, r⟩
  | ref i =>
    unfold dat at e
    simp only at e
    split at e
    · rename_i l e1
      cases e
      obtain ⟨p, rfl, ep, xs, e2, r2⟩ := R.ref e1 r
      exact ⟨ρ.kill i, Keeps.kill i, R.kill i, p, xs, rfl, ⟨not_mem_kill R ep, e2⟩, RelDs.mono (Keeps.kill i) l r2⟩
    · rename_i ks l e1
      cases e
      obtain ⟨p, rfl, ep, kvs, e2, e3, r2⟩ := R.ref e1 r
      exact ⟨ρ.kill i, Keeps.kill i, R.kill i, p, kvs, rfl, not_mem_kill R ep, e2, e3, RelDs.mono (Keeps.kill i) l r2⟩
    · rename_i C ns l e1
      cases e
      obtain ⟨p, rfl, ep, dx, fs, e2, e3, r2⟩ := R.ref e1 r
      exact ⟨ρ.kill i, Keeps.kill i, R.kill i, p, dx, fs, rfl, not_mem_kill R ep, e2, e3, RelDs.mono (Keeps.kill i) l r2⟩
    · cases e
theorem dats_of : ∀ {ws : List W} {ρ : Rho} {S : Sto} {vs : List V} {l : List D} {S1 : Sto}, Rel K ρ S H → RelWs K ρ H ws vs → dats S ws = some (l, S1) → ∃ ρ1, Keeps ρ H ρ1 H ∧ Rel K ρ1 S1 H ∧ RelDs K ρ1 H l vs
  | [], ρ, S, _, _, _, R, .nil, e => by cases e; exact ⟨ρ, Keeps.refl, R, rfl⟩
  | w :: ws, ρ, S, _, l, S1, R, .cons r rs, e => by
    unfold dats at e
    split at e
    · rename_i x S2 e1
      split at e
      · rename_i l2 S3 e2
        cases e
        obtain ⟨ρ1, k1, R1, d1⟩ := dat_of R r e1
        obtain ⟨ρ2, k2, R2, d2⟩ := dats_of R1 (RelWs.mono k1 rs) e2
        exact ⟨ρ2, k1.trans k2, R2, _, _, rfl, RelD.mono k2 x d1, d2⟩
      · cases e
    · cases e
end

/-! ### displays -/
def mTup (m : ML) : ME := fun τ S => (m τ S).bind fun ws S1 => match dats S1 ws with
  | some (l, S2) => if l.length ≤ 100000 then .ok (.d (.tup l)) S2 else .bad
  | none => .bad
/-- a list that is never written -/
def mLst (m : ML) : ME := fun τ S => (m τ S).bind fun ws S1 => match dats S1 ws with
  | some (l, S2) => if l.length ≤ 100000 then .ok (.d (.lst l)) S2 else .bad
  | none => .bad
/-- a list of the store -/
def mLstM (m : ML) : ME := fun τ S => (m τ S).bind fun ws S1 => match dats S1 ws with
  | some (l, S2) => if l.length ≤ 100000 then .ok (.ref S2.length) (S2 ++ [some (.lst l)]) else .bad
  | none => .bad
section
variable {K : PySem.W.Frag} {ρ : Rho} {H : Hp} {S : Sto}
theorem new_tup (R : Rel K ρ S H) {l : List D} {xs : List V} (r : RelDs K ρ H l xs) {p : Addr} (h : H p = none) : RelW K ρ (upd H p (.tup xs)) (.d (.tup l)) (.ref p) := ⟨p, xs, rfl, SqT.of upd_same, RelDs.mono (Keeps.new h R.hid') l r⟩
theorem new_lst (R : Rel K ρ S H) {l : List D} {xs : List V} (r : RelDs K ρ H l xs) {p : Addr} (h : H p = none) : RelW K ρ (upd H p (.lst xs)) (.d (.lst l)) (.ref p) := ⟨p, xs, rfl, ⟨R.fresh h, upd_same⟩, RelDs.mono (Keeps.new h R.hid') l r⟩
theorem reg_lst (R : Rel K ρ S H) {l : List D} {xs : List V} (r : RelDs K ρ H l xs) {p : Addr} (h : H p = none) : Rel K (ρ.reg p) (S ++ [some (.lst l)]) (upd H p (.lst xs)) ∧ RelW K (ρ.reg p) (upd H p (.lst xs)) (.ref S.length) (.ref p) :=
  ⟨R.reg h ⟨xs, upd_same, RelDs.mono (Keeps.reg h R.hid') l r⟩, some p, by show (ρ.l ++ [some p])[S.length]? = _; rw [← R.len]; simp, fun q z => by cases z; rfl⟩
end
section
variable {X : Cx} {Wx : WX} {e : Expr} {es : List Expr} {me : ME} {ml : ML} {p pos : Pos}
theorem re_tup {x1} (h : PA X es (LA X.K Wx ml)) : PE X (.Tuple es x1 pos) (LE X.K Wx (mTup ml)) := (pe_tup h).mono fun σ H Q h => by
  obtain ⟨ρ, S, τ, R, s, h⟩ := h
  refine ⟨ρ, S, τ, R, s, ?_⟩
  have h1 := AfterL.bind h
  revert h1
  cases ml τ S with
  | bad => exact fun z => z
  | exc C ns ds S1 => exact fun z => z
  | ok w S1 =>
    intro h1 ρ1 H1 vs k1 R1 r1
    obtain ⟨ρa, Sa, wa, ka, Ra, ra, h2⟩ := h1 ρ1 H1 vs k1 R1 r1
    split at h2
    · rename_i l S2 e
      split at h2
      · rename_i hl
        obtain ⟨ρ2, k2, R2, d2⟩ := dats_of Ra ra e
        refine ⟨size5 (by rw [← d2.length]; exact hl), fun p hp => ?_⟩
        exact h2 _ _ _ (k2.trans (Keeps.new hp R2.hid')) (R2.new hp) (new_tup R2 d2 hp)
      · exact h2.elim
    · exact h2.elim
theorem re_lst (h : PA X es (LA X.K Wx ml)) : PE X (.List es pos) (LE X.K Wx (mLst ml)) := (pe_lst h).mono fun σ H Q h => by
  obtain ⟨ρ, S, τ, R, s, h⟩ := h
  refine ⟨ρ, S, τ, R, s, ?_⟩
  have h1 := AfterL.bind h
  revert h1
  cases ml τ S with
  | bad => exact fun z => z
  | exc C ns ds S1 => exact fun z => z
  | ok w S1 =>
    intro h1 ρ1 H1 vs k1 R1 r1
    obtain ⟨ρa, Sa, wa, ka, Ra, ra, h2⟩ := h1 ρ1 H1 vs k1 R1 r1
    split at h2
    · rename_i l S2 e
      split at h2
      · rename_i hl
        obtain ⟨ρ2, k2, R2, d2⟩ := dats_of Ra ra e
        refine ⟨size5 (by rw [← d2.length]; exact hl), fun p hp => ?_⟩
        exact h2 _ _ _ (k2.trans (Keeps.new hp R2.hid')) (R2.new hp) (new_lst R2 d2 hp)
      · exact h2.elim
    · exact h2.elim
theorem re_lstM (h : PA X es (LA X.K Wx ml)) : PE X (.List es pos) (LE X.K Wx (mLstM ml)) := (pe_lst h).mono fun σ H Q h => by
  obtain ⟨ρ, S, τ, R, s, h⟩ := h
  refine ⟨ρ, S, τ, R, s, ?_⟩
  have h1 := AfterL.bind h
  revert h1
  cases ml τ S with
  | bad => exact fun z => z
  | exc C ns ds S1 => exact fun z => z
  | ok w S1 =>
    intro h1 ρ1 H1 vs k1 R1 r1
    obtain ⟨ρa, Sa, wa, ka, Ra, ra, h2⟩ := h1 ρ1 H1 vs k1 R1 r1
    split at h2
    · rename_i l S2 e
      split at h2
      · rename_i hl
        obtain ⟨ρ2, k2, R2, d2⟩ := dats_of Ra ra e
        refine ⟨size5 (by rw [← d2.length]; exact hl), fun p hp => ?_⟩
        exact h2 _ _ _ (k2.trans (Keeps.reg hp R2.hid')) (reg_lst R2 d2 hp).1 (reg_lst R2 d2 hp).2
      · exact h2.elim
    · exact h2.elim
end

/-! ### statements -/
def RS.andThen (r : RS) (k : Tau → Sto → RS) : RS := match r with
  | .ok (.nx τ) S => k τ S
  | r => r
def mSkip : MS := fun τ S => .ok (.nx τ) S
def mSeq (a b : MS) : MS := fun τ S => (a τ S).andThen b
/-- an expression's end in a statement -/
def Res.then_ {α : Type} (r : Res α) (τ : Tau) (k : α → Sto → RS) : RS := match r with
  | .ok w S => k w S
  | .exc C ns ds S => .exc C ns ds τ S
  | .bad => .bad
def mExpr (m : ME) : MS := fun τ S => (m τ S).then_ τ fun _ S1 => .ok (.nx τ) S1
def mRet (m : ME) : MS := fun τ S => (m τ S).then_ τ fun w S1 => .ok (.rt w) S1
def mRetN : MS := fun _ S => .ok (.rt (.d .non)) S
def mIf (c : MB) (a b : MS) : MS := fun τ S => (c τ S).then_ τ fun k S1 => match k with
  | true => a τ S1
  | false => b τ S1
def mSet (i : Nat) (m : ME) : MS := fun τ S => (m τ S).then_ τ fun w S1 => .ok (.nx (τ.set i (some w))) S1
def mBrk : MS := fun τ S => .ok (.bk τ) S
def mCnt : MS := fun τ S => .ok (.ct τ) S
section
variable {K : PySem.W.Frag} {ρ ρ' : Rho} {H H' : Hp} {Wx : WX}
theorem AfterS.shift {r : RS} {D : Ends} (k : Keeps ρ H ρ' H') (h : AfterS K ρ H r D Wx) : AfterS K ρ' H' r D Wx := by
  cases r with
  | bad => exact h
  | exc C ns ds τ S => exact fun ρ2 H2 σ' d fs k2 => h ρ2 H2 σ' d fs (k.trans k2)
  | ok f S => cases f <;> exact fun ρ2 H2 v k2 => h ρ2 H2 v (k.trans k2)
/-- an expression's part of a statement -/
theorem After.then_ {τ : Tau} {σ : L2.St} {r : Res W} {k : W → Sto → RS} {D : Ends} (s : RelSt K ρ H τ σ) (h : AfterS K ρ H (r.then_ τ k) D Wx) : After K ρ H r (fun v H1 => ∃ ρ1 S1 w, At K ρ H w S1 v ρ1 H1 ∧ AfterS K ρ1 H1 (k w S1) D Wx) (atσ Wx σ) := by
  cases r with
  | ok w S => exact fun ρ1 H1 v a b c => ⟨ρ1, S, w, ⟨a, b, c⟩, AfterS.shift a h⟩
  | exc C ns ds S => exact fun ρ1 H1 d fs a b c e f => h ρ1 H1 σ d fs a b (s.mono a) c e f
  | bad => exact h
theorem AfterB.then_ {τ : Tau} {σ : L2.St} {r : Res Bool} {k : Bool → Sto → RS} {D : Ends} (s : RelSt K ρ H τ σ) (h : AfterS K ρ H (r.then_ τ k) D Wx) : AfterB K ρ H r (fun v H1 => ∃ ρ1 S1, Keeps ρ H ρ1 H1 ∧ Rel K ρ1 S1 H1 ∧ AfterS K ρ1 H1 (k v S1) D Wx) (atσ Wx σ) := by
  cases r with
  | ok w S => exact fun ρ1 H1 a b => ⟨ρ1, S, a, b, AfterS.shift a h⟩
  | exc C ns ds S => exact fun ρ1 H1 d fs a b c e f => h ρ1 H1 σ d fs a b (s.mono a) c e f
  | bad => exact h
/-- a wish weakened -/
theorem After.imp {r : Res W} {Q Q' : VK} {E E' : XK} (h : After K ρ H r Q E) (q : ∀ v H, Q v H → Q' v H) (e : ∀ c d H, E c d H → E' c d H) : After K ρ H r Q' E' := by
  cases r with
  | ok w S => exact fun ρ1 H1 v a b c => q _ _ (h ρ1 H1 v a b c)
  | exc C ns ds S => exact fun ρ1 H1 d fs a b c f g => e _ _ _ (h ρ1 H1 d fs a b c f g)
  | bad => exact h
theorem AfterB.imp {r : Res Bool} {Q Q' : Bool → Hp → Prop} {E E' : XK} (h : AfterB K ρ H r Q E) (q : ∀ v H, Q v H → Q' v H) (e : ∀ c d H, E c d H → E' c d H) : AfterB K ρ H r Q' E' := by
  cases r with
  | ok w S => exact fun ρ1 H1 a b => q _ _ (h ρ1 H1 a b)
  | exc C ns ds S => exact fun ρ1 H1 d fs a b c f g => e _ _ _ (h ρ1 H1 d fs a b c f g)
  | bad => exact h
end
section
variable {X : Cx} {Wx : WX} {e : Expr} {st : Stmt} {sts sts' : List Stmt} {me : ME} {mb : MB} {ms ms' : MS} {pos pos' : Pos}
theorem rs_nil : PSs X [] (LS X.K Wx mSkip) := pss_nil.mono fun D σ H h => by
  obtain ⟨ρ, S, τ, R, s, h⟩ := h
  exact h ρ H σ Keeps.refl R s
theorem rs_cons (h1 : PS X st (LS X.K Wx ms)) (h2 : PSs X sts (LS X.K Wx ms')) : PSs X (st :: sts) (LS X.K Wx (mSeq ms ms')) := (pss_cons h1 h2).mono fun D σ H h => by
  obtain ⟨ρ, S, τ, R, s, h⟩ := h
  refine ⟨ρ, S, τ, R, s, ?_⟩
  revert h
  show AfterS X.K ρ H ((ms τ S).andThen ms') D Wx → _
  cases ms τ S with
  | bad => exact fun z => z
  | exc C ns ds τ S1 => exact fun z => z
  | ok f S1 =>
    cases f with
    | nx τ1 => exact fun h ρ1 H1 σ1 k R1 s1 => ⟨ρ1, S1, τ1, R1, s1, h.shift k⟩
    | rt w => exact fun z => z
    | bk τ => exact fun z => z
    | ct τ => exact fun z => z
theorem rs_one (h1 : PS X st (LS X.K Wx ms)) : PSs X [st] (LS X.K Wx ms) := pss_one h1
theorem rs_expr (he : PE X e (LE X.K Wx me)) (hs : swapsWith e none pos.line X.env = pure false := by rfl) : PS X (.Expr e pos) (LS X.K Wx (mExpr me)) := (ps_expr he hs).mono fun D σ H h => by
  obtain ⟨ρ, S, τ, R, s, h⟩ := h
  exact ⟨ρ, S, τ, R, s, (After.then_ s h).imp (fun v H ⟨ρ1, S1, w, A, q⟩ => q ρ1 H σ Keeps.refl A.R (s.mono A.k)) fun _ _ _ z => z⟩
theorem rs_ret (he : PE X e (LE X.K Wx me)) : PS X (.Return (some e) pos) (LS X.K Wx (mRet me)) := (ps_ret he).mono fun D σ H h => by
  obtain ⟨ρ, S, τ, R, s, h⟩ := h
  exact ⟨ρ, S, τ, R, s, (After.then_ s h).imp (fun v H ⟨ρ1, S1, w, A, q⟩ => q ρ1 H v Keeps.refl A.R A.r) fun _ _ _ z => z⟩
theorem rs_retN : PS X (.Return none pos) (LS X.K Wx mRetN) := ps_retN.mono fun D σ H h => by
  obtain ⟨ρ, S, τ, R, s, h⟩ := h
  exact h ρ H .non Keeps.refl R rfl
theorem rs_pass : PS X (.Pass pos) (LS X.K Wx mSkip) := ps_pass.mono fun D σ H h => by
  obtain ⟨ρ, S, τ, R, s, h⟩ := h
  exact h ρ H σ Keeps.refl R s
theorem rs_break : PS X (.Break pos) (LS X.K Wx mBrk) := ps_break.mono fun D σ H h => by
  obtain ⟨ρ, S, τ, R, s, h⟩ := h
  exact h ρ H σ Keeps.refl R s
theorem rs_continue : PS X (.Continue pos) (LS X.K Wx mCnt) := ps_continue.mono fun D σ H h => by
  obtain ⟨ρ, S, τ, R, s, h⟩ := h
  exact h ρ H σ Keeps.refl R s
theorem rs_if {c : Expr} {a b : List Stmt} (hc : PT X c (LT X.K Wx mb)) (ha : PSs X a (LS X.K Wx ms)) (hb : PSs X b (LS X.K Wx ms')) : PS X (.If c a b pos) (LS X.K Wx (mIf mb ms ms')) := (ps_if hc ha hb).mono fun D σ H h => by
  obtain ⟨ρ, S, τ, R, s, h⟩ := h
  refine ⟨ρ, S, τ, R, s, (AfterB.then_ s h).imp (fun b H ⟨ρ1, S1, k, R1, q⟩ => ?_) fun _ _ _ z => z⟩
  cases b with
  | true => exact iteT ⟨ρ1, S1, τ, R1, s.mono k, q⟩
  | false => exact iteF ⟨ρ1, S1, τ, R1, s.mono k, q⟩
theorem rs_set (i : Nat) {x : Str} (hN : X.N.Nodup) (he : PE X e (LE X.K Wx me)) (hi : X.N[i]? = some x := by rfl) (hx : Loc X.env.scope x := by first | exact Or.inl rfl | exact Or.inr rfl) (hs : swapsWith e (some (.Name x pos')) pos.line X.env = pure false := by rfl) (hf : X.fn x = true ∨ X.env.scope.names.lookup x = some .local := by first | exact .inl rfl | exact .inr rfl | assumption) :
    PS X (.Assign [.Name x pos'] e pos) (LS X.K Wx (mSet i me)) := (ps_set hN hi hx he hs hf).mono fun D σ H h => by
  obtain ⟨ρ, S, τ, R, s, h⟩ := h
  exact ⟨ρ, S, τ, R, s, (After.then_ s h).imp (fun v H ⟨ρ1, S1, w, A, q⟩ => q ρ1 H _ Keeps.refl A.R ((s.mono A.k).set i A.r)) fun _ _ _ z => z⟩
end

/-! ### a def -/
/-- a def's end: what it returns, frozen where it is its own; the store without what it made -/
def fin (n : Nat) (w : W) (S : Sto) : Res W := match w with
  | .d x => .ok (.d x) (S.take n)
  | .ref i => if i < n then .ok (.ref i) (S.take n) else match S[i]? with
    | some (some (.lst l)) => .ok (.d (.lst l)) (S.take n)
    | some (some (.dct ks l)) => .ok (.d (.dct ks l)) (S.take n)
    | some (some (.ins C ns l)) => .ok (.d (.obj C ns l)) (S.take n)
    | _ => .bad
def mFn (n : Nat) (mb : MS) (ws : List W) (S : Sto) : Res W := match mb (ws.map some ++ List.replicate (n - ws.length) none) S with
  | .ok (.rt w) S1 => fin S.length w S1
  | .ok (.nx _) S1 => .ok (.d .non) (S1.take S.length)
  | .exc C ns ds _ S1 => .exc C ns ds (S1.take S.length)
  | _ => .bad
/-- the same, what it returns stays in the store -/
def mFnM (n : Nat) (mb : MS) (ws : List W) (S : Sto) : Res W := match mb (ws.map some ++ List.replicate (n - ws.length) none) S with
  | .ok (.rt w) S1 => .ok w S1
  | .ok (.nx _) S1 => .ok (.d .non) S1
  | .exc C ns ds _ S1 => .exc C ns ds S1
  | _ => .bad
def spM (K : PySem.W.Frag) (np : Nat) (m : List W → Sto → Res W) : Sp := fun vs H Q E => vs.length = np ∧ ∃ ρ S ws, Rel K ρ S H ∧ RelWs K ρ H ws vs ∧ After K ρ H (m ws S) Q E
section
variable {P : Program} {w : World} {K : PySem.W.Frag} {mg : Str → Option Value} {base : Heap}
theorem start_st {ρ : Rho} {H : Hp} {ws : List W} {vs : List V} {N : List Str} (r : RelWs K ρ H ws vs) : RelSt K ρ H (ws.map some ++ List.replicate (N.length - ws.length) none) (L2.start N vs) := by
  have hl : ws.length = vs.length := Paired.length r
  refine ⟨by simp [L2.start, hl], fun i x e => ?_⟩
  by_cases hi : i < ws.length
  · rw [List.getElem?_append_left (by simpa using hi)] at e
    rw [List.getElem?_map] at e
    cases q : ws[i]? with
    | none => rw [q] at e; cases e
    | some y =>
      rw [q] at e
      cases e
      have : ∃ v, vs[i]? = some v ∧ RelW K ρ H x v := by
        clear hl hi
        induction r generalizing i with
        | nil => simp at q
        | cons h _ ih =>
          cases i with
          | zero => simp at q; subst q; exact ⟨_, rfl, h⟩
          | succ j =>
            obtain ⟨v, a, b⟩ := ih j (by simpa using q)
            exact ⟨v, by simpa using a, b⟩
      obtain ⟨v, a, b⟩ := this
      refine ⟨v, ?_, b⟩
      unfold L2.start
      rw [List.getElem?_append_left (by simp; omega), List.getElem?_map, a]
      rfl
  · rw [List.getElem?_append_right (by simpa using hi)] at e
    rw [List.getElem?_replicate] at e
    split at e <;> cases e
theorem fin_of {ρ ρ1 : Rho} {H H1 : Hp} {S S1 : Sto} {w : W} {v : V} {Q : VK} {E : XK} (R : Rel K ρ S H) (k : Keeps ρ H ρ1 H1) (R1 : Rel K ρ1 S1 H1) (r : RelW K ρ1 H1 w v) (h : After K ρ H (fin S.length w S1) Q E) : Q v H1 := by
  have kc := k.cut S.length R.len.symm
  have Rc := R1.cut S.length
  have sub : ∀ p, Live (ρ1.cut S.length) p → Live ρ1 p := fun p m => live_cut m
  cases w with
  | d x => exact h _ _ _ kc Rc (RelD.sub sub x r)
  | ref i =>
    unfold fin at h
    simp only at h
    split at h
    · rename_i hi
      obtain ⟨q, e, hq⟩ := r
      exact h _ _ _ kc Rc ⟨q, by show (ρ1.l.take S.length)[i]? = _; rw [List.getElem?_take_of_lt hi]; exact e, hq⟩
    · rename_i hi
      split at h
      · rename_i l e1
        obtain ⟨p, rfl, ep, xs, e2, r2⟩ := R1.ref e1 r
        exact h _ _ _ kc Rc ⟨p, xs, rfl, ⟨R1.beyond (by omega) ep, e2⟩, RelDs.sub sub l r2⟩
      · rename_i ks l e1
        obtain ⟨p, rfl, ep, kvs, e2, e3, r2⟩ := R1.ref e1 r
        exact h _ _ _ kc Rc ⟨p, kvs, rfl, R1.beyond (by omega) ep, e2, e3, RelDs.sub sub l r2⟩
      · rename_i C ns l e1
        obtain ⟨p, rfl, ep, dx, fs, e2, e3, r2⟩ := R1.ref e1 r
        exact h _ _ _ kc Rc ⟨p, dx, fs, rfl, R1.beyond (by omega) ep, e2, e3, RelDs.sub sub l r2⟩
      · exact h.elim
theorem XdAt.cut {H : Hp} {ρ : Rho} {d : Option Addr} {fs : List (Str × V)} (h : XdAt H ρ d fs) (n : Nat) : XdAt H (ρ.cut n) d fs := by
  rcases h with h | ⟨a, e, m, q⟩
  · exact .inl h
  · exact .inr ⟨a, e, fun z => m (live_cut z), q⟩
/-- the wish of a body: the slots are gone behind it -/
abbrev wOf (E : XK) : WX := fun c d _ H => E c d H
/-- a def's promise: how its arguments are bound is told at the call -/
structure FnX (P : Program) (w : World) (K : PySem.W.Frag) (mg : Str → Option Value) (base : Heap) (k : Nat) (f : Addr) (fd : FuncData) (ps : List Str) (m : List W → Sto → Res W) : Prop where
  run : ∀ (A : Around) (outer : List Env) (s : Shared) (H : Hp) (args : Args) (us : List Value) (vs : List V) (Q : VK) (E : XK), A.guards = some [] → Room k A → Env0 P w K mg base A outer s H → BindsTo s fd args (ps.zip us) → Vals vs us → spM K ps.length m vs H Q E →
    codeAny (model P w) A (.call (.ref f) args) (CR (L2.CX P w) outer P w H s Q E) s
def flowV : Flow → Value
  | .ret v => v
  | _ => .none
theorem body_end {A : Around} {outer : List Env} {s s' : Shared} {H : Hp} {Q : VK} {E : XK} {N : List Str} {qual : Str} {scope : Scope} {f : Addr} {cdv : Value} {fl : Flow}
    (hs : SP (cxOf (L2.CX P w) P w K mg base N qual scope f cdv A outer s H E) [] { nx := fun _ H' => Q .non H', rt := Q } fl s') : CE outer P w H s Q (flowV fl) s' := by
  have fin : ∀ {σ' : L2.St} {H' : Hp} {v : V} {u : Value}, Inv (cxOf (L2.CX P w) P w K mg base N qual scope f cdv A outer s H E) [] σ' H' s' → RelV v u → Q v H' → CE outer P w H s Q u s' := fun {σ' H' v u} J rv q => ⟨v, H', J.os, J.bare, J.base, J.hok, rv, q⟩
  cases fl with
  | ret u => obtain ⟨v, σ', H', J, rv, q⟩ := hs; exact fin J rv q
  | next => obtain ⟨σ', H', J, q⟩ := hs; exact fin (v := V.non) (u := Value.none) J rfl q
  | brk => obtain ⟨_, _, _, q⟩ := hs; exact q.elim
  | cont => obtain ⟨_, _, _, q⟩ := hs; exact q.elim
theorem fnx_core {name qual : Str} {params : Arguments} {body : List Stmt} {scope : Scope} {dvs : List V} {kws : List (Str × V)} {f : Addr} {fd : FuncData} {N ps : List Str} {k : Nat} {mb : MS} {m : List W → Sto → Res W} (F : FunD K name qual params body scope dvs kws f fd) (Sc : FnScope N ps scope)
    (hm : ∀ (vs : List V) (H : Hp) (Q : VK) (E : XK), spM K ps.length m vs H Q E → LS K (wOf E) mb { nx := fun _ H' => Q .non H', rt := Q } (L2.start N vs) H)
    (hb : ∀ (cdv : Value) (A : Around) (outer : List Env) (s : Shared) (H : Hp) (E : XK), A.guards = some [] → Room k (A.deeper (envOfC qual scope s.heap.objs.size f cdv)) → PSs (cxOf (L2.CX P w) P w K mg base N qual scope f cdv A outer s H E) body (LS K (wOf E) mb)) :
    FnX P w K mg base (k + 1) f fd ps m := by
  obtain ⟨oc, od, dV, kV, doc, pm, an, cdv, ct, osl, rfl, lk, hcd, _, _⟩ := F.ex
  refine ⟨fun A outer s H args us vs Q E hgs hr e0 hbd r hsp => ?_⟩
  have hl : vs.length = ps.length := hsp.1
  have KX : K.In s.heap := e0.mod.kin.keeps fun b o z => (e0.bs b o z).1
  have lim : s.heap.NoLimit := e0.mod.nolimit.keeps fun b o z => (e0.bs b o z).1
  have kinds : ∀ y ∈ ps.zip us, scope.names.lookup y.1 = some .local ∨ (scope.names.lookup y.1 = some .cell ∧ ((cellsFrom (s.heap.objs.size + 1) scope.names []).lookup y.1).isSome = true) := fun ⟨n, v⟩ hy => (Sc.par n (List.of_mem_zip hy).1).imp id fun q => ⟨q, PySem.W.cellsFrom_some _ _ _ (.inl q)⟩
  refine codeAny_call_function hr.depth (KX _ _ lk) rfl Sc.co Sc.gen rfl (PySem.W.codeRec_of KX hcd) (hbd _ _ _ _ (wpAny_newFunctionEnv_cells Sc.kind kinds fun env he s1 z => ?_))
  subst he
  refine ⟨lim.keeps z.toInCall.keep, codeAny_func ?_⟩
  have I : Inv (cxOf (L2.CX P w) P w K mg base N qual scope f cdv A outer s H E) [] (L2.start N vs) H s1 := inv_start Sc hr.hd e0 hl r z
  refine wpAny_mono ((hb cdv A outer s H E hgs (hr.deeper _)).run [] s1 (L2.start N vs) H _ I (hm vs H Q E hsp)) (fun fl s' hs => ?_) fun e s' hs => hs
  have q := body_end hs
  cases fl <;> exact q
theorem fnx_m {name qual : Str} {params : Arguments} {body : List Stmt} {scope : Scope} {dvs : List V} {kws : List (Str × V)} {f : Addr} {fd : FuncData} {N ps : List Str} {k : Nat} {mb : MS} (F : FunD K name qual params body scope dvs kws f fd) (Sc : FnScope N ps scope)
    (hb : ∀ (cdv : Value) (A : Around) (outer : List Env) (s : Shared) (H : Hp) (E : XK), A.guards = some [] → Room k (A.deeper (envOfC qual scope s.heap.objs.size f cdv)) → PSs (cxOf (L2.CX P w) P w K mg base N qual scope f cdv A outer s H E) body (LS K (wOf E) mb)) :
    FnX P w K mg base (k + 1) f fd ps (mFn N.length mb) := fnx_core F Sc (fun vs H Q E h => by
  obtain ⟨_, ρ, S, ws, R, r, h⟩ := h
  refine ⟨ρ, S, _, R, start_st (N := N) r, ?_⟩
  revert h
  unfold mFn
  cases mb (ws.map some ++ List.replicate (N.length - ws.length) none) S with
  | bad => exact fun z => z
  | exc C ns ds τ S1 => exact fun h ρ1 H1 σ1 d fs k1 R1 s1 a b c => h _ _ d fs (k1.cut _ R.len.symm) (R1.cut _) (a.cut _) b (RelDs.sub (fun p m => live_cut m) ds c)
  | ok fl S1 =>
    cases fl with
    | rt w => exact fun h ρ1 H1 v k1 R1 r1 => fin_of R k1 R1 r1 h
    | nx τ => exact fun h ρ1 H1 σ1 k1 R1 s1 => h _ _ _ (k1.cut _ R.len.symm) (R1.cut _) rfl
    | bk τ => exact fun z => z.elim
    | ct τ => exact fun z => z.elim) hb
theorem fnx_mM {name qual : Str} {params : Arguments} {body : List Stmt} {scope : Scope} {dvs : List V} {kws : List (Str × V)} {f : Addr} {fd : FuncData} {N ps : List Str} {k : Nat} {mb : MS} (F : FunD K name qual params body scope dvs kws f fd) (Sc : FnScope N ps scope)
    (hb : ∀ (cdv : Value) (A : Around) (outer : List Env) (s : Shared) (H : Hp) (E : XK), A.guards = some [] → Room k (A.deeper (envOfC qual scope s.heap.objs.size f cdv)) → PSs (cxOf (L2.CX P w) P w K mg base N qual scope f cdv A outer s H E) body (LS K (wOf E) mb)) :
    FnX P w K mg base (k + 1) f fd ps (mFnM N.length mb) := fnx_core F Sc (fun vs H Q E h => by
  obtain ⟨_, ρ, S, ws, R, r, h⟩ := h
  refine ⟨ρ, S, _, R, start_st (N := N) r, ?_⟩
  revert h
  unfold mFnM
  cases mb (ws.map some ++ List.replicate (N.length - ws.length) none) S with
  | bad => exact fun z => z
  | exc C ns ds τ S1 => exact fun h ρ1 H1 σ1 d fs k1 R1 s1 a b c => h _ _ d fs k1 R1 a b c
  | ok fl S1 =>
    cases fl with
    | rt w => exact fun h ρ1 H1 v k1 R1 r1 => h _ _ _ k1 R1 r1
    | nx τ => exact fun h ρ1 H1 σ1 k1 R1 s1 => h _ _ _ k1 R1 rfl
    | bk τ => exact fun z => z.elim
    | ct τ => exact fun z => z.elim) hb
/-- the promise of a def, all its arguments given by place -/
def FnM (P : Program) (w : World) (K : PySem.W.Frag) (mg : Str → Option Value) (base : Heap) (k : Nat) (f : Addr) (np : Nat) (m : List W → Sto → Res W) : Prop :=
  ∀ (A : Around) (outer : List Env) (s : Shared) (H : Hp) (us : List Value) (vs : List V) (Q : VK) (E : XK), A.guards = some [] → Room k A → Env0 P w K mg base A outer s H → Vals vs us → spM K np m vs H Q E → codeAny (model P w) A (.call (.ref f) ⟨us, []⟩) (CR (L2.CX P w) outer P w H s Q E) s
theorem FnX.all {fd : FuncData} {ps : List Str} {k : Nat} {f : Addr} {m : List W → Sto → Res W} (F : FnX P w K mg base k f fd ps m) (hb : ∀ us : List Value, us.length = ps.length → bindArgs fd ⟨us, []⟩ = pure (ps.zip us)) : FnM P w K mg base k f ps.length m :=
  fun A outer s H us vs Q E hgs hr e0 r h => F.run A outer s H ⟨us, []⟩ us vs Q E hgs hr e0 (.of_eq (hb us (r.length.symm.trans h.1))) r h
theorem FnM.mono {j k np : Nat} {f : Addr} {m : List W → Sto → Res W} (F : FnM P w K mg base j f np m) (h : j ≤ k) : FnM P w K mg base k f np m := fun A outer s H us vs Q E hgs hr => F A outer s H us vs Q E hgs (hr.mono h)
theorem FnX.mono {fd : FuncData} {ps : List Str} {j k : Nat} {f : Addr} {m : List W → Sto → Res W} (F : FnX P w K mg base j f fd ps m) (h : j ≤ k) : FnX P w K mg base k f fd ps m := ⟨fun A outer s H args us vs Q E hgs hr => F.run A outer s H args us vs Q E hgs (hr.mono h)⟩
end

/-! ### calls of defs -/
def mCall (m : List W → Sto → Res W) (ml : ML) : ME := fun τ S => (ml τ S).bind m
section
variable {X : Cx} {Wx : WX} {x : Str} {e : Expr} {es : List Expr} {ml : ML} {p pos : Pos} {k np : Nat} {f : Addr} {m : List W → Sto → Res W}
theorem run_fnM {E : XK} {pins : List (Addr × Obj)} {σ : L2.St} {H : Hp} {s : Shared} {Q : VK} {us : List Value} {vs : List V} (F : FnM X.prog X.w X.K X.mg X.base k f np m) (hgs : X.A.guards = some []) (hr : Room k X.A) (hx : PassesAt (L2.CX X.prog X.w) X σ E)
    (I : Inv X pins σ H s) (r : Vals vs us) (h : spM X.K np m vs H Q E) : wpAny (model X.prog X.w) X.A (call (.ref f) us) (EP X pins σ Q) X.xe s := by
  refine wpAny_call (codeAny_mono (F X.A X.stack s H us vs Q E hgs hr I.env0 r h) fun r s' hq => ?_)
  cases r with
  | error e => exact hx pins H s e s' I hq
  | ok fl =>
    cases fl with
    | ret u => exact I.after hq
    | next => exact False.elim hq
    | brk => exact False.elim hq
    | cont => exact False.elim hq
/-- behind the arguments -/
theorem call_core {K : PySem.W.Frag} {σ : L2.St} {H : Hp} {Q : VK} (h : LE K Wx (mCall m ml) σ H Q) (hn : ∀ τ S ws S1, ml τ S = .ok ws S1 → ws.length = np) : LA K Wx ml σ H fun vs H1 => spM K np m vs H1 Q (atσ Wx σ) := by
  obtain ⟨ρ, S, τ, R, s, h⟩ := h
  refine ⟨ρ, S, τ, R, s, ?_⟩
  have h1 := AfterL.bind h
  revert h1
  cases q : ml τ S with
  | bad => exact fun z => z
  | exc C ns ds S1 => exact fun z => z
  | ok ws S1 =>
    intro h1 ρ1 H1 vs k1 R1 r1
    obtain ⟨ρa, Sa, wa, ka, Ra, ra, h2⟩ := h1 ρ1 H1 vs k1 R1 r1
    exact ⟨by rw [← Paired.length r1]; exact hn τ S ws S1 q, ρa, Sa, wa, Ra, ra, h2⟩
end
end L3

set_option Elab.async false
set_option linter.all false
set_option maxRecDepth 100000
set_option maxHeartbeats 2000000
namespace L3
open PySem PySem.Spec PyProof.Rows L2

/-! ### operators by values -/
def lim : Nat := 100000
/-- a list that stands by itself, tracked -/
def lstOf (S : Sto) : W → Option (List D)
  | .d (.lst l) => some l
  | .ref i => match S[i]? with
    | some (some (.lst l)) => some l
    | _ => none
  | _ => none
section
variable {K : PySem.W.Frag} {ρ : Rho} {H : Hp} {S : Sto}
theorem lst_of (R : Rel K ρ S H) {w : W} {v : V} {l : List D} (r : RelW K ρ H w v) (e : lstOf S w = some l) : ∃ p xs, v = .ref p ∧ H p = some (.lst xs) ∧ RelDs K ρ H l xs := by
  cases w with
  | ref i =>
    unfold lstOf at e
    simp only at e
    split at e
    · rename_i l e1
      cases e
      obtain ⟨p, rfl, _, xs, e2, r2⟩ := R.ref e1 r
      exact ⟨p, xs, rfl, e2, r2⟩
    · cases e
  | d x =>
    cases x with
    | lst l => cases e; obtain ⟨p, xs, rfl, h, r2⟩ := r; exact ⟨p, xs, rfl, h.2, r2⟩
    | _ => cases e
theorem here {w : W} {v : V} {S' : Sto} {Q : VK} (q : ∀ ρ' H' v, Keeps ρ H ρ' H' → Rel K ρ' S' H' → RelW K ρ' H' w v → Q v H') (R : Rel K ρ S' H) (r : RelW K ρ H w v) : Q v H := q ρ H v Keeps.refl R r
theorem here_new {l : List D} {xs : List V} {S' : Sto} {Q : VK} (q : ∀ ρ' H' v, Keeps ρ H ρ' H' → Rel K ρ' S' H' → RelW K ρ' H' (.d (.lst l)) v → Q v H') (R : Rel K ρ S' H) (r : RelDs K ρ H l xs) (p : Addr) (hp : H p = none) : Q (.ref p) (upd H p (.lst xs)) :=
  q _ _ _ (Keeps.new hp R.hid') (R.new hp) (new_lst R r hp)
theorem here_tup {l : List D} {xs : List V} {S' : Sto} {Q : VK} (q : ∀ ρ' H' v, Keeps ρ H ρ' H' → Rel K ρ' S' H' → RelW K ρ' H' (.d (.tup l)) v → Q v H') (R : Rel K ρ S' H) (r : RelDs K ρ H l xs) (p : Addr) (hp : H p = none) : Q (.ref p) (upd H p (.tup xs)) :=
  q _ _ _ (Keeps.new hp R.hid') (R.new hp) (new_tup R r hp)
theorem here_reg {l : List D} {xs : List V} {S1 : Sto} {Q : VK} (q : ∀ ρ' H' v, Keeps ρ H ρ' H' → Rel K ρ' (S1 ++ [some (.lst l)]) H' → RelW K ρ' H' (.ref S1.length) v → Q v H') (R : Rel K ρ S1 H) (r : RelDs K ρ H l xs) (p : Addr) (hp : H p = none) : Q (.ref p) (upd H p (.lst xs)) :=
  q _ _ _ (Keeps.reg hp R.hid') (reg_lst R r hp).1 (reg_lst R r hp).2
theorem RelDs.rep {l : List D} {xs : List V} (r : RelDs K ρ H l xs) : ∀ n, RelDs K ρ H (List.replicate n l).flatten (List.replicate n xs).flatten
  | 0 => rfl
  | n + 1 => by
    rw [List.replicate_succ, List.replicate_succ, List.flatten_cons, List.flatten_cons]
    exact r.append (r.rep n)
end

/-- + : new lists by mk -/
def addW (mk : List D → Sto → Res W) (a b : W) (S : Sto) : Res W := match a, b with
  | .d (.int i), .d (.int j) => .ok (.d (.int (i + j))) S
  | .d (.str x), .d (.str y) => if x.length + y.length ≤ 100000 then .ok (.d (.str (x ++ y))) S else .bad
  | .d (.tup l), .d (.tup m) => if l.length + m.length ≤ 100000 then .ok (.d (.tup (l ++ m))) S else .bad
  | a, b => match lstOf S a, lstOf S b with
    | some l, some m => if l.length + m.length ≤ 100000 then mk (l ++ m) S else .bad
    | _, _ => .bad
def mkL (l : List D) (S : Sto) : Res W := .ok (.d (.lst l)) S
def mkM (l : List D) (S : Sto) : Res W := .ok (.ref S.length) (S ++ [some (.lst l)])
abbrev opAdd := addW mkL
abbrev opAddM := addW mkM
/-- a way to make a new list -/
def MkOk (mk : List D → Sto → Res W) : Prop := ∀ {K : PySem.W.Frag} {ρ : Rho} {H : Hp} {S S' : Sto} {w : W} {l : List D} {xs : List V} {Q : VK}, mk l S = .ok w S' → (∀ ρ' H' v, Keeps ρ H ρ' H' → Rel K ρ' S' H' → RelW K ρ' H' w v → Q v H') →
  Rel K ρ S H → RelDs K ρ H l xs → ∀ p, H p = none → Q (.ref p) (upd H p (.lst xs))
theorem mkL_ok : MkOk mkL := fun e q R r p hp => by
  cases e
  exact here_new q R r p hp
theorem mkM_ok : MkOk mkM := fun e q R r p hp => by
  cases e
  exact here_reg q R r p hp
section
variable {X : Cx}
theorem o_add {mk : List D → Sto → Res W} (hm : MkOk mk) : OpR X (binaryOp .Add) (liftOp X.K (addW mk)) := opMono (op_add.or (op_add_str.or (op_catA.or op_cat))) fun x y H Q h => by
  obtain ⟨ρ, S, a, b, w, S', R, ra, rb, e, q⟩ := h
  unfold addW at e
  split at e
  · cases e; cases ra; cases rb; exact .inl ⟨_, _, rfl, rfl, here q R rfl⟩
  · split at e
    · rename_i hl
      cases e; cases ra; cases rb
      exact .inr (.inl ⟨_, _, rfl, rfl, size5 hl, here q R rfl⟩)
    · cases e
  · split at e
    · rename_i l m hl
      cases e
      obtain ⟨p, xs, rfl, h1, r1⟩ := ra
      obtain ⟨p2, ys, rfl, h2, r2⟩ := rb
      refine .inr (.inr (.inl ⟨p, p2, xs, ys, rfl, rfl, h1, h2, size5 (by rw [← RelDs.length r1, ← RelDs.length r2]; exact hl), fun z => ?_, fun _ z => ?_, fun _ _ => here_tup q R (RelDs.append r1 r2)⟩))
      · subst z
        have e0 := RelDs.length r1
        have : l = [] := List.eq_nil_of_length_eq_zero (by simpa using e0)
        subst this
        exact here q R ⟨p2, ys, rfl, h2, r2⟩
      · subst z
        have e0 := RelDs.length r2
        have : m = [] := List.eq_nil_of_length_eq_zero (by simpa using e0)
        subst this
        exact here q R ⟨p, xs, rfl, h1, by rw [List.append_nil]; exact r1⟩
    · cases e
  · split at e
    · rename_i l m e1 e2
      split at e
      · rename_i hl
        obtain ⟨p, xs, rfl, h1, r1⟩ := lst_of R ra e1
        obtain ⟨p2, ys, rfl, h2, r2⟩ := lst_of R rb e2
        exact .inr (.inr (.inr ⟨p, p2, xs, ys, rfl, rfl, h1, h2, size5 (by rw [← r1.length, ← r2.length]; exact hl), hm e q R (r1.append r2)⟩))
      · cases e
    · cases e
end
def opSub (a b : W) (S : Sto) : Res W := match a, b with
  | .d (.int i), .d (.int j) => .ok (.d (.int (i - j))) S
  | _, _ => .bad
def mulW (mk : List D → Sto → Res W) (a b : W) (S : Sto) : Res W := match a, b with
  | .d (.int i), .d (.int j) => if (-(2 ^ 64) < i ∧ i < 2 ^ 64) ∨ (-(2 ^ 64) < j ∧ j < 2 ^ 64) then .ok (.d (.int (i * j))) S else .bad
  | .d (.tup l), .d (.int k) => if l ≠ [] ∧ 2 ≤ k ∧ k ≤ 1000 ∧ l.length ≤ 1000 then .ok (.d (.tup (List.replicate k.toNat l).flatten)) S else
      if k = 1 then .bad else .bad
  | a, .d (.int k) => match lstOf S a with
    | some l => if 0 ≤ k ∧ k ≤ 1000 ∧ l.length ≤ 100 then mk (List.replicate k.toNat l).flatten S else .bad
    | none => .bad
  | _, _ => .bad
abbrev opMul := mulW mkL
abbrev opMulM := mulW mkM
def opMod (a b : W) (S : Sto) : Res W := match a, b with
  | .d (.int i), .d (.int j) => if 0 < j then .ok (.d (.int (i % j))) S else .bad
  | _, _ => .bad
def opFdv (a b : W) (S : Sto) : Res W := match a, b with
  | .d (.int i), .d (.int j) => if 0 < j ∧ j < 1073741824 then .ok (.d (.int (i / j))) S else .bad
  | _, _ => .bad
def opPow (a b : W) (S : Sto) : Res W := match a, b with
  | .d (.int i), .d (.int j) => if 0 ≤ j ∧ j ≤ 1000 ∧ i.natAbs < 2 ^ 64 then .ok (.d (.int (i ^ j.toNat))) S else .bad
  | _, _ => .bad
section
variable {X : Cx}
theorem o_sub : OpR X (binaryOp .Sub) (liftOp X.K opSub) := opMono op_sub fun x y H Q h => by
  obtain ⟨ρ, S, a, b, w, S', R, ra, rb, e, q⟩ := h
  unfold opSub at e
  split at e
  · cases e; cases ra; cases rb; exact ⟨_, _, rfl, rfl, here q R rfl⟩
  · cases e
theorem o_mod : OpR X (binaryOp .Mod) (liftOp X.K opMod) := opMono op_mod fun x y H Q h => by
  obtain ⟨ρ, S, a, b, w, S', R, ra, rb, e, q⟩ := h
  unfold opMod at e
  split at e
  · split at e
    · rename_i hj
      cases e; cases ra; cases rb; exact ⟨_, _, rfl, rfl, hj, here q R rfl⟩
    · cases e
  · cases e
theorem o_fdv : OpR X (binaryOp .FloorDiv) (liftOp X.K opFdv) := opMono op_fdiv fun x y H Q h => by
  obtain ⟨ρ, S, a, b, w, S', R, ra, rb, e, q⟩ := h
  unfold opFdv at e
  split at e
  · split at e
    · rename_i hj
      cases e; cases ra; cases rb; exact ⟨_, _, rfl, rfl, hj, here q R rfl⟩
    · cases e
  · cases e
theorem o_pow : OpR X (binaryOp .Pow) (liftOp X.K opPow) := opMono op_pow fun x y H Q h => by
  obtain ⟨ρ, S, a, b, w, S', R, ra, rb, e, q⟩ := h
  unfold opPow at e
  split at e
  · split at e
    · rename_i hj
      cases e; cases ra; cases rb; exact ⟨_, _, rfl, rfl, ⟨hj.1, by omega, hj.2.2⟩, here q R rfl⟩
    · cases e
  · cases e
theorem o_mul {mk : List D → Sto → Res W} (hm : MkOk mk) : OpR X (binaryOp .Mult) (liftOp X.K (mulW mk)) := opMono (op_mul.or (op_repT.or op_rep)) fun x y H Q h => by
  obtain ⟨ρ, S, a, b, w, S', R, ra, rb, e, q⟩ := h
  unfold mulW at e
  split at e
  · split at e
    · rename_i hj
      cases e; cases ra; cases rb; exact .inl ⟨_, _, rfl, rfl, hj, here q R rfl⟩
    · cases e
  · split at e
    · rename_i l k hj
      cases e; cases rb
      obtain ⟨p, xs, rfl, h1, r1⟩ := ra
      have hl := RelDs.length r1
      refine .inr (.inl ⟨p, _, xs, rfl, rfl, h1, fun z => ?_, hj.2.1, hj.2.2.1, by omega, here_tup q R (RelDs.rep r1 _)⟩)
      subst z
      exact hj.1 (List.eq_nil_of_length_eq_zero (by simpa using hl))
    · split at e <;> cases e
  · split at e
    · rename_i l e1
      split at e
      · rename_i hj
        cases rb
        obtain ⟨p, xs, rfl, h1, r1⟩ := lst_of R ra e1
        have hl := r1.length
        refine .inr (.inr ⟨p, _, xs, rfl, rfl, h1, by omega, by omega, ?_, hm e q R (r1.rep _)⟩)
        refine size5 ?_
        exact Nat.mul_le_mul (show xs.length ≤ 100 by omega) (Int.toNat_le.mpr hj.2.1)
      · cases e
    · cases e
  · cases e
end
def mUn (g : W → Option D) (a : ME) : ME := fun τ S => (a τ S).bind fun w S1 => match g w with
  | some x => .ok (.d x) S1
  | none => .bad
def negW : W → Option D
  | .d (.int i) => some (.int (-i))
  | _ => none
section
variable {X : Cx} {Wx : WX} {a : Expr} {ma : ME} {pos : Pos}
theorem re_neg (ha : PE X a (LE X.K Wx ma)) : PE X (.UnaryOp .USub a pos) (LE X.K Wx (mUn negW ma)) := (pe_un un_neg ha).mono fun σ H Q h => by
  obtain ⟨ρ, S, τ, R, s, h⟩ := h
  refine ⟨ρ, S, τ, R, s, (After.bind h).imp (fun v H ⟨ρ1, S1, w, A, q⟩ => ?_) fun _ _ _ z => z⟩
  obtain ⟨k, R1, r⟩ := A
  split at q
  · rename_i x e
    unfold negW at e
    split at e
    · cases e; cases r; exact ⟨_, rfl, q _ _ _ Keeps.refl R1 rfl⟩
    · cases e
  · exact q.elim
end

/-! ### comparisons by values -/
def ordW (gi : Int → Int → Bool) (gs : List Nat → List Nat → Bool) (a b : W) (S : Sto) : Res W := match a, b with
  | .d (.int i), .d (.int j) => .ok (.d (.bl (gi i j))) S
  | .d (.str x), .d (.str y) => .ok (.d (.bl (gs x.cps.toList y.cps.toList))) S
  | _, _ => .bad
abbrev opLt := ordW (fun i j => decide (i < j)) fun x y => decide (x < y)
abbrev opGt := ordW (fun i j => decide (j < i)) fun x y => decide (y < x)
abbrev opLe := ordW (fun i j => decide (i ≤ j)) fun x y => !decide (y < x)
abbrev opGe := ordW (fun i j => decide (j ≤ i)) fun x y => !decide (x < y)
section
variable {X : Cx}
theorem o_lt : OpR X (compareOp .Lt) (liftOp X.K opLt) := opMono (op_lt.or op_lt_str) fun x y H Q h => by
  obtain ⟨ρ, S, a, b, w, S', R, ra, rb, e, q⟩ := h
  unfold opLt at e
  unfold ordW at e
  split at e
  · cases e; cases ra; cases rb; exact .inl ⟨_, _, rfl, rfl, here q R rfl⟩
  · cases e; cases ra; cases rb; exact .inr ⟨_, _, rfl, rfl, here q R rfl⟩
  · cases e
theorem o_gt : OpR X (compareOp .Gt) (liftOp X.K opGt) := opMono (op_gt.or op_gt_str) fun x y H Q h => by
  obtain ⟨ρ, S, a, b, w, S', R, ra, rb, e, q⟩ := h
  unfold opGt at e
  unfold ordW at e
  split at e
  · cases e; cases ra; cases rb; exact .inl ⟨_, _, rfl, rfl, here q R rfl⟩
  · cases e; cases ra; cases rb; exact .inr ⟨_, _, rfl, rfl, here q R rfl⟩
  · cases e
theorem o_le : OpR X (compareOp .LtE) (liftOp X.K opLe) := opMono (op_le.or op_le_str) fun x y H Q h => by
  obtain ⟨ρ, S, a, b, w, S', R, ra, rb, e, q⟩ := h
  unfold opLe at e
  unfold ordW at e
  split at e
  · cases e; cases ra; cases rb; exact .inl ⟨_, _, rfl, rfl, here q R rfl⟩
  · cases e; cases ra; cases rb; exact .inr ⟨_, _, rfl, rfl, here q R rfl⟩
  · cases e
theorem o_ge : OpR X (compareOp .GtE) (liftOp X.K opGe) := opMono (op_ge.or op_ge_str) fun x y H Q h => by
  obtain ⟨ρ, S, a, b, w, S', R, ra, rb, e, q⟩ := h
  unfold opGe at e
  unfold ordW at e
  split at e
  · cases e; cases ra; cases rb; exact .inl ⟨_, _, rfl, rfl, here q R rfl⟩
  · cases e; cases ra; cases rb; exact .inr ⟨_, _, rfl, rfl, here q R rfl⟩
  · cases e
end

/-! ### == of data -/
mutual
def pyD : D → Option PyData
  | .non => some .none
  | .bl b => some (.bool b)
  | .int i => some (.int i)
  | .str x => some (.str x)
  | .tup l => match pyDs l with
    | some ds => some (.tuple ds)
    | none => none
  | .lst l => match pyDs l with
    | some ds => some (.list ds)
    | none => none
  | .fzl l => match pyDs l with
    | some ds => some (.list ds)
    | none => none
  | _ => none
def pyDs : List D → Option (List PyData)
  | [] => some []
  | x :: l => match pyD x, pyDs l with
    | some d, some ds => some (d :: ds)
    | _, _ => none
end
def pyW (S : Sto) : W → Option PyData
  | .d x => pyD x
  | .ref i => match S[i]? with
    | some (some (.lst l)) => match pyDs l with
      | some ds => some (.list ds)
      | none => none
    | _ => none
section
variable {K : PySem.W.Frag} {ρ : Rho} {H : Hp} {S : Sto}
mutual
theorem dp_of : ∀ (x : D) {v : V} {d : PyData}, RelD K ρ H x v → pyD x = some d → Dp K H v d
  | .non, _, _, r, e => by unfold pyD at e; cases e; cases r; exact .non
  | .bl b, _, _, r, e => by unfold pyD at e; cases e; cases r; exact .bl b
  | .int i, _, _, r, e => by unfold pyD at e; cases e; cases r; exact .int i
  | .str z, _, _, r, e => by unfold pyD at e; cases e; cases r; exact .str z
  | .tup l, _, _, r, e => by
    unfold pyD at e
    obtain ⟨p, xs, rfl, h, r2⟩ := r
    split at e
    · rename_i ds e1
      cases e
      exact .tup h (dps_of l r2 e1)
    · cases e
  | .lst l, _, _, r, e => by
    unfold pyD at e
    obtain ⟨p, xs, rfl, h, r2⟩ := r
    split at e
    · rename_i ds e1
      cases e
      exact .lst h.sq (dps_of l r2 e1)
    · cases e
  | .fzl l, _, _, r, e => by
    unfold pyD at e
    obtain ⟨p, xs, rfl, h, r2⟩ := r
    split at e
    · rename_i ds e1
      cases e
      exact .lst h.sq (dps_of l r2 e1)
    · cases e
  | .ty _, _, _, _, e => by unfold pyD at e; cases e
  | .st _, _, _, _, e => by unfold pyD at e; cases e
  | .dct _ _, _, _, _, e => by unfold pyD at e; cases e
  | .obj _ _ _, _, _, _, e => by unfold pyD at e; cases e
  | .exc _ _ _, _, _, _, e => by unfold pyD at e; cases e
theorem dps_of : ∀ (l : List D) {xs : List V} {ds : List PyData}, RelDs K ρ H l xs → pyDs l = some ds → DpAll K H xs ds
  | [], _, _, r, e => by unfold pyDs at e; cases e; cases r; exact .nil
  | x :: l, _, _, r, e => by
    unfold pyDs at e
    obtain ⟨y, ys, rfl, h, r2⟩ := r
    split at e
    · rename_i d ds e1 e2
      cases e
      exact .cons (dp_of x h e1) (dps_of l r2 e2)
    · cases e
end
theorem dpw_of (R : Rel K ρ S H) {w : W} {v : V} {d : PyData} (r : RelW K ρ H w v) (e : pyW S w = some d) : Dp K H v d := by
  cases w with
  | d x => exact dp_of x r e
  | ref i =>
    unfold pyW at e
    simp only at e
    split at e
    · rename_i l e1
      split at e
      · rename_i ds e2
        cases e
        obtain ⟨p, rfl, _, xs, e3, r2⟩ := R.ref e1 r
        exact .lst (SqL.of e3) (dps_of l r2 e2)
      · cases e
    · cases e
end
def eqW (S : Sto) (a b : W) : Option Bool := match pyW S a, pyW S b with
  | some d, some e => if SeqAt.shaped d = true ∧ SeqAt.shaped e = true then some (PyData.eqv d e) else none
  | _, _ => none
def opEq (a b : W) (S : Sto) : Res W := match eqW S a b with
  | some k => .ok (.d (.bl k)) S
  | none => .bad
def opNe (a b : W) (S : Sto) : Res W := match eqW S a b with
  | some k => .ok (.d (.bl (!k))) S
  | none => .bad
section
variable {X : Cx}
theorem eqW_of {K : PySem.W.Frag} {ρ : Rho} {H : Hp} {S : Sto} (R : Rel K ρ S H) {a b : W} {x y : V} {k : Bool} (ra : RelW K ρ H a x) (rb : RelW K ρ H b y) (e : eqW S a b = some k) : ∃ d e, Dp K H x d ∧ Dp K H y e ∧ SeqAt.shaped d = true ∧ SeqAt.shaped e = true ∧ PyData.eqv d e = k := by
  unfold eqW at e
  split at e
  · rename_i d d2 e1 e2
    split at e
    · rename_i h
      exact ⟨d, d2, dpw_of R ra e1, dpw_of R rb e2, h.1, h.2, Option.some.inj e⟩
    · cases e
  · cases e
theorem o_eq (hu : X.A.units + 64 < cLine) : OpR X (compareOp .Eq) (liftOp X.K opEq) := opMono (op_eqD hu) fun x y H Q h => by
  obtain ⟨ρ, S, a, b, w, S', R, ra, rb, e, q⟩ := h
  unfold opEq at e
  split at e
  · rename_i k e1
    cases e
    obtain ⟨d, d2, h1, h2, h3, h4, h5⟩ := eqW_of R ra rb e1
    exact ⟨d, d2, h1, h2, h3, h4, here q R (by rw [h5]; rfl)⟩
  · cases e
theorem o_ne (hu : X.A.units + 64 < cLine) : OpR X (compareOp .NotEq) (liftOp X.K opNe) := opMono (op_neD hu) fun x y H Q h => by
  obtain ⟨ρ, S, a, b, w, S', R, ra, rb, e, q⟩ := h
  unfold opNe at e
  split at e
  · rename_i k e1
    cases e
    obtain ⟨d, d2, h1, h2, h3, h4, h5⟩ := eqW_of R ra rb e1
    exact ⟨d, d2, h1, h2, h3, h4, here q R (by rw [h5]; rfl)⟩
  · cases e
/-- is None, is not None; is True .. -/
def isD : D → D → Option Bool
  | .non, .non => some true
  | .bl a, .bl b => some (decide (a = b))
  | .non, .bl _ => none
  | .bl _, .non => some false
  | .int _, .non => some false
  | .str _, .non => some false
  | .tup _, .non => some false
  | .lst _, .non => some false
  | .fzl _, .non => some false
  | .dct _ _, .non => some false
  | .obj _ _ _, .non => some false
  | .exc _ _ _, .non => some false
  | .st _, .non => some false
  | .ty _, .non => some false
  | _, _ => none
def isW (S : Sto) : W → W → Option Bool
  | .d x, .d y => isD x y
  | .ref i, .d .non => match S[i]? with
    | some (some _) => some false
    | _ => none
  | _, _ => none
def opIs (a b : W) (S : Sto) : Res W := match isW S a b with
  | some k => .ok (.d (.bl k)) S
  | none => .bad
def opIsNot (a b : W) (S : Sto) : Res W := match isW S a b with
  | some k => .ok (.d (.bl (!k))) S
  | none => .bad
theorem isW_of {K : PySem.W.Frag} {ρ : Rho} {H : Hp} {S : Sto} (R : Rel K ρ S H) {a b : W} {x y : V} {k : Bool} (ra : RelW K ρ H a x) (rb : RelW K ρ H b y) (e : isW S a b = some k) : (y = .non ∧ k = decide (x = .non)) ∨ ∃ a b, x = .bl a ∧ y = .bl b ∧ k = decide (a = b) := by
  cases a with
  | ref i =>
    cases b with
    | ref j => cases e
    | d z =>
      cases z with
      | non =>
        unfold isW at e
        simp only at e
        split at e
        · rename_i o e1
          cases e
          obtain ⟨p, rfl, _⟩ := R.ref e1 ra
          cases rb
          exact .inl ⟨rfl, rfl⟩
        · cases e
      | _ => cases e
  | d z =>
    cases b with
    | ref j => cases e
    | d z2 =>
      have e' : isD z z2 = some k := e
      have rb' : RelD K ρ H z2 y := rb
      have ra' : RelD K ρ H z x := ra
      cases z2 with
      | non =>
        cases rb'
        refine .inl ⟨rfl, ?_⟩
        cases z with
        | non => cases e'; cases ra'; rfl
        | bl _ => cases e'; cases ra'; rfl
        | int _ => cases e'; cases ra'; rfl
        | str _ => cases e'; cases ra'; rfl
        | ty _ => cases e'; cases ra'; rfl
        | st _ => cases e'; cases ra'; rfl
        | tup _ => cases e'; obtain ⟨p, xs, rfl, _⟩ := ra'; rfl
        | lst _ => cases e'; obtain ⟨p, xs, rfl, _⟩ := ra'; rfl
        | fzl _ => cases e'; obtain ⟨p, xs, rfl, _⟩ := ra'; rfl
        | dct _ _ => cases e'; obtain ⟨p, xs, rfl, _⟩ := ra'; rfl
        | obj _ _ _ => cases e'; obtain ⟨p, dx, xs, rfl, _⟩ := ra'; rfl
        | exc _ _ _ => cases e'; obtain ⟨p, dx, xs, rfl, _⟩ := ra'; rfl
      | bl b =>
        cases rb'
        cases z with
        | bl a => cases e'; cases ra'; exact .inr ⟨_, _, rfl, rfl, rfl⟩
        | _ => cases e'
      | _ => cases z <;> cases e'
theorem o_is : OpR X (compareOp .Is) (liftOp X.K opIs) := opMono (op_isN.or op_is_bl) fun x y H Q h => by
  obtain ⟨ρ, S, a, b, w, S', R, ra, rb, e, q⟩ := h
  unfold opIs at e
  split at e
  · rename_i k e1
    cases e
    rcases isW_of R ra rb e1 with ⟨h1, h2⟩ | ⟨a, b, h1, h2, h3⟩
    · exact .inl ⟨h1, here q R (by rw [h2]; rfl)⟩
    · exact .inr ⟨a, b, h1, h2, here q R (by rw [h3]; rfl)⟩
  · cases e
theorem o_isnot : OpR X (compareOp .IsNot) (liftOp X.K opIsNot) := opMono (op_notN.or op_isnot_bl) fun x y H Q h => by
  obtain ⟨ρ, S, a, b, w, S', R, ra, rb, e, q⟩ := h
  unfold opIsNot at e
  split at e
  · rename_i k e1
    cases e
    rcases isW_of R ra rb e1 with ⟨h1, h2⟩ | ⟨a, b, h1, h2, h3⟩
    · exact .inl ⟨h1, here q R (by rw [h2]; rfl)⟩
    · exact .inr ⟨a, b, h1, h2, here q R (by rw [h3]; rfl)⟩
  · cases e
end

/-! ### in, not in -/
def flatD : D → Option V
  | .non => some .non
  | .bl b => some (.bl b)
  | .int i => some (.int i)
  | .str x => some (.str x)
  | _ => none
def flatDs : List D → Option (List V)
  | [] => some []
  | x :: l => match flatD x, flatDs l with
    | some v, some vs => some (v :: vs)
    | _, _ => none
def inW (S : Sto) : W → W → Option Bool
  | .d (.str x), .d (.str y) => some (!(Builtin.Str.occurrences y x 0 y.length 1).isEmpty)
  | .d x, w => match flatD x, itemsOf S w with
    | some v, some l => match flatDs l with
      | some xs => some (inV v xs)
      | none => none
    | _, _ => none
  | _, _ => none
def opIn (a b : W) (S : Sto) : Res W := match inW S a b with
  | some k => .ok (.d (.bl k)) S
  | none => .bad
def opNotIn (a b : W) (S : Sto) : Res W := match inW S a b with
  | some k => .ok (.d (.bl (!k))) S
  | none => .bad
section
variable {K : PySem.W.Frag} {ρ : Rho} {H : Hp} {S : Sto}
theorem flat_of {x : D} {v u : V} (r : RelD K ρ H x v) (e : flatD x = some u) : v = u ∧ flatV u = true := by
  cases x <;> cases e <;> cases r <;> exact ⟨rfl, rfl⟩
theorem flats_of : ∀ {l : List D} {xs ys : List V}, RelDs K ρ H l xs → flatDs l = some ys → xs = ys ∧ ys.all flatV = true
  | [], _, _, r, e => by unfold flatDs at e; cases e; cases r; exact ⟨rfl, rfl⟩
  | x :: l, _, _, ⟨y, zs, e0, h, r2⟩, e => by
    subst e0
    unfold flatDs at e
    split at e
    · rename_i v vs e1 e2
      cases e
      obtain ⟨a, b⟩ := flat_of h e1
      obtain ⟨c, d⟩ := flats_of r2 e2
      subst a c
      exact ⟨rfl, by rw [List.all_cons, b, d]; rfl⟩
    · cases e
theorem inW_of (R : Rel K ρ S H) {a b : W} {x y : V} {k : Bool} (ra : RelW K ρ H a x) (rb : RelW K ρ H b y) (e : inW S a b = some k) :
    (∃ i j, x = .str i ∧ y = .str j ∧ k = !(Builtin.Str.occurrences j i 0 j.length 1).isEmpty) ∨ ∃ p xs, y = .ref p ∧ (SqL K H p xs ∨ SqT K H p xs) ∧ flatV x = true ∧ xs.all flatV = true ∧ k = inV x xs := by
  unfold inW at e
  split at e
  · cases e; cases ra; cases rb; exact .inl ⟨_, _, rfl, rfl, rfl⟩
  · split at e
    · rename_i v l e1 e2
      split at e
      · rename_i xs e3
        cases e
        obtain ⟨p, ys, rfl, hq, rl⟩ := items_of R rb e2
        obtain ⟨a1, a2⟩ := flat_of ra e1
        obtain ⟨b1, b2⟩ := flats_of rl e3
        subst a1 b1
        exact .inr ⟨p, ys, rfl, hq.symm, a2, b2, rfl⟩
      · cases e
    · cases e
  · cases e
end
section
variable {X : Cx}
theorem o_in : OpR X (compareOp .In) (liftOp X.K opIn) := opMono (op_in_str.or op_in_seq) fun x y H Q h => by
  obtain ⟨ρ, S, a, b, w, S', R, ra, rb, e, q⟩ := h
  unfold opIn at e
  split at e
  · rename_i k e1
    cases e
    rcases inW_of R ra rb e1 with ⟨i, j, h1, h2, h3⟩ | ⟨p, xs, h1, h2, h3, h4, h5⟩
    · exact .inl ⟨i, j, h1, h2, here q R (by rw [h3]; rfl)⟩
    · exact .inr ⟨p, xs, h1, h2, h3, h4, here q R (by rw [h5]; rfl)⟩
  · cases e
theorem o_notin : OpR X (compareOp .NotIn) (liftOp X.K opNotIn) := opMono (op_notin_str.or op_notIn_seq) fun x y H Q h => by
  obtain ⟨ρ, S, a, b, w, S', R, ra, rb, e, q⟩ := h
  unfold opNotIn at e
  split at e
  · rename_i k e1
    cases e
    rcases inW_of R ra rb e1 with ⟨i, j, h1, h2, h3⟩ | ⟨p, xs, h1, h2, h3, h4, h5⟩
    · exact .inl ⟨i, j, h1, h2, here q R (by rw [h3]; rfl)⟩
    · exact .inr ⟨p, xs, h1, h2, h3, h4, here q R (by rw [h5]; rfl)⟩
  · cases e
end

/-! ### o[i], o[a:b] -/
def idxW (S : Sto) (a b : W) : Option D := match b with
  | .d (.int i) => match a with
    | .d (.str x) => if x.length ≤ 100000 then match atI x.cps.toList i with
        | some c => some (.str ⟨#[c]⟩)
        | none => none
      else none
    | a => match itemsOf S a with
      | some l => atI l i
      | none => none
  | _ => none
def opIdx (a b : W) (S : Sto) : Res W := match idxW S a b with
  | some x => .ok (.d x) S
  | none => .bad
theorem atI_rel {K : PySem.W.Frag} {ρ : Rho} {H : Hp} {l : List D} {xs : List V} {i : Int} {x : D} (r : RelDs K ρ H l xs) (e : atI l i = some x) : ∃ v, atI xs i = some v ∧ RelD K ρ H x v := by
  unfold atI at e ⊢
  rw [← r.length]
  cases q : ixN l.length i with
  | none => rw [q] at e; cases e
  | some j => rw [q] at e; exact r.get e
def liftIx (K : PySem.W.Frag) (g : W → W → Sto → Res W) : R2 := liftOp K g
section
variable {X : Cx}
theorem ixMono {r r' : R2} (h : IxR X r) (i : ∀ x y H Q, r' x y H Q → r x y H Q) : IxR X r' := fun a b pins s σ H x y v u Q I rx ry q hs => h a b pins s σ H x y v u Q I rx ry (i x y H Q q) hs
theorem o_idx : IxR X (liftOp X.K opIdx) := ixMono ix_seq fun x y H Q h => by
  obtain ⟨ρ, S, a, b, w, S', R, ra, rb, e, q⟩ := h
  unfold opIdx at e
  split at e
  · rename_i z e1
    cases e
    unfold idxW at e1
    split at e1
    · rename_i i
      cases rb
      split at e1
      · rename_i t
        split at e1
        · rename_i hl
          split at e1
          · rename_i c ec
            cases e1
            cases ra
            exact .inr (.inr ⟨_, _, c, rfl, rfl, size5 hl, ec, here q R rfl⟩)
          · cases e1
        · cases e1
      · split at e1
        · rename_i l el
          obtain ⟨p, xs, rfl, hq, rl⟩ := items_of R ra el
          obtain ⟨v, ev, rv⟩ := atI_rel rl e1
          rcases hq with hq | hq
          · exact .inr (.inl ⟨p, xs, _, v, rfl, rfl, hq, ev, here q R rv⟩)
          · exact .inl ⟨p, xs, _, v, rfl, rfl, hq, ev, here q R rv⟩
        · cases e1
    · cases e1
  · cases e
theorem re_idx {Wx : WX} {a b : Expr} {ma mb : ME} {pos : Pos} (ha : PE X a (LE X.K Wx ma)) (hb : PE X b (LE X.K Wx mb)) (hs : PlainIx b := by intro _ _; rfl) : PE X (.Subscript a b pos) (LE X.K Wx (mBin opIdx ma mb)) := (pe_ix o_idx ha hb hs).mono fun _ _ _ h => bin_core h
end
def cutD {α : Type} (l : List α) (lo hi : Option Int) : List α := (l.drop (HT.sIx l.length 0 lo)).take (HT.sIx l.length l.length hi - HT.sIx l.length 0 lo)
abbrev MO := Tau → Sto → Res (Option Int)
def moNone : MO := fun _ S => .ok none S
def moSome (m : ME) : MO := fun τ S => (m τ S).bind fun w S1 => match w with
  | .d (.int i) => .ok (some i) S1
  | _ => .bad
def slW (mk : List D → Sto → Res W) (w : W) (lo hi : Option Int) (S : Sto) : Res W := match w with
  | .d (.str x) => if x.length ≤ 100000 then .ok (.d (.str (cutS x lo hi))) S else .bad
  | .d (.tup l) => .ok (.d (.tup (cutD l lo hi))) S
  | w => match itemsOf S w with
    | some l => mk (cutD l lo hi) S
    | none => .bad
def mSl (mk : List D → Sto → Res W) (m : ME) (lo hi : MO) : ME := fun τ S => (m τ S).bind fun w S1 => (lo τ S1).bind fun l S2 => (hi τ S2).bind fun h S3 => (slW mk w l h S3).quiet
def AfterO (K : PySem.W.Frag) (ρ : Rho) (H : Hp) (r : Res (Option Int)) (Q : Option Int → Hp → Prop) (E : XK) : Prop := match r with
  | .ok w S' => ∀ ρ' H', Keeps ρ H ρ' H' → Rel K ρ' S' H' → Q w H'
  | .exc C ns ds S' => ∀ ρ' H' d fs, Keeps ρ H ρ' H' → Rel K ρ' S' H' → XdAt H' ρ' d fs → fs.map (·.1) = ns → RelDs K ρ' H' ds (fs.map (·.2)) → E (.ref C) d H'
  | .bad => False
def LO (K : PySem.W.Frag) (Wx : WX) (m : MO) : TO := fun σ H Q => ∃ ρ S τ, Rel K ρ S H ∧ RelSt K ρ H τ σ ∧ AfterO K ρ H (m τ S) Q (atσ Wx σ)
theorem AfterO.bind {K : PySem.W.Frag} {ρ : Rho} {H : Hp} {E : XK} {r : Res (Option Int)} {k : Option Int → Sto → Res W} {Q : VK} (h : After K ρ H (r.bind k) Q E) : AfterO K ρ H r (fun v H1 => ∃ ρ1 S1, Keeps ρ H ρ1 H1 ∧ Rel K ρ1 S1 H1 ∧ After K ρ1 H1 (k v S1) Q E) E := by
  cases r with
  | ok w S => exact fun ρ1 H1 a b => ⟨ρ1, S, a, b, h.shift a⟩
  | exc C ns ds S => exact h
  | bad => exact h
theorem AfterO.imp {K : PySem.W.Frag} {ρ : Rho} {H : Hp} {E E' : XK} {r : Res (Option Int)} {Q Q' : Option Int → Hp → Prop} (h : AfterO K ρ H r Q E) (q : ∀ v H, Q v H → Q' v H) (e : ∀ c d H, E c d H → E' c d H) : AfterO K ρ H r Q' E' := by
  cases r with
  | ok w S => exact fun ρ1 H1 a b => q _ _ (h ρ1 H1 a b)
  | exc C ns ds S => exact fun ρ1 H1 d fs a b c f g => e _ _ _ (h ρ1 H1 d fs a b c f g)
  | bad => exact h
theorem _root_.L2.PO.mono {X : Cx} {e : Option Expr} {t t' : TO} (h : PO X e t) (i : ∀ σ H Q, t' σ H Q → t σ H Q) : PO X e t' := ⟨fun pins s σ H Q I q => h.run pins s σ H Q I (i σ H Q q)⟩
theorem slMono {X : Cx} {r r' : V → Option Int → Option Int → Hp → VK → Prop} (h : L2.SlR X r) (i : ∀ x l u H Q, r' x l u H Q → r x l u H Q) : L2.SlR X r' := fun pins s σ H x v vl vu lo hi sl Q I rx hs pl pu q => h pins s σ H x v vl vu lo hi sl Q I rx hs pl pu (i x lo hi H Q q)
theorem RelDs.cut {K : PySem.W.Frag} {ρ : Rho} {H : Hp} {l : List D} {xs : List V} (r : RelDs K ρ H l xs) (lo hi : Option Int) : RelDs K ρ H (cutD l lo hi) (cutV xs lo hi) := by
  unfold cutD cutV
  rw [r.length]
  exact (r.drop _).take _
def liftSl (K : PySem.W.Frag) (mk : List D → Sto → Res W) : V → Option Int → Option Int → Hp → VK → Prop := fun x lo hi H Q => ∃ ρ S a w S', Rel K ρ S H ∧ RelW K ρ H a x ∧ slW mk a lo hi S = .ok w S' ∧ ∀ ρ' H' v, Keeps ρ H ρ' H' → Rel K ρ' S' H' → RelW K ρ' H' w v → Q v H'
section
variable {X : Cx} {Wx : WX} {e a b : Expr} {lo hi : Option Expr} {me : ME} {ml mh : MO} {pos p2 : Pos}
theorem ro_none : PO X none (LO X.K Wx moNone) := po_none.mono fun σ H Q h => by
  obtain ⟨ρ, S, τ, R, s, h⟩ := h
  exact h ρ H Keeps.refl R
theorem ro_some (h : PE X e (LE X.K Wx me)) : PO X (some e) (LO X.K Wx (moSome me)) := (po_some h).mono fun σ H Q h => by
  obtain ⟨ρ, S, τ, R, s, h⟩ := h
  refine ⟨ρ, S, τ, R, s, ?_⟩
  revert h
  show AfterO X.K ρ H ((me τ S).bind _) Q _ → _
  cases me τ S with
  | bad => exact fun z => z
  | exc C ns ds S1 => exact fun z => z
  | ok w S1 =>
    intro h ρ1 H1 v k1 R1 r1
    cases w with
    | ref i => exact h.elim
    | d x =>
      cases x with
      | int i => cases r1; exact ⟨i, rfl, h ρ1 H1 k1 R1⟩
      | _ => exact h.elim
theorem o_sl {mk : List D → Sto → Res W} (hm : MkOk mk) : L2.SlR X (liftSl X.K mk) := slMono (sl_str.or (sl_tupA.or sl_list)) fun x lo hi H Q h => by
  obtain ⟨ρ, S, a, w, S', R, ra, e, q⟩ := h
  unfold slW at e
  split at e
  · split at e
    · rename_i hl
      cases e; cases ra
      exact .inl ⟨_, rfl, size5 hl, here q R rfl⟩
    · cases e
  · rename_i l
    cases e
    obtain ⟨p, xs, rfl, h1, r1⟩ := ra
    refine .inr (.inl ⟨p, xs, rfl, h1, fun hw => here q R ⟨p, xs, rfl, h1, ?_⟩, fun _ => here_tup q R (RelDs.cut r1 lo hi)⟩)
    have hl := RelDs.length r1
    have : cutD l lo hi = l := by
      unfold cutD
      rw [hl, hw.1, hw.2]
      rw [List.drop_zero, Nat.sub_zero, ← hl, List.take_length]
    rw [this]
    exact r1
  · split at e
    · rename_i l el
      obtain ⟨p, xs, rfl, hq, rl⟩ := items_of R ra el
      rcases hq with hq | hq
      · cases a with
        | d z =>
          cases z with
          | tup l => exact ((by assumption : ∀ l_1 : List D, W.d (D.tup l) = W.d (D.tup l_1) → False) l rfl).elim
          | lst l =>
            cases el
            obtain ⟨p', xs', e', h', r2⟩ := ra
            cases e'
            exact .inr (.inr ⟨_, xs', rfl, h'.sq, hm e q R (RelDs.cut r2 lo hi)⟩)
          | fzl l =>
            cases el
            obtain ⟨p', xs', e', h', r2⟩ := ra
            cases e'
            exact .inr (.inr ⟨_, xs', rfl, h'.sq, hm e q R (RelDs.cut r2 lo hi)⟩)
          | _ => cases el
        | ref i =>
          unfold itemsOf at el
          simp only at el
          split at el
          · rename_i l2 e1
            cases el
            obtain ⟨p', e', _, xs', h', r2⟩ := R.ref e1 ra
            cases e'
            exact .inr (.inr ⟨_, xs', rfl, SqL.of h', hm e q R (RelDs.cut r2 lo hi)⟩)
          · cases el
      · exact .inr (.inr ⟨p, xs, rfl, hq, hm e q R (RelDs.cut rl lo hi)⟩)
    · cases e
theorem re_sl {mk : List D → Sto → Res W} (hm : MkOk mk) (he : PE X e (LE X.K Wx me)) (hl : PO X lo (LO X.K Wx ml)) (hh : PO X hi (LO X.K Wx mh)) : PE X (.Subscript e (.Slice lo hi none p2) pos) (LE X.K Wx (mSl mk me ml mh)) := (pe_slice (o_sl hm) he hl hh).mono fun σ H Q h => by
  obtain ⟨ρ, S, τ, R, s, h⟩ := h
  refine ⟨ρ, S, τ, R, s, (After.bind h).imp (fun v H ⟨ρ1, S1, w, A, h⟩ => ?_) fun _ _ _ z => z⟩
  refine ⟨ρ1, S1, τ, A.R, s.mono A.k, (AfterO.bind h).imp (fun l H ⟨ρ2, S2, k2, R2, h⟩ => ?_) fun _ _ _ z => z⟩
  refine ⟨ρ2, S2, τ, R2, (s.mono A.k).mono k2, (AfterO.bind h).imp (fun u H ⟨ρ3, S3, k3, R3, h⟩ => ?_) fun _ _ _ z => z⟩
  obtain ⟨w', S', e, q⟩ := After.quiet h
  exact ⟨ρ3, S3, w, w', S', R3, (A.r.mono k2).mono k3, e, q⟩
end
end L3

set_option Elab.async false
set_option linter.all false
set_option maxRecDepth 100000
set_option maxHeartbeats 2000000
namespace L3
open PySem PySem.Spec PyProof.Rows L2

/-! ### the context's facts -/
structure Gd (X : Cx) (Wx : WX) (k : Nat) : Prop where
  calm : X.calm = true
  tk : Takes X Wx
  pass : PassesOwn (model X.prog X.w) X.A X.env X.xe
  room : Room k X.A
  nd : X.N.Nodup
  gs : X.A.guards = some []
abbrev W0 : WX := fun _ _ _ _ => False
theorem Gd.units {X : Cx} {Wx : WX} {k : Nat} (g : Gd X Wx k) : X.A.units + 64 < cLine := g.room.units
theorem Gd.blk {X : Cx} {Wx : WX} {k : Nat} (g : Gd X Wx k) (s : Shared) (H : Hp) (sc : Scope) (e : Env) (fp : List Addr) : Gd (X.blk s H sc e fp) W0 k := ⟨g.calm, takes0, PassesOwn.never, g.room, g.nd, g.gs⟩
theorem Gd.fn {P : Program} {w : World} {K : PySem.W.Frag} {mg : Str → Option Value} {base : Heap} {N : List Str} {qual : Str} {sc : Scope} {f : Addr} {cd : Value} {A : Around} {outer : List Env} {s : Shared} {H : Hp} {E : XK} {k : Nat}
    (hr : Room k (A.deeper (envOfC qual sc s.heap.objs.size f cd))) (nd : N.Nodup) (hgs : A.guards = some []) : Gd (cxOf (L2.CX P w) P w K mg base N qual sc f cd A outer s H E) (wOf E) k := ⟨rfl, takes_of rfl rfl rfl rfl, passes_of rfl, hr, nd, hgs⟩

/-! ### one of two readings -/
theorem _root_.L2.PE.or {X : Cx} {e : Expr} {t u : TE} (a : PE X e t) (b : PE X e u) : PE X e (fun σ H Q => t σ H Q ∨ u σ H Q) := ⟨fun pins s σ H Q I h => h.elim (a.run pins s σ H Q I) (b.run pins s σ H Q I)⟩
theorem _root_.L2.PI.or {X : Cx} {tg e : Expr} {t u : TI} (a : PI X tg e t) (b : PI X tg e u) : PI X tg e (fun σ H Q => t σ H Q ∨ u σ H Q) := ⟨fun pins s σ H Q I h => h.elim (a.run pins s σ H Q I) (b.run pins s σ H Q I)⟩
theorem _root_.L2.PI.mono {X : Cx} {tg e : Expr} {t t' : TI} (h : PI X tg e t) (i : ∀ σ H Q, t' σ H Q → t σ H Q) : PI X tg e t' := ⟨fun pins s σ H Q I q => h.run pins s σ H Q I (i σ H Q q)⟩
theorem _root_.L2.PG.mono {X : Cx} {e : Expr} {t t' : TG} (h : PG X e t) (i : ∀ v σ H Q, t' v σ H Q → t v σ H Q) : PG X e t' := ⟨fun pins s σ H v u Q I r q => h.run pins s σ H v u Q I r (i v σ H Q q)⟩

/-! ### what is walked -/
def IterOk (K : PySem.W.Frag) (ρ : Rho) (H : Hp) (J : It) (l : List D) : Prop := ∃ (G : Hp → Prop) (Y : Nat → Hp → V → Hp → Prop), Walk J l.length G Y ∧ (∀ ρ' H', Keeps ρ H ρ' H' → G H') ∧
  ∀ (i : Nat) ρ1 H1 x H2, i < l.length → Keeps ρ H ρ1 H1 → (∀ b, b ∈ ρ1.hid → ∃ u, H1 b = some u) → Y i H1 x H2 → ∃ d, l[i]? = some d ∧ Keeps ρ1 H1 ρ1 H2 ∧ (∀ S, Rel K ρ1 S H1 → Rel K ρ1 S H2) ∧ RelD K ρ1 H2 d x
abbrev MI := Tau → Sto → Res (List D)
def AfterI (K : PySem.W.Frag) (ρ : Rho) (H : Hp) (r : Res (List D)) (R : It → Hp → Prop) (E : XK) : Prop := match r with
  | .ok l S' => ∀ ρ' H' J, Keeps ρ H ρ' H' → Rel K ρ' S' H' → IterOk K ρ' H' J l → R J H'
  | .exc C ns ds S' => ∀ ρ' H' d fs, Keeps ρ H ρ' H' → Rel K ρ' S' H' → XdAt H' ρ' d fs → fs.map (·.1) = ns → RelDs K ρ' H' ds (fs.map (·.2)) → E (.ref C) d H'
  | .bad => False
def LI (K : PySem.W.Frag) (Wx : WX) (m : MI) : TI := fun σ H R => ∃ ρ S τ, Rel K ρ S H ∧ RelSt K ρ H τ σ ∧ AfterI K ρ H (m τ S) R (atσ Wx σ)
section
variable {K : PySem.W.Frag} {ρ ρ' : Rho} {H H' : Hp} {E E' : XK}
theorem AfterI.shift {r : Res (List D)} {Q : It → Hp → Prop} (k : Keeps ρ H ρ' H') (h : AfterI K ρ H r Q E) : AfterI K ρ' H' r Q E := by
  cases r with
  | ok w S => exact fun ρ2 H2 v k2 R r => h ρ2 H2 v (k.trans k2) R r
  | exc C ns ds S => exact fun ρ2 H2 d fs k2 R a b c => h ρ2 H2 d fs (k.trans k2) R a b c
  | bad => exact h
theorem After.bindI {r : Res W} {k : W → Sto → Res (List D)} {Q : It → Hp → Prop} (h : AfterI K ρ H (r.bind k) Q E) : After K ρ H r (fun v H1 => ∃ ρ1 S1 w, At K ρ H w S1 v ρ1 H1 ∧ AfterI K ρ1 H1 (k w S1) Q E) E := by
  cases r with
  | ok w S => exact fun ρ1 H1 v a b c => ⟨ρ1, S, w, ⟨a, b, c⟩, AfterI.shift a h⟩
  | exc C ns ds S => exact h
  | bad => exact h
theorem AfterL.bindI {r : Res (List W)} {k : List W → Sto → Res (List D)} {Q : It → Hp → Prop} (h : AfterI K ρ H (r.bind k) Q E) : AfterL K ρ H r (fun v H1 => ∃ ρ1 S1 w, Keeps ρ H ρ1 H1 ∧ Rel K ρ1 S1 H1 ∧ RelWs K ρ1 H1 w v ∧ AfterI K ρ1 H1 (k w S1) Q E) E := by
  cases r with
  | ok w S => exact fun ρ1 H1 v a b c => ⟨ρ1, S, w, a, b, c, AfterI.shift a h⟩
  | exc C ns ds S => exact h
  | bad => exact h
theorem AfterL.imp {r : Res (List W)} {Q Q' : List V → Hp → Prop} (h : AfterL K ρ H r Q E) (q : ∀ v H, Q v H → Q' v H) (e : ∀ c d H, E c d H → E' c d H) : AfterL K ρ H r Q' E' := by
  cases r with
  | ok w S => exact fun ρ1 H1 v a b c => q _ _ (h ρ1 H1 v a b c)
  | exc C ns ds S => exact fun ρ1 H1 d fs a b c f g => e _ _ _ (h ρ1 H1 d fs a b c f g)
  | bad => exact h
theorem iter_list {p : Addr} {l : List D} {xs : List V} (hq : ∀ ρ' H', Keeps ρ H ρ' H' → SqL K H' p xs) (r : RelDs K ρ H l xs) : IterOk K ρ H (Itl K p) l := by
  refine ⟨_, _, by rw [r.length]; exact walk_list, hq, fun i ρ1 H1 x H2 hi k hh y => ?_⟩
  obtain ⟨rfl, e⟩ := y
  obtain ⟨d, e1, r1⟩ := (RelDs.mono k l r).get' e
  exact ⟨d, e1, Keeps.refl, fun _ R => R, r1⟩
theorem iter_tup {p : Addr} {l : List D} {xs : List V} (h : SqT K H p xs) (r : RelDs K ρ H l xs) : IterOk K ρ H (Itt K p) l := by
  refine ⟨_, _, by rw [r.length]; exact walk_tup, fun ρ' H' k => k.sqT h, fun i ρ1 H1 x H2 hi k hh y => ?_⟩
  obtain ⟨rfl, e⟩ := y
  obtain ⟨d, e1, r1⟩ := (RelDs.mono k l r).get' e
  exact ⟨d, e1, Keeps.refl, fun _ R => R, r1⟩
def signs (z : Str) : List D := z.cps.toList.map fun c => .str ⟨#[c]⟩
theorem iter_str {z : Str} : IterOk K ρ H (Its z) (signs z) := by
  refine ⟨_, _, by unfold signs; rw [List.length_map, Array.length_toList]; exact walk_str, fun _ _ _ => trivial, fun i ρ1 H1 x H2 hi k hh y => ?_⟩
  obtain ⟨rfl, c, e, rfl⟩ := y
  refine ⟨.str ⟨#[c]⟩, ?_, Keeps.refl, fun _ R => R, rfl⟩
  unfold signs
  rw [List.getElem?_map, Array.getElem?_toList, e]
  rfl
def intsD (lo : Int) (n : Nat) : List D := (List.range n).map fun (i : Nat) => D.int (lo + (i : Int))
theorem iter_range {lo : Int} {n : Nat} : IterOk K ρ H (Itr lo n) (intsD lo n) := by
  refine ⟨_, _, by unfold intsD; rw [List.length_map, List.length_range]; exact walk_range, fun _ _ _ => trivial, fun i ρ1 H1 x H2 hi k hh y => ?_⟩
  obtain ⟨rfl, rfl⟩ := y
  refine ⟨.int (lo + (i : Int)), ?_, Keeps.refl, fun _ R => R, rfl⟩
  unfold intsD at hi ⊢
  rw [List.length_map, List.length_range] at hi
  rw [List.getElem?_map, List.getElem?_range hi]
  rfl
end
/-- the items of a list, a tuple, a text; a list of the store is frozen -/
def seqOf (S : Sto) : W → Option (List D × Sto)
  | .d (.str z) => some (signs z, S)
  | .d (.tup l) => some (l, S)
  | .d (.lst l) => some (l, S)
  | .d (.fzl l) => some (l, S)
  | .ref i => match S[i]? with
    | some (some (.lst l)) => some (l, S.set i none)
    | _ => none
  | _ => none
def miSeq (m : ME) : MI := fun τ S => (m τ S).bind fun w S1 => match seqOf S1 w with
  | some (l, S2) => .ok l S2
  | none => .bad
/-- what becomes of a walked value -/
theorem seq_of {K : PySem.W.Frag} {ρ : Rho} {H : Hp} {S S1 : Sto} {w : W} {v : V} {l : List D} (R : Rel K ρ S H) (r : RelW K ρ H w v) (e : seqOf S w = some (l, S1)) :
    ∃ ρ1, Keeps ρ H ρ1 H ∧ Rel K ρ1 S1 H ∧ ((∃ z, v = .str z ∧ l = signs z) ∨ (∃ p xs, v = .ref p ∧ SqT K H p xs ∧ RelDs K ρ1 H l xs) ∨ ∃ p xs, v = .ref p ∧ (∀ ρ' H', Keeps ρ1 H ρ' H' → SqL K H' p xs) ∧ RelDs K ρ1 H l xs) := by
  cases w with
  | ref i =>
    unfold seqOf at e
    simp only at e
    split at e
    · rename_i l2 e1
      cases e
      obtain ⟨p, rfl, ep, xs, e2, r2⟩ := R.ref e1 r
      have h0 := not_mem_kill R ep
      exact ⟨ρ.kill i, Keeps.kill i, R.kill i, .inr (.inr ⟨p, xs, rfl, fun ρ' H' k => SqL.of (k.out _ _ e2 h0).1, RelDs.mono (Keeps.kill i) l r2⟩)⟩
    · cases e
  | d x =>
    cases x with
    | str z => cases e; cases r; exact ⟨ρ, Keeps.refl, R, .inl ⟨z, rfl, rfl⟩⟩
    | tup l => cases e; obtain ⟨p, xs, rfl, h, r2⟩ := r; exact ⟨ρ, Keeps.refl, R, .inr (.inl ⟨p, xs, rfl, h, r2⟩)⟩
    | lst l => cases e; obtain ⟨p, xs, rfl, h, r2⟩ := r; exact ⟨ρ, Keeps.refl, R, .inr (.inr ⟨p, xs, rfl, fun ρ' H' k => (k.lst h).sq, r2⟩)⟩
    | fzl l => cases e; obtain ⟨p, xs, rfl, h, r2⟩ := r; exact ⟨ρ, Keeps.refl, R, .inr (.inr ⟨p, xs, rfl, fun ρ' H' k => (k.fzl h).sq, r2⟩)⟩
    | _ => cases e
section
variable {X : Cx} {Wx : WX} {tg e a b : Expr} {me ma mb : ME} {ml : ML} {pos p : Pos}
theorem or3 {A B C : Prop} (h : A ∨ B ∨ C) : (A ∨ B) ∨ C := h.elim (fun z => .inl (.inl z)) fun z => z.elim (fun z => .inl (.inr z)) .inr
theorem ri_seq (he : PE X e (LE X.K Wx me)) : PI X tg e (LI X.K Wx (miSeq me)) := (((pi_str he).or (pi_tup he)).or (pi_list he)).mono fun σ H R h => by
  obtain ⟨ρ, S, τ, R1, s, h⟩ := h
  have h1 := After.bindI h
  unfold iStr iTup iList LE
  cases q : me τ S with
  | bad => rw [q] at h1; exact h1.elim
  | exc C ns ds S1 => exact or3 (.inl ⟨ρ, S, τ, R1, s, by rw [q] at h1 ⊢; exact h1⟩)
  | ok w S1 =>
    have h' : AfterI X.K ρ H ((me τ S).bind fun w S1 => match seqOf S1 w with | some (l, S2) => .ok l S2 | none => .bad) R (atσ Wx σ) := h
    rw [q] at h' h1
    have h3 : AfterI X.K ρ H (match seqOf S1 w with | some (l, S2) => Res.ok l S2 | none => .bad) R (atσ Wx σ) := h'
    cases qs : seqOf S1 w with
    | none =>
      rw [qs] at h3
      exact h3.elim
    | some lS =>
      obtain ⟨l, S2⟩ := lS
      rw [qs] at h3
      cases w with
      | ref i =>
        refine .inr ⟨ρ, S, τ, R1, s, ?_⟩
        rw [q]
        intro ρ2 H2 v k2 R2 r2
        have qs' := qs
        unfold seqOf at qs'
        simp only at qs'
        split at qs'
        · rename_i l2 e1
          cases qs'
          obtain ⟨p, rfl, ep, xs, e2, r2'⟩ := R2.ref e1 r2
          have h0 := not_mem_kill R2 ep
          exact ⟨p, rfl, ⟨xs, SqL.of e2⟩, h3 (ρ2.kill i) H2 _ (k2.trans (Keeps.kill i)) (R2.kill i) (iter_list (fun ρ' H' k => SqL.of (k.out _ _ e2 h0).1) (RelDs.mono (Keeps.kill i) l r2'))⟩
        · cases qs'
      | d x =>
        cases x with
        | str z =>
          cases qs
          exact or3 (.inl ⟨ρ, S, τ, R1, s, by rw [q]; exact fun ρ2 H2 v k2 R2 r2 => by cases r2; exact ⟨z, rfl, h3 ρ2 H2 _ k2 R2 iter_str⟩⟩)
        | tup l =>
          cases qs
          exact or3 (.inr (.inl ⟨ρ, S, τ, R1, s, by rw [q]; exact fun ρ2 H2 v k2 R2 r2 => by obtain ⟨p, xs, rfl, h, r3⟩ := r2; exact ⟨p, rfl, ⟨xs, h⟩, h3 ρ2 H2 _ k2 R2 (iter_tup h r3)⟩⟩))
        | lst l =>
          cases qs
          exact or3 (.inr (.inr ⟨ρ, S, τ, R1, s, by rw [q]; exact fun ρ2 H2 v k2 R2 r2 => by obtain ⟨p, xs, rfl, h, r3⟩ := r2; exact ⟨p, rfl, ⟨xs, h.sq⟩, h3 ρ2 H2 _ k2 R2 (iter_list (fun ρ' H' k => (k.lst h).sq) r3)⟩⟩))
        | fzl l =>
          cases qs
          exact or3 (.inr (.inr ⟨ρ, S, τ, R1, s, by rw [q]; exact fun ρ2 H2 v k2 R2 r2 => by obtain ⟨p, xs, rfl, h, r3⟩ := r2; exact ⟨p, rfl, ⟨xs, h.sq⟩, h3 ρ2 H2 _ k2 R2 (iter_list (fun ρ' H' k => (k.fzl h).sq) r3)⟩⟩))
        | _ => cases qs
def miRange (ml : ML) : MI := fun τ S => (ml τ S).bind fun ws S1 => match ws with
  | [.d (.int j)] => if -(2 ^ 62) ≤ j ∧ j < 2 ^ 62 then .ok (intsD 0 j.toNat) S1 else .bad
  | _ => .bad
theorem ri_range1 (hm : X.mg "range" = none) (ha : PA X [a] (LA X.K Wx ml)) (hg : Gl X "range" := by rfl) (hs : starEach [a] X.env = [(false, eval a X.env)] := by rfl) : PI X tg (.Call (.Name "range" p) [a] [] pos) (LI X.K Wx (miRange ml)) := (pi_range1 hg hm ha hs).mono fun σ H R h => by
  obtain ⟨ρ, S, τ, R1, s, h⟩ := h
  refine ⟨ρ, S, τ, R1, s, (AfterL.bindI h).imp (fun vs H1 ⟨ρ1, S1, ws, k, Ra, ra, q⟩ => ?_) fun _ _ _ z => z⟩
  split at q
  · rename_i j
    split at q
    · rename_i hj
      cases ra with
      | cons r0 rr =>
        cases rr
        cases r0
        exact ⟨j, rfl, hj.1, hj.2, q _ _ _ Keeps.refl Ra iter_range⟩
    · exact q.elim
  · exact q.elim
def miRange2 (ml : ML) : MI := fun τ S => (ml τ S).bind fun ws S1 => match ws with
  | [.d (.int i), .d (.int j)] => if -(2 ^ 62) ≤ i ∧ i < 2 ^ 62 ∧ -(2 ^ 62) ≤ j ∧ j < 2 ^ 62 then .ok (intsD i (j - i).toNat) S1 else .bad
  | _ => .bad
theorem ri_range2 (hm : X.mg "range" = none) (ha : PA X [a, b] (LA X.K Wx ml)) (hg : Gl X "range" := by rfl) (hs : starEach [a, b] X.env = [(false, eval a X.env), (false, eval b X.env)] := by rfl) (hs2 : starEach [b] X.env = [(false, eval b X.env)] := by rfl) :
    PI X tg (.Call (.Name "range" p) [a, b] [] pos) (LI X.K Wx (miRange2 ml)) := (pi_range2 hg hm ha hs hs2).mono fun σ H R h => by
  obtain ⟨ρ, S, τ, R1, s, h⟩ := h
  refine ⟨ρ, S, τ, R1, s, (AfterL.bindI h).imp (fun vs H1 ⟨ρ1, S1, ws, k, Ra, ra, q⟩ => ?_) fun _ _ _ z => z⟩
  split at q
  · rename_i i j
    split at q
    · rename_i hj
      cases ra with
      | cons r0 rr =>
        cases rr with
        | cons r1 rs =>
          cases rs
          cases r0
          cases r1
          exact ⟨i, j, rfl, hj, q _ _ _ Keeps.refl Ra iter_range⟩
    · exact q.elim
  · exact q.elim
end

/-! ### targets -/
abbrev MT := W → Tau → Option Tau
/-- what a target's store may change: the slots in fp -/
def Only (fp : List Nat) (σ σ' : L2.St) : Prop := σ'.length = σ.length ∧ ∀ j, j ∉ fp → σ'[j]? = σ[j]?
theorem Only.refl {fp : List Nat} {σ : L2.St} : Only fp σ σ := ⟨rfl, fun _ _ => rfl⟩
theorem Only.trans {fp : List Nat} {σ σ1 σ2 : L2.St} (a : Only fp σ σ1) (b : Only fp σ1 σ2) : Only fp σ σ2 := ⟨b.1.trans a.1, fun j h => (b.2 j h).trans (a.2 j h)⟩
theorem wipe_get {σ : L2.St} {i : Nat} : ∀ {vs : List Nat}, (wipe σ vs)[i]? = if i ∈ vs ∧ i < σ.length then some none else σ[i]?
  | [] => by simp [wipe]
  | v :: vs => by
    unfold wipe
    by_cases h : v = i
    · subst h
      by_cases hl : v < σ.length
      · rw [List.getElem?_set_self (by rw [wipe_length]; exact hl)]
        simp [hl]
      · rw [List.getElem?_eq_none (by rw [List.length_set, wipe_length]; omega)]
        simp [hl]
    · rw [List.getElem?_set_ne h, wipe_get]
      by_cases hi : i ∈ vs <;> simp [hi, Ne.symm h]
theorem Only.wipe {fp vs : List Nat} {σ σ' : L2.St} (h : Only fp σ σ') (hs : ∀ j ∈ fp, j ∈ vs) : L2.wipe σ' vs = L2.wipe σ vs := by
  apply List.ext_getElem?
  intro i
  rw [wipe_get, wipe_get, h.1]
  by_cases hi : i ∈ vs
  · by_cases hl : i < σ.length
    · simp [hi, hl]
    · simp only [hi, hl, and_false, if_false]
      rw [List.getElem?_eq_none (by rw [h.1]; omega), List.getElem?_eq_none (by omega)]
  · simp only [hi, false_and, if_false]
    exact h.2 i fun m => hi (hs i m)
def LG (K : PySem.W.Frag) (fp : List Nat) (m : MT) : TG := fun v σ H Q => ∃ ρ S τ d τ', Rel K ρ S H ∧ RelSt K ρ H τ σ ∧ RelW K ρ H d v ∧ m d τ = some τ' ∧ ∀ ρ' H' σ', Keeps ρ H ρ' H' → Rel K ρ' S H' → RelSt K ρ' H' τ' σ' → Only fp σ σ' → Q σ' H'
abbrev MTs := List D → Tau → Option Tau
def LGs (K : PySem.W.Frag) (fp : List Nat) (m : MTs) : TGs := fun vs σ H Q => ∃ ρ S τ l τ', Rel K ρ S H ∧ RelSt K ρ H τ σ ∧ RelDs K ρ H l vs ∧ m l τ = some τ' ∧ ∀ ρ' H' σ', Keeps ρ H ρ' H' → Rel K ρ' S H' → RelSt K ρ' H' τ' σ' → Only fp σ σ' → Q σ' H'
def tName (i : Nat) : MT := fun d τ => some (τ.set i (some d))
def tsNil : MTs := fun l τ => match l with
  | [] => some τ
  | _ => none
def tsCons (t : MT) (r : MTs) : MTs := fun l τ => match l with
  | x :: l => match t (.d x) τ with
    | some τ1 => r l τ1
    | none => none
  | [] => none
def tTup' (n : Nat) (t : MTs) : MT := fun d τ => match d with
  | .d (.tup l) => if l.length = n then t l τ else none
  | _ => none
section
variable {X : Cx} {e : Expr} {es : List Expr} {pos : Pos} {fp : List Nat} {mt : MT} {mts : MTs}
theorem rg_name (i : Nat) {x : Str} (hN : X.N.Nodup) (hi : X.N[i]? = some x := by rfl) (hx : Loc X.env.scope x := by first | exact Or.inl rfl | exact Or.inr rfl) (hfp : i ∈ fp := by simp) (hf : X.fn x = true ∨ X.env.scope.names.lookup x = some .local := by first | exact .inl rfl | exact .inr rfl | assumption) :
    PG X (.Name x pos) (LG X.K fp (tName i)) := (pg_name hN hi hx hf).mono fun v σ H Q h => by
  obtain ⟨ρ, S, τ, d, τ', R, s, r, e, q⟩ := h
  cases e
  exact q ρ H _ Keeps.refl R (s.set i r) ⟨by simp, fun j hj => List.getElem?_set_ne fun z => hj (by subst z; exact hfp)⟩
theorem rgs_nil : PGs X [] (LGs X.K fp tsNil) := ⟨fun pins s σ H vs us Q I r h => pgs_nil.run pins s σ H vs us Q I r (by
  obtain ⟨ρ, S, τ, l, τ', R, st, rl, e, q⟩ := h
  unfold tsNil at e
  split at e
  · cases e
    cases rl
    exact ⟨rfl, q ρ H _ Keeps.refl R st Only.refl⟩
  · cases e)⟩
theorem rgs_cons (h1 : PG X e (LG X.K fp mt)) (h2 : PGs X es (LGs X.K fp mts)) (hs : (assignEach (e :: es) X.env).map (·.2) = assign e X.env :: (assignEach es X.env).map (·.2) := by rfl) : PGs X (e :: es) (LGs X.K fp (tsCons mt mts)) :=
  ⟨fun pins s σ H vs us Q I r h => (pgs_cons h1 h2 hs).run pins s σ H vs us Q I r (by
  obtain ⟨ρ, S, τ, l, τ', R, st, rl, e, q⟩ := h
  unfold tsCons at e
  split at e
  · rename_i x l2
    split at e
    · rename_i τ1 e1
      obtain ⟨y, ys, rfl, hy, hr⟩ := rl
      refine ⟨y, ys, rfl, ρ, S, τ, .d x, τ1, R, st, hy, e1, fun ρ' H' σ' k R' s' o => ?_⟩
      exact ⟨ρ', S, τ1, l2, τ', R', s', RelDs.mono k l2 hr, e, fun ρ2 H2 σ2 k2 R2 s2 o2 => q ρ2 H2 σ2 (k.trans k2) R2 s2 (o.trans o2)⟩
    · cases e
  · cases e)⟩
theorem rg_tup {k n : Nat} (hc : X.calm = true) (h : PGs X es (LGs X.K fp mts)) (hn : (assignEach es X.env).length = n := by rfl) (hst : (assignEach es X.env).findIdx? (·.1) = none := by rfl) : PG X (.Tuple es k pos) (LG X.K fp (tTup' n mts)) :=
  (pg_tup hc h hn hst).mono fun v σ H Q h => by
  obtain ⟨ρ, S, τ, d, τ', R, s, r, e, q⟩ := h
  unfold tTup' at e
  split at e
  · rename_i l
    split at e
    · rename_i hl
      obtain ⟨p, xs, rfl, hp, rl⟩ := r
      exact ⟨p, xs, rfl, hp, by rw [← RelDs.length rl]; exact hl, ρ, S, τ, l, τ', R, s, rl, e, q⟩
    · cases e
  · cases e
end
/-- target = value, by the target's rule -/
def mAsg (t : MT) (m : ME) : MS := fun τ S => (m τ S).then_ τ fun w S1 => match t w τ with
  | some τ1 => .ok (.nx τ1) S1
  | none => .bad
section
variable {X : Cx} {Wx : WX} {tg e : Expr} {me : ME} {mt : MT} {pos : Pos} {fp : List Nat}
theorem rs_asg (he : PE X e (LE X.K Wx me)) (hg : PG X tg (LG X.K fp mt)) (hs : swapsWithSole [tg] e pos.line X.env = pure false := by rfl) (hw : swappedStores [tg] e X.env = pure none := by rfl)
    (h1 : (assignEach [tg] X.env).map (·.2) = [assign tg X.env] := by rfl) : PS X (.Assign [tg] e pos) (LS X.K Wx (mAsg mt me)) := (ps_asg he hg hs hw h1).mono fun D σ H h => by
  obtain ⟨ρ, S, τ, R, s, h⟩ := h
  refine ⟨ρ, S, τ, R, s, (After.then_ s h).imp (fun v H ⟨ρ1, S1, w, A, q⟩ => ?_) fun _ _ _ z => z⟩
  obtain ⟨k, R1, r⟩ := A
  split at q
  · rename_i τ1 e1
    exact ⟨ρ1, S1, τ, w, τ1, R1, s.mono k, r, e1, fun ρ' H' σ' k' R' s' _ => q ρ' H' σ' k' R' s'⟩
  · exact q.elim
end

/-! ### for -/
def forD (t : MT) (body : MS) : List D → MS
  | [] => fun τ S => .ok (.nx τ) S
  | x :: l => fun τ S => match t (.d x) τ with
    | some τ1 => match body τ1 S with
      | .ok (.nx τ2) S2 => forD t body l τ2 S2
      | .ok (.ct τ2) S2 => forD t body l τ2 S2
      | .ok (.bk τ2) S2 => .ok (.nx τ2) S2
      | r => r
    | none => .bad
def mFor (mi : MI) (t : MT) (body : MS) : MS := fun τ S => (mi τ S).then_ τ fun l S1 => forD t body l τ S1
section
variable {X : Cx} {Wx : WX} {tg iter : Expr} {body : List Stmt} {mi : MI} {mt : MT} {ms : MS} {pos : Pos} {fp : List Nat}
theorem AfterI.then_ {K : PySem.W.Frag} {ρ : Rho} {H : Hp} {τ : Tau} {σ : L2.St} {r : Res (List D)} {k : List D → Sto → RS} {D : Ends} (s : RelSt K ρ H τ σ) (h : AfterS K ρ H (r.then_ τ k) D Wx) :
    AfterI K ρ H r (fun J H1 => ∃ ρ1 S1 l, Keeps ρ H ρ1 H1 ∧ Rel K ρ1 S1 H1 ∧ IterOk K ρ1 H1 J l ∧ AfterS K ρ1 H1 (k l S1) D Wx) (atσ Wx σ) := by
  cases r with
  | ok w S => exact fun ρ1 H1 v a b c => ⟨ρ1, S, w, a, b, c, AfterS.shift a h⟩
  | exc C ns ds S => exact fun ρ1 H1 d fs a b c e f => h ρ1 H1 σ d fs a b (s.mono a) c e f
  | bad => exact h
theorem AfterI.imp {K : PySem.W.Frag} {ρ : Rho} {H : Hp} {E E' : XK} {r : Res (List D)} {Q Q' : It → Hp → Prop} (h : AfterI K ρ H r Q E) (q : ∀ v H, Q v H → Q' v H) (e : ∀ c d H, E c d H → E' c d H) : AfterI K ρ H r Q' E' := by
  cases r with
  | ok w S => exact fun ρ1 H1 v a b c => q _ _ (h ρ1 H1 v a b c)
  | exc C ns ds S => exact fun ρ1 H1 d fs a b c f g => e _ _ _ (h ρ1 H1 d fs a b c f g)
  | bad => exact h
theorem rs_for {k : Nat} (g : Gd X Wx k) (hi : PI X tg iter (LI X.K Wx mi)) (hg : PG X tg (LG X.K fp mt)) (hb : PSs X body (LS X.K Wx ms)) (hs : ∀ x, foldedSetIterable iter X.env x = pure x := by intro _; rfl) :
    PS X (.For tg iter body [] pos) (LS X.K Wx (mFor mi mt ms)) := (ps_for g.pass g.calm hi hg hb hs).mono fun D σ H h => by
  obtain ⟨ρ, S, τ, R, s, h⟩ := h
  refine ⟨ρ, S, τ, R, s, (AfterI.then_ s h).imp (fun J H1 ⟨ρ1, S1, l, k1, R1, it, h1⟩ => ?_) fun _ _ _ z => z⟩
  obtain ⟨G, Y, wk, hG, hY⟩ := it
  refine for_it wk (fun i σ2 H2 => ∃ ρ2 S2 τ2, Keeps ρ1 H1 ρ2 H2 ∧ Rel X.K ρ2 S2 H2 ∧ RelSt X.K ρ2 H2 τ2 σ2 ∧ AfterS X.K ρ2 H2 (forD mt ms (l.drop i) τ2 S2) D Wx) ⟨ρ1, S1, τ, Keeps.refl, R1, s.mono k1, h1⟩ (fun i σ2 H2 _ ⟨ρ2, _, _, k2, _⟩ => hG ρ2 H2 k2) ?_ ?_
  · rintro i x σ2 H2 H3 hi ⟨ρ2, S2, τ2, k2, R2, s2, h2⟩ y
    obtain ⟨d, e1, k3, R3, rd⟩ := hY i ρ2 H2 x H3 hi k2 R2.hid' y
    have ed : l.drop i = d :: l.drop (i + 1) := by
      rw [List.drop_eq_getElem_cons hi]
      rw [List.getElem?_eq_getElem hi] at e1
      cases e1
      rfl
    rw [ed] at h2
    unfold forD at h2
    split at h2
    · rename_i τ3 e3
      refine ⟨ρ2, S2, τ2, .d d, τ3, R3 _ R2, s2.mono k3, rd, e3, fun ρ4 H4 σ4 k4 R4 s4 _ => ?_⟩
      refine ⟨ρ4, S2, τ3, R4, s4, ?_⟩
      have h4 := AfterS.shift (k3.trans k4) h2
      have kk := k2.trans (k3.trans k4)
      revert h4
      cases ms τ3 S2 with
      | bad => exact fun z => z
      | exc C ns ds τ5 S5 => exact fun z => z
      | ok f S5 =>
        cases f with
        | nx τ5 => exact fun z ρ5 H5 σ5 k5 R5 s5 => ⟨ρ5, S5, τ5, kk.trans k5, R5, s5, AfterS.shift k5 z⟩
        | ct τ5 => exact fun z ρ5 H5 σ5 k5 R5 s5 => ⟨ρ5, S5, τ5, kk.trans k5, R5, s5, AfterS.shift k5 z⟩
        | bk τ5 => exact fun z => z
        | rt w => exact fun z => z
    · exact h2.elim
  · rintro σ2 H2 ⟨ρ2, S2, τ2, k2, R2, s2, h2⟩
    rw [List.drop_length] at h2
    exact h2 ρ2 H2 σ2 Keeps.refl R2 s2
end

/-! ### comprehensions -/
def wipeT (τ : Tau) : List Nat → Tau
  | [] => τ
  | v :: vs => (wipeT τ vs).set v none
/-- the tests (true where there is none), the element -/
def lcD (t : MT) (tt : MB) (elt : ME) (τ : Tau) : List D → List D → Sto → Res (List D)
  | [], acc, S => .ok acc S
  | x :: l, acc, S => match t (.d x) τ with
    | some τ1 => (tt τ1 S).quiet.bind fun b S1 => match b with
      | true => (elt τ1 S1).quiet.bind fun w S2 => match dat S2 w with
        | some (d, S3) => if acc.length < 100000 then lcD t tt elt τ l (acc ++ [d]) S3 else .bad
        | none => .bad
      | false => lcD t tt elt τ l acc S1
    | none => .bad
def mLc (mk : List D → Sto → Res W) (mi : MI) (t : MT) (tt : MB) (elt : ME) (vs : List Nat) : ME := fun τ S => (mi τ S).bind fun l S1 => (lcD t tt elt (wipeT τ vs) l [] S1).bind fun acc S2 => (mk acc S2).quiet
def mYes : MB := fun _ S => .ok true S
section
variable {K : PySem.W.Frag} {ρ : Rho} {H : Hp} {τ : Tau} {σ : L2.St}
theorem RelSt.wipe (s : RelSt K ρ H τ σ) : ∀ vs : List Nat, RelSt K ρ H (wipeT τ vs) (L2.wipe σ vs)
  | [] => s
  | v :: vs => by
    have ih := RelSt.wipe s vs
    refine ⟨by simp [wipeT, L2.wipe, ih.len], fun i w e => ?_⟩
    unfold wipeT at e
    unfold L2.wipe
    by_cases h : v = i
    · subst h
      rw [List.getElem?_set] at e
      split at e
      · split at e <;> cases e
      · simp at *
    · rw [List.getElem?_set_ne h] at e ⊢
      exact ih.at_ i w e
end
section
variable {X : Cx} {Wx : WX}
theorem rts_nil : PTs X [] (LT X.K Wx mYes) := ⟨fun pins s σ H Q I h => pts_nil.run pins s σ H Q I (by
  obtain ⟨ρ, S, τ, R, st, h⟩ := h
  exact h ρ H Keeps.refl R)⟩
theorem rts_one {c : Expr} {mb : MB} (h : PT X c (LT X.K Wx mb)) : PTs X [c] (LT X.K Wx mb) := pts_one h
/-- an address that a rule keeps to itself -/
def Rho.hide (ρ : Rho) (p : Addr) : Rho := { ρ with hid := p :: ρ.hid }
theorem live_hide {ρ : Rho} {p q : Addr} (h : Live (ρ.hide p) q) : Live ρ q ∨ q = p := by
  rcases h with h | h
  · exact .inl (.inl h)
  · rcases List.mem_cons.mp h with h | h
    · exact .inr h
    · exact .inl (.inr h)
theorem hide_live {ρ : Rho} {p q : Addr} (h : Live ρ q) : Live (ρ.hide p) q := h.elim .inl fun m => .inr (List.mem_cons_of_mem _ m)
end
section
variable {K : PySem.W.Frag} {ρ ρ' : Rho} {H H' : Hp} {S : Sto}
theorem Keeps.hide {p : Addr} {o : HO} (h : H p = none) (R : ∀ b, b ∈ ρ.hid → ∃ u, H b = some u) : Keeps ρ H (ρ.hide p) (upd H p o) :=
  ⟨fun i q e => ⟨q, e, fun _ z => z⟩, fun b u e n => ⟨by rw [upd_ne (ne_of_none e h)]; exact e, fun m => by
      rcases live_hide m with m | m
      · exact n m
      · subst m
        rw [h] at e
        cases e⟩, fun b xs e => by rw [upd_ne (ne_of_none e h)]; exact e, fun b u v e => by rw [upd_ne (ne_of_none e h)]; exact e,
    fun b m => ⟨List.mem_cons_of_mem _ m, by obtain ⟨u, e⟩ := R b m; rw [upd_ne (ne_of_none e h)]⟩⟩
theorem Rel.hide {p : Addr} {o : HO} (R : Rel K ρ S H) (h : H p = none) (mu : Mut (some o)) : Rel K (ρ.hide p) S (upd H p o) :=
  ⟨R.len, R.inj, fun i q e => by
    obtain ⟨u, e1, r⟩ := R.at_ i q e
    obtain ⟨v, e2, _⟩ := r.tracked
    exact ⟨u, e1, r.mono1 (Keeps.hide h R.hid') (upd_ne (ne_of_none e2 h))⟩, R.live, fun b m => by
      rcases List.mem_cons.mp m with m | m
      · subst m
        exact ⟨fun z => R.fresh h (.inl z), o, upd_same, mu⟩
      · obtain ⟨h1, u, e, mu'⟩ := R.hid b m
        exact ⟨h1, u, by rw [upd_ne (ne_of_none e h)]; exact e, mu'⟩⟩
/-- the hidden object at p is written: relations that hold with p hidden hold on -/
theorem hid_write_keep {p : Addr} {o : HO} (hp : p ∈ ρ.hid) (R : Rel K ρ S H) : (∀ b u, H b = some u → ¬ Live ρ b → (upd H p o) b = some u) ∧ (∀ b xs, H b = some (.tup xs) → (upd H p o) b = some (.tup xs)) ∧ (∀ b u v, H b = some (.frz u v) → (upd H p o) b = some (.frz u v)) := by
  obtain ⟨_, u0, e0, mu⟩ := R.hid p hp
  exact ⟨fun b u e n => by rw [upd_ne (fun z : b = p => n (by rw [z]; exact .inr hp))]; exact e,
    fun b xs e => by rw [upd_ne (fun z => by subst z; rw [e] at e0; cases e0; exact mu)]; exact e,
    fun b u v e => by rw [upd_ne (fun z => by subst z; rw [e] at e0; cases e0; exact mu)]; exact e⟩
/-- as Keeps, but for one hidden object -/
theorem Keeps.hidW {p : Addr} {o : HO} {η : List Addr} (h0 : ρ.hid = p :: η) (R : Rel K ρ S H) (hn : p ∉ η) : Keeps { ρ with hid := η } H { ρ with hid := η } (upd H p o) → True := fun _ => trivial
theorem RelD.hidW {p : Addr} {o : HO} (hp : p ∈ ρ.hid) (R : Rel K ρ S H) {x : D} {v : V} (r : RelD K ρ H x v) : RelD K ρ (upd H p o) x v := by
  obtain ⟨k1, k2, k3⟩ := hid_write_keep (o := o) hp R
  -- a relation of data leans on what is not live, on tuples, on what is locked
  have k : Keeps { ρ with hid := [] , l := ρ.l ++ ρ.hid.map some } H { ρ with hid := [], l := ρ.l ++ ρ.hid.map some } (upd H p o) := by
    have lv : ∀ b, Live { ρ with hid := [], l := ρ.l ++ ρ.hid.map some } b ↔ Live ρ b := fun b => by
      constructor
      · rintro (h | h)
        · rcases List.mem_append.mp h with h | h
          · exact .inl h
          · obtain ⟨c, hc, e⟩ := List.mem_map.mp h
            cases e
            exact .inr hc
        · cases h
      · rintro (h | h)
        · exact .inl (List.mem_append_left _ h)
        · exact .inl (List.mem_append_right _ (List.mem_map.mpr ⟨b, h, rfl⟩))
    exact ⟨fun i q e => ⟨q, e, fun _ z => z⟩, fun b u e n => ⟨k1 b u e fun m => n ((lv b).mpr m), n⟩, k2, k3, fun b m => by cases m⟩
  have lv : ∀ b, Live { ρ with hid := [], l := ρ.l ++ ρ.hid.map some } b → Live ρ b := fun b => by
    rintro (h | h)
    · rcases List.mem_append.mp h with h | h
      · exact .inl h
      · obtain ⟨c, hc, e⟩ := List.mem_map.mp h
        cases e
        exact .inr hc
    · cases h
  have lv' : ∀ b, Live ρ b → Live { ρ with hid := [], l := ρ.l ++ ρ.hid.map some } b := fun b => by
    rintro (h | h)
    · exact .inl (List.mem_append_left _ h)
    · exact .inl (List.mem_append_right _ (List.mem_map.mpr ⟨b, h, rfl⟩))
  exact RelD.sub lv' x (RelD.mono k x (RelD.sub lv x r))
theorem RelDs.hidW {p : Addr} {o : HO} (hp : p ∈ ρ.hid) (R : Rel K ρ S H) : ∀ {l : List D} {xs : List V}, RelDs K ρ H l xs → RelDs K ρ (upd H p o) l xs
  | [], _, h => h
  | x :: l, _, ⟨y, ys, e, h, r⟩ => ⟨y, ys, e, RelD.hidW hp R h, RelDs.hidW hp R r⟩
theorem Rel.hidW {p : Addr} {o : HO} (hp : p ∈ ρ.hid) (R : Rel K ρ S H) (mu : Mut (some o)) : Rel K ρ S (upd H p o) :=
  ⟨R.len, R.inj, fun i q e => by
    obtain ⟨u, e1, r⟩ := R.at_ i q e
    have ne : q ≠ p := fun z => (R.hid p hp).1 (by rw [← z]; exact ix_mem e)
    refine ⟨u, e1, ?_⟩
    cases u with
    | lst l => obtain ⟨xs, e2, r⟩ := r; exact ⟨xs, by rw [upd_ne ne]; exact e2, RelDs.hidW hp R r⟩
    | dct ks l => obtain ⟨kvs, e2, e3, r⟩ := r; exact ⟨kvs, by rw [upd_ne ne]; exact e2, e3, RelDs.hidW hp R r⟩
    | ins C ns l => obtain ⟨dx, fs, e2, e3, r⟩ := r; exact ⟨dx, fs, by rw [upd_ne ne]; exact e2, e3, RelDs.hidW hp R r⟩, R.live, fun b m => by
      by_cases hb : b = p
      · subst hb
        exact ⟨(R.hid b m).1, o, upd_same, mu⟩
      · obtain ⟨h1, u, e, mu'⟩ := R.hid b m
        exact ⟨h1, u, by rw [upd_ne hb]; exact e, mu'⟩⟩
end
end L3

set_option Elab.async false
set_option linter.all false
set_option maxRecDepth 100000
set_option maxHeartbeats 2000000
namespace L3
open PySem PySem.Spec PyProof.Rows L2

/-! ### comprehensions -/
section
variable {K : PySem.W.Frag} {ρ0 ρ ρ' : Rho} {H0 H H' : Hp} {S : Sto} {p : Addr}
theorem Keeps.updD {o : HO} (k : Keeps ρ0 H0 ρ H) (h : H0 p = none) (hh : ∀ b, b ∈ ρ0.hid → ∃ u, H0 b = some u) : Keeps ρ0 H0 ρ (upd H p o) :=
  ⟨k.pre, fun b u e n => let ⟨a, c⟩ := k.out b u e n; ⟨by rw [upd_ne (ne_of_none e h)]; exact a, c⟩, fun b xs e => by rw [upd_ne (ne_of_none e h)]; exact k.tups b xs e, fun b u v e => by rw [upd_ne (ne_of_none e h)]; exact k.frzs b u v e,
    fun b m => let ⟨a, c⟩ := k.hid b m; ⟨a, by obtain ⟨u, e⟩ := hh b m; rw [upd_ne (ne_of_none e h)]; exact c⟩⟩
/-- other hidden ones -/
def Rho.as (ρ : Rho) (l : List (Option Addr)) (η : List Addr) : Rho := ⟨l, η⟩
theorem Keeps.unhide (k : Keeps ρ0 H0 ρ H) : Keeps ρ0 H0 ⟨ρ.l, ρ0.hid⟩ H :=
  ⟨k.pre, fun b u e n => ⟨(k.out b u e n).1, fun m => (k.out b u e n).2 (m.elim .inl fun z => .inr (k.hid b z).1)⟩, k.tups, k.frzs, fun b m => ⟨m, (k.hid b m).2⟩⟩
theorem live_un {η : List Addr} (hs : ∀ b, b ∈ η → b ∈ ρ.hid) (q : Addr) (h : Live ⟨ρ.l, η⟩ q) : Live ρ q := h.elim .inl fun m => .inr (hs q m)
theorem Rel.unhide {η : List Addr} (R : Rel K ρ S H) (hs : ∀ b, b ∈ η → b ∈ ρ.hid) : Rel K ⟨ρ.l, η⟩ S H :=
  ⟨R.len, R.inj, fun i q e => let ⟨o, e1, r⟩ := R.at_ i q e; ⟨o, e1, r.sub (live_un hs)⟩, R.live, fun b m => R.hid b (hs b m)⟩
theorem Keeps.unhideReg (k : Keeps ρ0 H0 ρ H) (hp : p ∈ ρ.hid) (h0 : H0 p = none) : Keeps ρ0 H0 ⟨ρ.l ++ [some p], ρ0.hid⟩ H :=
  ⟨fun i q e => let ⟨q', e', h'⟩ := k.pre i q e; ⟨q', by show (ρ.l ++ [some p])[i]? = _; rw [List.getElem?_append_left (List.getElem?_eq_some_iff.mp e').1]; exact e', h'⟩,
    fun b u e n => ⟨(k.out b u e n).1, fun m => (k.out b u e n).2 (by
      rcases m with m | m
      · rcases List.mem_append.mp m with m | m
        · exact .inl m
        · have : some b = some p := by simpa using m
          cases this
          exact .inr hp
      · exact .inr (k.hid b m).1)⟩, k.tups, k.frzs, fun b m => ⟨m, (k.hid b m).2⟩⟩
theorem Rel.unhideReg {η : List Addr} {l : List D} {xs : List V} (R : Rel K ρ S H) (hs : ∀ b, b ∈ η → b ∈ ρ.hid) (hp : p ∈ ρ.hid) (hn : p ∉ η) (e : H p = some (.lst xs)) (r : RelDs K ρ H l xs) : Rel K ⟨ρ.l ++ [some p], η⟩ (S ++ [some (.lst l)]) H := by
  have lv : ∀ q, Live ⟨ρ.l ++ [some p], η⟩ q → Live ρ q := fun q h => by
    rcases h with h | h
    · rcases List.mem_append.mp h with h | h
      · exact .inl h
      · have : some q = some p := by simpa using h
        cases this
        exact .inr hp
    · exact .inr (hs q h)
  have key : ∀ (i : Nat) (q : Addr), (ρ.l ++ [some p])[i]? = some (some q) → (ρ.l[i]? = some (some q) ∧ q ≠ p) ∨ (i = ρ.l.length ∧ q = p) := fun i q e => by
    by_cases hi : i < ρ.l.length
    · rw [List.getElem?_append_left hi] at e
      exact .inl ⟨e, fun z => (R.hid p hp).1 (by rw [← z]; exact ix_mem e)⟩
    · rw [List.getElem?_append_right (by omega)] at e
      have hl : i - ρ.l.length = 0 := by
        have := (List.getElem?_eq_some_iff.mp e).1
        simp at this
        omega
      rw [hl] at e
      simp at e
      exact .inr ⟨by omega, e.symm⟩
  refine ⟨by simp [R.len], fun i j q e1 e2 => ?_, fun i q e1 => ?_, fun i u2 e1 => ?_, fun b m => ⟨fun z => ?_, (R.hid b (hs b m)).2⟩⟩
  · rcases key i q e1 with ⟨a, n⟩ | ⟨a, n⟩ <;> rcases key j q e2 with ⟨b, m⟩ | ⟨b, m⟩
    · exact R.inj i j q a b
    · exact absurd m n
    · exact absurd n m
    · omega
  · rcases key i q e1 with ⟨a, n⟩ | ⟨a, n⟩
    · obtain ⟨v, e2, r1⟩ := R.at_ i q a
      exact ⟨v, by rw [List.getElem?_append_left (List.getElem?_eq_some_iff.mp e2).1]; exact e2, r1.sub lv⟩
    · subst n
      refine ⟨.lst l, ?_, xs, e, RelDs.sub lv l r⟩
      rw [a, R.len]
      simp
  · by_cases hi : i < S.length
    · rw [List.getElem?_append_left hi] at e1
      obtain ⟨q, e2⟩ := R.live i u2 e1
      exact ⟨q, by show (ρ.l ++ [some p])[i]? = _; rw [List.getElem?_append_left (List.getElem?_eq_some_iff.mp e2).1]; exact e2⟩
    · rw [List.getElem?_append_right (by omega)] at e1
      have hl : i - S.length = 0 := by
        have := (List.getElem?_eq_some_iff.mp e1).1
        simp at this
        omega
      exact ⟨p, by show (ρ.l ++ [some p])[i]? = _; rw [show i = ρ.l.length by rw [R.len]; omega]; simp⟩
  · rcases List.mem_append.mp z with z | z
    · exact (R.hid b (hs b m)).1 z
    · have : some b = some p := by simpa using z
      cases this
      exact hn m
end
/-- a way to make a list out of one that a rule has made -/
def MkAt (mk : List D → Sto → Res W) : Prop := ∀ {K : PySem.W.Frag} {ρ0 ρ : Rho} {H0 H : Hp} {S S' : Sto} {w : W} {l : List D} {xs : List V} {Q : VK} {p : Addr}, mk l S = .ok w S' → (∀ ρ' H' v, Keeps ρ0 H0 ρ' H' → Rel K ρ' S' H' → RelW K ρ' H' w v → Q v H') →
  Keeps ρ0 H0 ρ H → H0 p = none → (∀ b, b ∈ ρ0.hid → ∃ u, H0 b = some u) → Rel K ρ S H → p ∈ ρ.hid → H p = some (.lst xs) → RelDs K ρ H l xs → Q (.ref p) H
theorem mkL_at : MkAt mkL := fun {K ρ0 ρ H0 H S S' w l xs Q p} e q k h0 hh R hp ep r => by
  cases e
  have hs : ∀ b, b ∈ ρ0.hid → b ∈ ρ.hid := fun b m => (k.hid b m).1
  have hn : p ∉ ρ0.hid := fun m => by
    obtain ⟨u, e⟩ := hh p m
    rw [h0] at e
    cases e
  exact q _ _ _ k.unhide (R.unhide hs) ⟨p, xs, rfl, ⟨fun m => m.elim (fun z => (R.hid p hp).1 z) fun z => hn z, ep⟩, RelDs.sub (live_un hs) l r⟩
theorem mkM_at : MkAt mkM := fun {K ρ0 ρ H0 H S S' w l xs Q p} e q k h0 hh R hp ep r => by
  cases e
  have hs : ∀ b, b ∈ ρ0.hid → b ∈ ρ.hid := fun b m => (k.hid b m).1
  have hn : p ∉ ρ0.hid := fun m => by
    obtain ⟨u, e⟩ := hh p m
    rw [h0] at e
    cases e
  exact q _ _ _ (k.unhideReg hp h0) (R.unhideReg hs hp hn ep r) ⟨some p, by show (ρ.l ++ [some p])[S.length]? = _; rw [← R.len]; simp, fun z e => by cases e; rfl⟩
section
variable {X : Cx} {Wx : WX} {tg iter elt : Expr} {ifs : List Expr} {scope : Scope} {own : List (Str × Nat)} {mi : MI} {mt : MT} {tt : MB} {me : ME} {pos : Pos} {fp : List Nat} {mk : List D → Sto → Res W}
theorem AfterI.bindE {K : PySem.W.Frag} {ρ : Rho} {H : Hp} {E : XK} {r : Res (List D)} {k : List D → Sto → Res W} {Q : VK} (h : After K ρ H (r.bind k) Q E) :
    AfterI K ρ H r (fun J H1 => ∃ ρ1 S1 l, Keeps ρ H ρ1 H1 ∧ Rel K ρ1 S1 H1 ∧ IterOk K ρ1 H1 J l ∧ After K ρ1 H1 (k l S1) Q E) E := by
  cases r with
  | ok w S => exact fun ρ1 H1 v a b c => ⟨ρ1, S, w, a, b, c, After.shift a h⟩
  | exc C ns ds S => exact h
  | bad => exact h
theorem lc_core3 {K : PySem.W.Frag} {vs : List Nat} {σ : L2.St} {H : Hp} {Q : VK} (hat : MkAt mk) (hfp : ∀ j ∈ fp, j ∈ vs) (h : LE K Wx (mLc mk mi mt tt me vs) σ H Q) :
    tLc (LI K Wx mi) (LG K fp mt) (LT K W0 tt) (LE K W0 me) vs σ H Q := by
  obtain ⟨ρ, S, τ, R, s, h⟩ := h
  refine ⟨ρ, S, τ, R, s, (AfterI.bindE h).imp (fun J H1 ⟨ρ1, S1, l, k1, R1, it, h1⟩ => ?_) fun _ _ _ z => z⟩
  intro p hp
  obtain ⟨G, Y, wk, hG, hY⟩ := it
  have nl : ¬ Live ρ1 p := R1.fresh hp
  refine lc_it wk (fun i H2 => ∃ ρ2 S2 acc xs, Keeps ρ1 H1 ρ2 H2 ∧ Rel K ρ2 S2 H2 ∧ p ∈ ρ2.hid ∧ H2 p = some (.lst xs) ∧ RelDs K ρ2 H2 acc xs ∧ After K ρ1 H1 ((lcD mt tt me (wipeT τ vs) (l.drop i) acc S2).bind fun acc S2 => (mk acc S2).quiet) Q (atσ Wx σ)) ?_ (fun i H2 _ ⟨ρ2, _, _, _, k2, _⟩ => hG ρ2 H2 k2) ?_ ?_
  · exact ⟨ρ1.hide p, S1, [], [], Keeps.hide hp R1.hid', R1.hide hp trivial, List.mem_cons_self, upd_same, rfl, h1⟩
  · rintro i x H2 H3 hi ⟨ρ2, S2, acc, xs, k2, R2, m2, e2, r2, h2⟩ y
    obtain ⟨d, e1, k3, R3, rd⟩ := hY i ρ2 H2 x H3 hi k2 R2.hid' y
    have ed : l.drop i = d :: l.drop (i + 1) := by
      rw [List.drop_eq_getElem_cons hi]
      rw [List.getElem?_eq_getElem hi] at e1
      cases e1
      rfl
    rw [ed] at h2
    unfold lcD at h2
    have sw := (s.mono (k1.trans (k2.trans k3))).wipe vs
    split at h2
    · rename_i τ3 et
      refine ⟨ρ2, S2, wipeT τ vs, .d d, τ3, R3 _ R2, sw, rd, et, fun ρ4 H4 σ4 k4 R4 s4 o4 => ⟨?_, ?_⟩⟩
      · rw [o4.wipe hfp]
        exact (show Only vs σ (L2.wipe σ vs) from ⟨wipe_length σ vs, fun j hj => by rw [wipe_get]; simp [hj]⟩).wipe fun j hj => hj
      · refine ⟨ρ4, S2, τ3, R4, s4, ?_⟩
        have kk := k3.trans k4
        revert h2
        cases hq : tt τ3 S2 with
        | bad => exact fun z => z
        | exc C ns ds S5 => exact fun z => z.elim
        | ok b S5 =>
          intro h2 ρ5 H5 k5 R5
          have e5 : H5 p = some (.lst xs) := ((k5.hid p (kk.hid p m2).1).2.trans (kk.hid p m2).2).trans e2
          have m5 : p ∈ ρ5.hid := (k5.hid p (kk.hid p m2).1).1
          have r5 := RelDs.mono (kk.trans k5) acc r2
          cases b with
          | false =>
            simp only [Bool.false_eq_true, if_false]
            exact ⟨ρ5, S5, acc, xs, k2.trans (kk.trans k5), R5, m5, e5, r5, h2⟩
          | true =>
            simp only [if_true]
            refine ⟨ρ5, S5, τ3, R5, s4.mono k5, ?_⟩
            revert h2
            show After K ρ1 H1 (((me τ3 S5).quiet.bind fun w S2 => _).bind fun acc S2 => (mk acc S2).quiet) Q (atσ Wx σ) → _
            cases hm : me τ3 S5 with
            | bad => exact fun z => z
            | exc C ns ds S6 => exact fun z => z.elim
            | ok w S6 =>
              intro h2 ρ6 H6 v k6 R6 r6
              have h2' : After K ρ1 H1 ((match dat S6 w with | some (d, S3) => if acc.length < 100000 then lcD mt tt me (wipeT τ vs) (l.drop (i + 1)) (acc ++ [d]) S3 else .bad | none => .bad : Res (List D)).bind fun acc S2 => (mk acc S2).quiet) Q (atσ Wx σ) := h2
              split at h2'
              · rename_i d6 S7 e6
                split at h2'
                · rename_i hl
                  obtain ⟨ρ7, k7, R7, r7⟩ := dat_of R6 r6 e6
                  have k67 := k6.trans k7
                  have e7 : H6 p = some (.lst xs) := ((k67.hid p m5).2).trans e5
                  have m7 : p ∈ ρ7.hid := (k67.hid p m5).1
                  have ra := RelDs.mono k67 acc r5
                  refine ⟨xs, e7, Nat.lt_of_lt_of_le (by rw [← ra.length]; exact hl) (by decide), ρ7, S7, acc ++ [d6], xs ++ [v], ((k2.trans (kk.trans k5)).trans k67).updD hp R1.hid', R7.hidW m7 trivial, m7, upd_same, ?_, h2'⟩
                  exact (RelDs.hidW m7 R7 ra).append ⟨v, [], rfl, RelD.hidW m7 R7 r7, rfl⟩
                · exact h2'.elim
              · exact h2'.elim
    · exact h2.elim
  · rintro H2 ⟨ρ2, S2, acc, xs, k2, R2, m2, e2, r2, h2⟩
    rw [List.drop_length] at h2
    have h3 : After K ρ1 H1 (mk acc S2).quiet Q (atσ Wx σ) := h2
    obtain ⟨w, S5, hmk, q⟩ := After.quiet h3
    exact hat hmk q k2 hp R1.hid' R2 m2 e2 r2
theorem re_lc {k : Nat} (g : Gd X Wx k) (hat : MkAt mk) (hi : PI X tg iter (LI X.K Wx mi)) (ok : BlkOk X.N X.env.scope scope own)
    (hg : ∀ (s : Shared) (H : Hp) (C : Addr) (cl : List (Str × Addr)) (fp' : List Addr), PG (X.blk s H scope (compEnvC scope cl C X.env) fp') tg (LG X.K fp mt))
    (ht : ∀ (s : Shared) (H : Hp) (C : Addr) (cl : List (Str × Addr)) (fp' : List Addr), Gd (X.blk s H scope (compEnvC scope cl C X.env) fp') W0 k → PTs (X.blk s H scope (compEnvC scope cl C X.env) fp') ifs (LT X.K W0 tt))
    (he : ∀ (s : Shared) (H : Hp) (C : Addr) (cl : List (Str × Addr)) (fp' : List Addr), Gd (X.blk s H scope (compEnvC scope cl C X.env) fp') W0 k → PE (X.blk s H scope (compEnvC scope cl C X.env) fp') elt (LE X.K W0 me))
    (hfp : ∀ j ∈ fp, j ∈ own.map (·.2)) (hs : ∀ x, foldedSetIterable iter X.env x = pure x := by intro _; rfl) :
    PE X (.ListComp elt [⟨tg, iter, ifs, 0⟩] scope pos) (LE X.K Wx (mLc mk mi mt tt me (own.map (·.2)))) :=
  (pe_lc g.calm g.nd hi ok hg (fun s H C cl fp' => ht s H C cl fp' (g.blk s H scope _ fp')) (fun s H C cl fp' => he s H C cl fp' (g.blk s H scope _ fp')) hs).mono fun σ H Q h => lc_core3 hat hfp h
theorem rs_setLc {k i : Nat} {y : Str} {py spos : Pos} (g : Gd X Wx k) (hat : MkAt mk) (hi : PI X tg iter (LI X.K Wx mi)) (ok : BlkOk X.N X.env.scope scope own)
    (hg : ∀ (s : Shared) (H : Hp) (C : Addr) (cl : List (Str × Addr)) (fp' : List Addr), PG (X.blk s H scope (compEnvC scope cl C X.env) fp') tg (LG X.K fp mt))
    (ht : ∀ (s : Shared) (H : Hp) (C : Addr) (cl : List (Str × Addr)) (fp' : List Addr), Gd (X.blk s H scope (compEnvC scope cl C X.env) fp') W0 k → PTs (X.blk s H scope (compEnvC scope cl C X.env) fp') ifs (LT X.K W0 tt))
    (he : ∀ (s : Shared) (H : Hp) (C : Addr) (cl : List (Str × Addr)) (fp' : List Addr), Gd (X.blk s H scope (compEnvC scope cl C X.env) fp') W0 k → PE (X.blk s H scope (compEnvC scope cl C X.env) fp') elt (LE X.K W0 me))
    (hfp : ∀ j ∈ fp, j ∈ own.map (·.2)) (hy : X.N[i]? = some y) (hyl : X.env.scope.names.lookup y = some .local)
    (hsw : swapsWith (.ListComp elt [⟨tg, iter, ifs, 0⟩] scope pos) (some (.Name y py)) spos.line X.env = pure true) (hs : ∀ x, foldedSetIterable iter X.env x = pure x := by intro _; rfl) :
    PS X (.Assign [.Name y py] (.ListComp elt [⟨tg, iter, ifs, 0⟩] scope pos) spos) (LS X.K Wx (mSet i (mLc mk mi mt tt me (own.map (·.2))))) :=
  (ps_setLc g.calm g.nd hy hyl hsw hi ok hg (fun s H C cl fp' => ht s H C cl fp' (g.blk s H scope _ fp')) (fun s H C cl fp' => he s H C cl fp' (g.blk s H scope _ fp')) hs).mono fun D σ H h => by
  obtain ⟨ρ, S, τ, R, s, h⟩ := h
  refine lc_core3 hat hfp ⟨ρ, S, τ, R, s, (After.then_ s h).imp (fun v H ⟨ρ1, S1, w, A, q⟩ => ?_) fun _ _ _ z => z⟩
  exact q ρ1 H _ Keeps.refl A.R ((s.mono A.k).set i A.r)
end
end L3

set_option Elab.async false
set_option linter.all false
set_option maxRecDepth 100000
set_option maxHeartbeats 2000000
namespace L3
open PySem PySem.Spec PyProof.Rows L2

/-! ### calls of defs -/
/-- the arguments' number is checked by the mirror -/
def mCallN (np : Nat) (m : List W → Sto → Res W) (ml : ML) : ME := fun τ S => (ml τ S).bind fun ws S1 => if ws.length = np then m ws S1 else .bad
section
variable {X : Cx} {Wx : WX} {x : Str} {e : Expr} {es : List Expr} {ml : ML} {p pos : Pos} {k j np : Nat} {f : Addr} {m : List W → Sto → Res W}
theorem callN_core {K : PySem.W.Frag} {σ : L2.St} {H : Hp} {Q : VK} (h : LE K Wx (mCallN np m ml) σ H Q) : LA K Wx ml σ H fun vs H1 => spM K np m vs H1 Q (atσ Wx σ) := by
  obtain ⟨ρ, S, τ, R, s, h⟩ := h
  refine ⟨ρ, S, τ, R, s, (AfterL.bind h).imp (fun vs H1 ⟨ρ1, S1, ws, k1, R1, r1, q⟩ => ?_) fun _ _ _ z => z⟩
  split at q
  · rename_i hl
    exact ⟨by rw [← Paired.length r1]; exact hl, ρ1, S1, ws, R1, r1, q⟩
  · exact q.elim
theorem run_m {pins : List (Addr × Obj)} {σ : L2.St} {H : Hp} {s : Shared} {Q : VK} {us : List Value} {vs : List V} (g : Gd X Wx k) (F : FnM X.prog X.w X.K X.mg X.base j f np m) (hj : j ≤ k) (I : Inv X pins σ H s) (r : Vals vs us) (h : spM X.K np m vs H Q (atσ Wx σ)) :
    wpAny (model X.prog X.w) X.A (call (.ref f) us) (EP X pins σ Q) X.xe s := run_fnM F g.gs (g.room.mono hj) (passAt g.tk σ) I r h
theorem re_call (g : Gd X Wx k) (F : FnM X.prog X.w X.K X.mg X.base j f np m) (hj : j ≤ k) (hm : X.mg x = some (.ref f)) (hk : PySem.W.keepIn X.K (.ref f) = true) (ha : PA X (e :: es) (LA X.K Wx ml)) (hg : Gl X x := by rfl) (hdb : (x == ("__debug__" : Str)) = false := by decide)
    (he : starEach (e :: es) X.env = (false, eval e X.env) :: starEach es X.env := by rfl) (hpl : (backTo pos (starEach es X.env)).any (·.1) = false := by rfl) : PE X (.Call (.Name x p) (e :: es) [] pos) (LE X.K Wx (mCallN np m ml)) := by
  refine ⟨fun pins s σ H Q I h => wpAny_Call_Name_kw (ld_glob I hg hm ?_ hdb)⟩
  exact PySem.W.callWith_K (h₀ := X.base) I.ok.mod.kin hk (thn (ha.run pos pins s σ H _ I (callN_core h)) fun us s1 ⟨vs, H1, I1, r, q⟩ => ⟨I1.kIn, run_m g F hj I1 r q⟩) he hpl
theorem re_call0 (g : Gd X Wx k) (F : FnM X.prog X.w X.K X.mg X.base j f 0 m) (hj : j ≤ k) (hm : X.mg x = some (.ref f)) (hk : PySem.W.keepIn X.K (.ref f) = true) (hg : Gl X x := by rfl) (hdb : (x == ("__debug__" : Str)) = false := by decide) :
    PE X (.Call (.Name x p) [] [] pos) (LE X.K Wx (mCallN 0 m mNil)) := by
  refine ⟨fun pins s σ H Q I h => wpAny_Call_Name_kw (ld_glob I hg hm ?_ hdb)⟩
  obtain ⟨ρ, S, τ, R, st, h⟩ := h
  exact PySem.W.callWith_K0 I.kIn hk (run_m g F hj I .nil ⟨rfl, ρ, S, [], R, .nil, h⟩)
end

/-! ### calls of what is built in, by values -/
def mCB (g : List W → Sto → Res W) (ml : ML) : ME := fun τ S => (ml τ S).bind fun ws S1 => (g ws S1).quiet
def liftC (K : PySem.W.Frag) (g : List W → Sto → Res W) : List V → Hp → VK → Prop := fun vs H Q => ∃ ρ S ws w S', Rel K ρ S H ∧ RelWs K ρ H ws vs ∧ g ws S = .ok w S' ∧ ∀ ρ' H' v, Keeps ρ H ρ' H' → Rel K ρ' S' H' → RelW K ρ' H' w v → Q v H'
theorem callMono {X : Cx} {f : Value} {r r' : List V → Hp → VK → Prop} (h : CallR X f r) (i : ∀ xs H Q, r' xs H Q → r xs H Q) : CallR X f r' := fun pins s σ H xs us Q I r q => h pins s σ H xs us Q I r (i xs H Q q)
theorem callOr {X : Cx} {f : Value} {r r' : List V → Hp → VK → Prop} (h : CallR X f r) (h' : CallR X f r') : CallR X f (fun xs H Q => r xs H Q ∨ r' xs H Q) := fun pins s σ H xs us Q I rv q => q.elim (h pins s σ H xs us Q I rv) (h' pins s σ H xs us Q I rv)
section
variable {X : Cx} {Wx : WX} {x : Str} {e : Expr} {es : List Expr} {ml : ML} {p pos : Pos} {g : List W → Sto → Res W}
theorem cb_core {K : PySem.W.Frag} {σ : L2.St} {H : Hp} {Q : VK} (h : LE K Wx (mCB g ml) σ H Q) : tCB (liftC K g) (LA K Wx ml) σ H Q := by
  obtain ⟨ρ, S, τ, R, s, h⟩ := h
  refine ⟨ρ, S, τ, R, s, (AfterL.bind h).imp (fun vs H1 ⟨ρ1, S1, ws, k1, R1, r1, q⟩ => ?_) fun _ _ _ z => z⟩
  obtain ⟨w, S', e, q⟩ := After.quiet q
  exact ⟨ρ1, S1, ws, w, S', R1, r1, e, q⟩
theorem re_cb {id : String} (hc : CallR X (.builtin id) (liftC X.K g)) (hm : X.mg x = none) (ha : PA X (e :: es) (LA X.K Wx ml)) (hg : Gl X x := by rfl) (hv : bootBuiltins x = some (.builtin id) := by decide +kernel) (hn : x ≠ "__name__" := by decide) (hdb : (x == ("__debug__" : Str)) = false := by decide)
    (he : starEach (e :: es) X.env = (false, eval e X.env) :: starEach es X.env := by rfl) (hpl : (backTo pos (starEach es X.env)).any (·.1) = false := by rfl) : PE X (.Call (.Name x p) (e :: es) [] pos) (LE X.K Wx (mCB g ml)) := (pe_callB hc hg hm hv ha hn hdb he hpl).mono fun _ _ _ h => cb_core h
theorem re_cty {T : String} (hc : CallR X (.type T) (liftC X.K g)) (hm : X.mg x = none) (ha : PA X (e :: es) (LA X.K Wx ml)) (hg : Gl X x := by rfl) (hv : bootBuiltins x = some (.type T) := by decide +kernel) (hn : x ≠ "__name__" := by decide) (hdb : (x == ("__debug__" : Str)) = false := by decide)
    (he : starEach (e :: es) X.env = (false, eval e X.env) :: starEach es X.env := by rfl) (hpl : (backTo pos (starEach es X.env)).any (·.1) = false := by rfl) : PE X (.Call (.Name x p) (e :: es) [] pos) (LE X.K Wx (mCB g ml)) := (pe_callTy hc hg hm hv ha hn hdb he hpl).mono fun _ _ _ h => cb_core h
end
def bLen : List W → Sto → Res W := fun ws S => match ws with
  | [w] => match lenOf S w with
    | some n => if n ≤ 100000 then .ok (.d (.int n)) S else .bad
    | none => .bad
  | _ => .bad
theorem len_of {K : PySem.W.Frag} {ρ : Rho} {H : Hp} {S : Sto} (R : Rel K ρ S H) {w : W} {v : V} {n : Nat} (r : RelW K ρ H w v) (e : lenOf S w = some n) (hn : n ≤ 100000) : LenV K v H n ∨ ∃ d kvs, v = .ref d ∧ H d = some (.dK kvs) ∧ n = kvs.length := by
  cases w with
  | ref i =>
    unfold lenOf at e
    simp only at e
    split at e
    · rename_i l e1
      cases e
      obtain ⟨p, rfl, _, xs, e2, r2⟩ := R.ref e1 r
      exact .inl (.inl ⟨xs, SqL.of e2, r2.length⟩)
    · rename_i ks l e1
      cases e
      obtain ⟨p, rfl, _, kvs, e2, e3, r2⟩ := R.ref e1 r
      exact .inr ⟨p, kvs, rfl, e2, by rw [← e3, List.length_map]⟩
    · cases e
  | d x =>
    cases x with
    | str x => cases e; cases r; exact .inl ⟨size5 hn, rfl⟩
    | tup l => cases e; obtain ⟨p, xs, rfl, h, r2⟩ := r; exact .inl (.inr ⟨xs, h, RelDs.length r2⟩)
    | lst l => cases e; obtain ⟨p, xs, rfl, h, r2⟩ := r; exact .inl (.inl ⟨xs, h.sq, RelDs.length r2⟩)
    | fzl l => cases e; obtain ⟨p, xs, rfl, h, r2⟩ := r; exact .inl (.inl ⟨xs, h.sq, RelDs.length r2⟩)
    | dct ks l => cases e; obtain ⟨p, kvs, rfl, _, h, e3, r2⟩ := r; exact .inr ⟨p, kvs, rfl, h, by rw [← e3, List.length_map]⟩
    | _ => cases e
section
variable {X : Cx}
theorem c_len : CallR X (.builtin "len") (liftC X.K bLen) := callMono (callOr call_len call_lenD) fun xs H Q h => by
  obtain ⟨ρ, S, ws, w, S', R, r, e, q⟩ := h
  unfold bLen at e
  split at e
  · split at e
    · rename_i n e1
      split at e
      · rename_i hn
        cases e
        cases r with
        | cons r0 rr =>
          cases rr
          rcases len_of R r0 e1 hn with h | ⟨d, kvs, rfl, hd, rfl⟩
          · exact .inl ⟨_, n, rfl, h, here q R rfl⟩
          · exact .inr ⟨d, kvs, rfl, hd, here q R rfl⟩
      · cases e
    · cases e
  · cases e
def bAbs : List W → Sto → Res W := fun ws S => match ws with
  | [.d (.int i)] => .ok (.d (.int (if i < 0 then -i else i))) S
  | _ => .bad
theorem c_abs : CallR X (.builtin "abs") (liftC X.K bAbs) := callMono call_abs fun xs H Q h => by
  obtain ⟨ρ, S, ws, w, S', R, r, e, q⟩ := h
  unfold bAbs at e
  split at e
  · cases e
    cases r with
    | cons r0 rr => cases rr; cases r0; exact ⟨_, rfl, here q R rfl⟩
  · cases e
def bInt : List W → Sto → Res W := fun ws S => match ws with
  | [.d (.int i)] => .ok (.d (.int i)) S
  | [.d (.bl k)] => .ok (.d (.int (if k then 1 else 0))) S
  | _ => .bad
theorem c_int : CallR X (.type "int") (liftC X.K bInt) := callMono call_int1 fun xs H Q h => by
  obtain ⟨ρ, S, ws, w, S', R, r, e, q⟩ := h
  unfold bInt at e
  split at e
  · cases e
    cases r with
    | cons r0 rr => cases rr; cases r0; exact .inl ⟨_, rfl, here q R rfl⟩
  · cases e
    cases r with
    | cons r0 rr => cases rr; cases r0; exact .inr ⟨_, rfl, here q R rfl⟩
  · cases e
/-- list(xs) of a list or a tuple -/
def bList (mk : List D → Sto → Res W) : List W → Sto → Res W := fun ws S => match ws with
  | [w] => match itemsOf S w with
    | some l => mk l S
    | none => .bad
  | _ => .bad
theorem c_list {mk : List D → Sto → Res W} (hm : MkOk mk) : CallR X (.type "list") (liftC X.K (bList mk)) := callMono call_list_of fun xs H Q h => by
  obtain ⟨ρ, S, ws, w, S', R, r, e, q⟩ := h
  unfold bList at e
  split at e
  · split at e
    · rename_i l e1
      cases r with
      | cons r0 rr =>
        cases rr
        obtain ⟨p, ys, rfl, hq, rl⟩ := items_of R r0 e1
        exact ⟨p, ys, rfl, hq.symm, hm e q R rl⟩
    · cases e
  · cases e
end

/-! ### methods of what is built in, by values -/
def tyW (S : Sto) : W → Option String
  | .d (.str _) => some "str"
  | .d (.lst _) => some "list"
  | .d (.fzl _) => some "list"
  | .d (.dct _ _) => some "dict"
  | .ref i => match S[i]? with
    | some (some (.lst _)) => some "list"
    | some (some (.dct _ _)) => some "dict"
    | _ => none
  | _ => none
theorem ty_of {K : PySem.W.Frag} {ρ : Rho} {H : Hp} {S : Sto} (R : Rel K ρ S H) {w : W} {v : V} {T : String} (r : RelW K ρ H w v) (e : tyW S w = some T) : tyV K T v H := by
  cases w with
  | ref i =>
    unfold tyW at e
    simp only at e
    split at e
    · rename_i l e1
      cases e
      obtain ⟨p, rfl, _, xs, e2, r2⟩ := R.ref e1 r
      exact .inl ⟨rfl, xs, SqL.of e2⟩
    · rename_i ks l e1
      cases e
      obtain ⟨p, rfl, _, kvs, e2, e3, r2⟩ := R.ref e1 r
      exact .inr (.inr (.inl ⟨rfl, .inl ⟨kvs, e2⟩⟩))
    · cases e
  | d x =>
    cases x with
    | str x => cases e; cases r; exact rfl
    | lst l => cases e; obtain ⟨p, xs, rfl, h, r2⟩ := r; exact .inl ⟨rfl, xs, h.sq⟩
    | fzl l => cases e; obtain ⟨p, xs, rfl, h, r2⟩ := r; exact .inl ⟨rfl, xs, h.sq⟩
    | dct ks l => cases e; obtain ⟨p, kvs, rfl, _, h, e3, r2⟩ := r; exact .inr (.inr (.inl ⟨rfl, .inl ⟨kvs, h⟩⟩))
    | _ => cases e
def mBM (T : String) (g : W → List W → Sto → Res W) (mo : ME) (ml : ML) : ME := fun τ S => (mo τ S).bind fun o S1 => if tyW S1 o = some T then (ml τ S1).bind fun ws S2 => (g o ws S2).quiet else .bad
def liftM (K : PySem.W.Frag) (g : W → List W → Sto → Res W) : V → List V → Hp → VK → Prop := fun x xs H Q => ∃ ρ S a ws w S', Rel K ρ S H ∧ RelW K ρ H a x ∧ RelWs K ρ H ws xs ∧ g a ws S = .ok w S' ∧ ∀ ρ' H' v, Keeps ρ H ρ' H' → Rel K ρ' S' H' → RelW K ρ' H' w v → Q v H'
theorem mtMono {X : Cx} {id : String} {r r' : V → List V → Hp → VK → Prop} (h : MtR X id r) (i : ∀ x xs H Q, r' x xs H Q → r x xs H Q) : MtR X id r' := fun pins s σ H x xs v us Q I rx rv q => h pins s σ H x xs v us Q I rx rv (i x xs H Q q)
section
variable {X : Cx} {Wx : WX} {o e : Expr} {es : List Expr} {mo me : ME} {ml : ML} {apos cpos : Pos} {name : Str} {T id : String} {g : W → List W → Sto → Res W}
theorem re_bm (pa : PlainAttrs T) (slot : Slot T name id) (hty : typeOf (.builtin id) = pure (.type "method_descriptor")) (hm : MtR X id (liftM X.K g)) (ho : PE X o (LE X.K Wx mo)) (ha : PA X (e :: es) (LA X.K Wx ml))
    (hbase : attributeBase o name X.env (eval o X.env) = eval o X.env := by rfl)
    (hfew : ((backTo cpos (starEach (e :: es) X.env)).all (fun x => !x.1) && (backToKw cpos (keywordEach [] X.env)).all (fun x => x.1.isSome) && decide ((e :: es).length + ([] : List Keyword).length + (if ([] : List Keyword).isEmpty then 0 else 1) < 30)) = true := by rfl)
    (hline : (apos.endLine == cpos.line) = true := by rfl) (hs : starEach (e :: es) X.env = (false, eval e X.env) :: starEach es X.env := by rfl) (hplain : (backTo cpos (starEach es X.env)).any (·.1) = false := by rfl) :
    PE X (.Call (.Attribute o name apos) (e :: es) [] cpos) (LE X.K Wx (mBM T g mo ml)) := (pe_bm pa slot hty hm ho ha hbase hfew hline hs hplain).mono fun σ H Q h => by
  obtain ⟨ρ, S, τ, R, s, h⟩ := h
  refine ⟨ρ, S, τ, R, s, (After.bind h).imp (fun v H1 ⟨ρ1, S1, w, A, q⟩ => ?_) fun _ _ _ z => z⟩
  split at q
  · rename_i ht
    refine ⟨ty_of A.R A.r ht, ρ1, S1, τ, A.R, s.mono A.k, (AfterL.bind q).imp (fun vs H2 ⟨ρ2, S2, ws, k2, R2, r2, q2⟩ => ?_) fun _ _ _ z => z⟩
    obtain ⟨w', S', e, q3⟩ := After.quiet q2
    exact ⟨ρ2, S2, w, ws, w', S', R2, A.r.mono k2, r2, e, q3⟩
  · exact q.elim
theorem re_bm0 (pa : PlainAttrs T) (slot : Slot T name id) (hty : typeOf (.builtin id) = pure (.type "method_descriptor")) (hm : MtR X id (liftM X.K g)) (ho : PE X o (LE X.K Wx mo))
    (hbase : attributeBase o name X.env (eval o X.env) = eval o X.env := by rfl) (hline : (apos.endLine == cpos.line) = true := by rfl) :
    PE X (.Call (.Attribute o name apos) [] [] cpos) (LE X.K Wx (mBM T g mo mNil)) := (pe_bm0 pa slot hty hm ho hbase hline).mono fun σ H Q h => by
  obtain ⟨ρ, S, τ, R, s, h⟩ := h
  refine ⟨ρ, S, τ, R, s, (After.bind h).imp (fun v H1 ⟨ρ1, S1, w, A, q⟩ => ?_) fun _ _ _ z => z⟩
  split at q
  · rename_i ht
    obtain ⟨w', S', e, q3⟩ := After.quiet (show After X.K ρ1 H1 (g w [] S1).quiet Q _ from q)
    exact ⟨ty_of A.R A.r ht, ρ1, S1, w, [], w', S', A.R, A.r, .nil, e, q3⟩
  · exact q.elim
end
/-- an object of the store is written, its new state told -/
theorem put_of {K : PySem.W.Frag} {ρ : Rho} {H : Hp} {S : Sto} {i : Nat} {q : Addr} {w : W} {v : V} {l : List D} {xs : List V} {Q : VK} (R : Rel K ρ S H) (e : ρ.l[i]? = some (some q)) (r : RelDs K ρ H l xs) (rv : RelW K ρ H w v)
    (h : ∀ ρ' H' v, Keeps ρ H ρ' H' → Rel K ρ' (S.set i (some (.lst l))) H' → RelW K ρ' H' w v → Q v H') : Q v (upd H q (.lst xs)) :=
  h ρ _ v (Keeps.write R e) (R.write e ⟨xs, upd_same, RelDs.mono (Keeps.write R e) l r⟩) (rv.mono (Keeps.write R e))
def gAppend : W → List W → Sto → Res W := fun o ws S => match o, ws with
  | .ref i, [w] => match dat S w with
    | some (d, S1) => match S1[i]? with
      | some (some (.lst l)) => if l.length < 100000 then .ok (.d .non) (S1.set i (some (.lst (l ++ [d])))) else .bad
      | _ => .bad
    | none => .bad
  | _, _ => .bad
/-- xs.pop() -/
def gPop : W → List W → Sto → Res W := fun o ws S => match o, ws with
  | .ref i, [] => match S[i]? with
    | some (some (.lst l)) => match l[l.length - 1]? with
      | some d => .ok (.d d) (S.set i (some (.lst l.dropLast)))
      | none => .bad
    | _ => .bad
  | .ref i, [.d (.int j)] => match S[i]? with
    | some (some (.lst l)) => if 0 ≤ j ∧ j < l.length ∧ l.length ≤ 100000 then match l[j.toNat]? with
        | some d => .ok (.d d) (S.set i (some (.lst (l.eraseIdx j.toNat))))
        | none => .bad
      else .bad
    | _ => .bad
  | _, _ => .bad
theorem RelDs.erase {K : PySem.W.Frag} {ρ : Rho} {H : Hp} : ∀ {l : List D} {xs : List V} (i : Nat), RelDs K ρ H l xs → RelDs K ρ H (l.eraseIdx i) (xs.eraseIdx i)
  | [], _, _, h => by cases h; exact rfl
  | _ :: l, _, 0, ⟨y, ys, e, h, r⟩ => by subst e; exact r
  | _ :: l, _, i + 1, ⟨y, ys, e, h, r⟩ => by subst e; exact ⟨_, _, rfl, h, RelDs.erase i r⟩
theorem RelDs.dropLast {K : PySem.W.Frag} {ρ : Rho} {H : Hp} {l : List D} {xs : List V} (r : RelDs K ρ H l xs) : RelDs K ρ H l.dropLast xs.dropLast := by
  rw [List.dropLast_eq_take, List.dropLast_eq_take, r.length]
  exact r.take _
section
variable {X : Cx}
theorem m_append : MtR X "list.append" (liftM X.K gAppend) := mtMono mt_append fun x xs H Q h => by
  obtain ⟨ρ, S, a, ws, w, S', R, ra, rs, e, q⟩ := h
  unfold gAppend at e
  split at e
  · rename_i i w0
    split at e
    · rename_i d S1 e1
      split at e
      · rename_i l e2
        split at e
        · rename_i hl
          cases e
          cases rs with
          | cons r0 rr =>
            cases rr
            obtain ⟨ρ1, k1, R1, d1⟩ := dat_of R r0 e1
            obtain ⟨p, rfl, ep, ys, e3, r3⟩ := R1.ref e2 (RelW.mono k1 ra)
            refine ⟨p, ys, _, rfl, rfl, e3, Nat.lt_of_lt_of_le (by rw [← r3.length]; exact hl) (by decide), put_of (w := .d .non) R1 ep (r3.append (show RelDs X.K ρ1 H [d] [_] from ⟨_, [], rfl, d1, rfl⟩)) rfl fun ρ' H' v k R' r => q ρ' H' v (k1.trans k) R' r⟩
        · cases e
      · cases e
    · cases e
  · cases e
theorem m_pop : MtR X "list.pop" (liftM X.K gPop) := mtMono (MtR.or mt_pop mt_popAt) fun x xs H Q h => by
  obtain ⟨ρ, S, a, ws, w, S', R, ra, rs, e, q⟩ := h
  unfold gPop at e
  split at e
  · rename_i i
    split at e
    · rename_i l e2
      split at e
      · rename_i d ed
        cases e
        cases rs
        obtain ⟨p, rfl, ep, ys, e3, r3⟩ := R.ref e2 ra
        obtain ⟨v, ev, rv⟩ := r3.get ed
        exact .inl ⟨p, ys, v, rfl, rfl, e3, by rw [← r3.length]; exact ev, put_of (w := .d d) R ep r3.dropLast rv q⟩
      · cases e
    · cases e
  · rename_i i j
    split at e
    · rename_i l e2
      split at e
      · rename_i hj
        split at e
        · rename_i d ed
          cases e
          cases rs with
          | cons r0 rr =>
            cases rr
            cases r0
            obtain ⟨p, rfl, ep, ys, e3, r3⟩ := R.ref e2 ra
            obtain ⟨v, ev, rv⟩ := r3.get ed
            refine .inr ⟨p, ys, j, j.toNat, v, rfl, rfl, e3, by omega, by omega, ?_, ev, put_of (w := .d d) R ep (r3.erase _) rv q⟩
            unfold seqIndex?
            rw [← r3.length]
            have h1 : ¬ j < 0 := by omega
            simp only [h1, if_false]
            rw [if_pos (by simp [hj.1, hj.2.1])]
        · cases e
      · cases e
    · cases e
  · cases e
end

/-! ### o[i] = e on a list of the store -/
def mSetI (mo mi me : ME) : MS := fun τ S => (me τ S).then_ τ fun w S1 => (mo τ S1).then_ τ fun o S2 => (mi τ S2).then_ τ fun k S3 => match dat S3 w with
  | some (d, S4) => match o, k with
    | .ref i, .d (.int j) => match S4[i]? with
      | some (some (.lst l)) => match ixN l.length j with
        | some n => .ok (.nx τ) (S4.set i (some (.lst (l.set n d))))
        | none => .bad
      | _ => .bad
    | _, _ => .bad
  | none => .bad
section
variable {X : Cx} {Wx : WX} {o i e : Expr} {mo mi me : ME} {pos p2 : Pos}
theorem After.then2 {K : PySem.W.Frag} {ρ : Rho} {H : Hp} {τ : Tau} {σ : L2.St} {r : Res W} {k : W → Sto → RS} {D : Ends} (s : RelSt K ρ H τ σ) (h : AfterS K ρ H (r.then_ τ k) D Wx) : After K ρ H r (fun v H1 => ∃ ρ1 S1 w, At K ρ H w S1 v ρ1 H1 ∧ AfterS K ρ1 H1 (k w S1) D Wx) (atσ Wx σ) := After.then_ s h
theorem rs_setI (ho : PE X o (LE X.K Wx mo)) (hi : PE X i (LE X.K Wx mi)) (he : PE X e (LE X.K Wx me))
    (ha : ∀ v, assign (.Subscript o i p2) X.env v = (do
      let ov ← holding [v] (eval o X.env)
      let iv ← holding [v, ov] (eval i X.env)
      standAt p2
      holding [v, ov, iv] (setItem ov iv v)
      release [v, ov, iv] []) := by intro _; rfl)
    (hs : swapsWithSole [.Subscript o i p2] e pos.line X.env = pure false := by rfl) (hw : swappedStores [.Subscript o i p2] e X.env = pure none := by rfl) (h1 : (assignEach [.Subscript o i p2] X.env).map (·.2) = [assign (.Subscript o i p2) X.env] := by rfl) :
    PS X (.Assign [.Subscript o i p2] e pos) (LS X.K Wx (mSetI mo mi me)) := (ps_asg he (pg_sub ho hi set_list ha) hs hw h1).mono fun D σ H h => by
  obtain ⟨ρ, S, τ, R, s, h⟩ := h
  refine ⟨ρ, S, τ, R, s, (After.then_ s h).imp (fun v H1 ⟨ρ1, S1, w, A, h⟩ => ?_) fun _ _ _ z => z⟩
  have s1 := s.mono A.k
  refine ⟨ρ1, S1, τ, A.R, s1, (After.then_ s1 h).imp (fun v2 H2 ⟨ρ2, S2, w2, A2, h⟩ => ?_) fun _ _ _ z => z⟩
  have s2 := s1.mono A2.k
  refine ⟨ρ2, S2, τ, A2.R, s2, (After.then_ s2 h).imp (fun v3 H3 ⟨ρ3, S3, w3, A3, h⟩ => ?_) fun _ _ _ z => z⟩
  have r1 := (A.r.mono A2.k).mono A3.k
  have r2 := A2.r.mono A3.k
  obtain ⟨k3, R3, r3⟩ := A3
  split at h
  · rename_i d S4 e4
    obtain ⟨ρ4, k4, R4, d4⟩ := dat_of R3 r1 e4
    cases w2 with
    | d x => exact h.elim
    | ref n =>
      cases w3 with
      | ref j => exact h.elim
      | d x =>
        cases x with
        | int j =>
          have h' : AfterS X.K ρ3 H3 (match S4[n]? with | some (some (.lst l)) => (match ixN l.length j with | some m => .ok (.nx τ) (S4.set n (some (.lst (l.set m d)))) | none => .bad) | _ => .bad) D Wx := h
          split at h'
          · rename_i l el
            split at h'
            · rename_i m em
              obtain ⟨p, rfl, ep, ys, e5, r5⟩ := R4.ref el (RelW.mono k4 r2)
              cases r3
              refine ⟨p, ys, j, m, rfl, rfl, e5, by rw [← r5.length]; exact em, ?_⟩
              exact h' ρ4 _ _ (k4.trans (Keeps.write R4 ep)) (R4.write ep ⟨_, upd_same, RelDs.mono (Keeps.write R4 ep) _ (r5.set m d4)⟩) (((s2.mono k3).mono k4).mono (Keeps.write R4 ep))
            · exact h'.elim
          · exact h'.elim
        | _ => exact h.elim
  · exact h.elim
end
end L3

set_option Elab.async false
set_option linter.all false
set_option maxRecDepth 100000
set_option maxHeartbeats 4000000
/-! L3x: exceptions of own classes over ValueError whose __init__ says super().__init__('..') and keeps its arguments: at the heap. -/
namespace L3x
open PySem PySem.W PySem.Calls PyProof.Rows PySem.HandSPX
section
variable {M : Model} {A : Around} {E : Value → Shared → Prop} {h : Heap} {g : Array GenState} {dr : Drawn} {tk : Nat} {os : OsState}
variable {nm qn : Str} {C N : Addr} {bs bm mB : List Value} {hdc : Bool} {sn : List Str} {sub : List Value} {ab : Bool} {col : Option Bool} {dd : Option Addr} {k0 k1 k2 k3 k5 : Option Value} {B newId initId : String}
theorem chk_new (F : ExcBaseFacts B newId initId mB) (hm : ∀ Y : String, bm.contains (.type Y) = mB.contains (.type Y)) {xs : List Value} {kw : List (Str × Value)} {Q : Unit → Shared → Prop}
    (oC : h.get? C = some (excClassObj nm qn C N bs bm hdc sn sub ab col dd k0 k1 k2 k3 k5 newId)) (hq : Q () ⟨h, g, dr, tk, os⟩) : wpAny M A (checkBuiltinCall newId ⟨.ref C :: xs, kw⟩) Q E ⟨h, g, dr, tk, os⟩ := by
  have hc : (Value.ref C :: bm).contains (.type B) = true := by rw [List.contains_cons, hm, F.hasB, Bool.or_true]
  have hs := F.noStar
  simp only [checkBuiltinCall, F.newKind, F.newSplit, F.newRow]
  repeat (first | refine wpAny_loadPart_at oC ?_ | (refine wpAny_isSubtype_exc oC ?_; rw [hc]) | refine wpAny_staticBase_exc oC ?_ | refine wpAny_madeBy_exc oC ?_ | simp only [bne_self_eq_false, Bool.false_eq_true, if_false] | wp_step)
  exact hq
end
section
variable {P : Program} {w : World} {A : Around} {E : Value → Shared → Prop} {R : Result → Shared → Prop} {h : Heap} {g : Array GenState} {dr : Drawn} {tk : Nat} {os : OsState}
variable {nm qn : Str} {C N : Addr} {bs bm mB : List Value} {hdc : Bool} {sn : List Str} {sub : List Value} {ab : Bool} {col : Option Bool} {dd : Option Addr} {k0 k1 k2 k3 k5 : Option Value} {B newId initId : String}
theorem new_kw (F : ExcBaseFacts B newId initId mB) (hm : ∀ Y : String, bm.contains (.type Y) = mB.contains (.type Y)) {xs : List Value} {kw : List (Str × Value)}
    (oC : h.get? C = some (excClassObj nm qn C N bs bm hdc sn sub ab col dd k0 k1 k2 k3 k5 newId))
    (hq : R (.ok (.ret (.ref (h.objs.size + 1)))) ⟨(h.push (kdv_tup xs)).push (excO C h.objs.size), g, dr, tk, os⟩) (hl : xs.length ≤ sizeLine) :
    codeAny (model P w) A (.builtin newId ⟨.ref C :: xs, kw⟩) R ⟨h, g, dr, tk, os⟩ := by
  have he := F.ends
  have hB : (Value.ref C :: bm).contains (.type B) = true := by rw [List.contains_cons, hm, F.hasB, Bool.or_true]
  have hA : (Value.ref C :: bm).contains (.type "AttributeError") = false := by rw [List.contains_cons, hm, F.noAttr]; rfl
  have hN : (Value.ref C :: bm).contains (.type "NameError") = false := by rw [List.contains_cons, hm, F.noName]; rfl
  refine codeAny_builtinAt F.entry ?_
  unfold Builtin.«BaseException.__new__»
  refine _root_.PySem.wpAt_bind ?_
  show _root_.PySem.wpAt _ _ _ (stack >>= _) _ _ _
  refine _root_.PySem.wpAt_bind (_root_.PySem.wpAt_stack fun p below => _root_.PySem.wpAt_of_wpAny ?_)
  wp_walk
  refine _root_.PySem.wpAt_of_wpAny ?_
  rw [F.owner]
  repeat (first | with_reducible refine wpAny_madeHere_exc F.canon oC ?_ | with_reducible refine wpAny_loadPart_at oC ?_ | (with_reducible refine wpAny_isSubtype_exc oC ?_; first | rw [hB] | rw [hA] | rw [hN]) | wp_step)
  show R _ _
  rw [Heap.size_push]
  exact hq
theorem tcall_kw (F : ExcBaseFacts B newId initId mB) (hm : ∀ Y : String, bm.contains (.type Y) = mB.contains (.type Y)) {xs : List Value} {kw : List (Str × Value)} {fI : Addr} {Q : Fin → Shared → Prop}
    (oC : h.get? C = some (excClassObj nm qn C N bs bm hdc sn sub ab col dd k0 k1 k2 k3 k5 newId))
    (hi : Looks (model P w) h (typeLookup (.ref C) "__init__") (some (.ref fI))) (hb : ∀ self, Looks (model P w) h (bindSpecial (.ref fI) self) (.ref fI, [self])) (hl : xs.length ≤ sizeLine)
    (hq : codeAny (model P w) A (.call (.ref fI) ⟨.ref (h.objs.size + 1) :: xs, kw⟩)
      (fun r s' => match r with | .ok (.ret v) => v = .none ∧ Q (.done (.ret (.ref (h.objs.size + 1)))) s' | .ok _ => False | .error e => E e s')
      ⟨(h.push (kdv_tup xs)).push (excO C h.objs.size), g, dr, tk, os⟩) :
    wpAny (model P w) A (Builtin.«type.__call__» ⟨.ref C :: xs, kw⟩) Q E ⟨h, g, dr, tk, os⟩ := by
  repeat (first | with_reducible refine wpAny_loadPart_at oC ?_ | with_reducible refine wpAny_madeBy_exc oC ?_ | wp_step)
  refine codeAny_call_builtin_code (Code.quiet_builtin _ F.quiet) (chk_new F hm oC ?_)
  refine new_kw F hm oC ?_ hl
  show wpAny _ _ _ _ _ _
  have kp : ∀ b o, h.get? b = some o → ((h.push (kdv_tup xs)).push (excO C h.objs.size)).get? b = some o := fun b o e => Heap.get?_push_of_some _ (Heap.get?_push_of_some _ e)
  have oC1 := kp _ _ oC
  have he : ((h.push (kdv_tup xs)).push (excO C h.objs.size)).get? (h.objs.size + 1) = some (excO C h.objs.size) := by heap_get
  have hcC : (Value.ref C :: bm).contains (.ref C) = true := by simp
  have i1 := hi.keeps kp
  have b1 := (hb (.ref (h.objs.size + 1))).keeps kp
  unfold isInstance
  repeat (first | with_reducible refine wpAny_loadPart_at he ?_ | (with_reducible refine wpAny_isSubtype_exc oC1 ?_; rw [hcC]) | wp_step)
  show wpAny _ _ (typeLookup (.ref C) _) _ _ _
  refine i1.at ?_
  refine wpAny_holding (wpAny_bind (b1.at ?_))
  refine wpAny_bind (wpAny_call (codeAny_mono hq fun r s' z => ?_))
  rcases r with e | (v | _ | _ | _) <;> first | exact z | exact z.elim | skip
  obtain ⟨rfl, z⟩ := z
  first
    | exact wpAny_pure (wpAny_pure z)
    | (wp_walk; exact z)
theorem ccall_kw (F : ExcBaseFacts B newId initId mB) (hm : ∀ Y : String, bm.contains (.type Y) = mB.contains (.type Y)) {xs : List Value} {kw : List (Str × Value)} {fI : Addr}
    (oC : h.get? C = some (excClassObj nm qn C N bs bm hdc sn sub ab col dd k0 k1 k2 k3 k5 newId))
    (hi : Looks (model P w) h (typeLookup (.ref C) "__init__") (some (.ref fI))) (hb : ∀ self, Looks (model P w) h (bindSpecial (.ref fI) self) (.ref fI, [self])) (hl : xs.length ≤ sizeLine)
    (hq : codeAny (model P w) (A.under (.builtin "type.__call__" ⟨.ref C :: xs, kw⟩)) (.call (.ref fI) ⟨.ref (h.objs.size + 1) :: xs, kw⟩) (InitBack (h.objs.size + 1) R)
      ⟨(h.push (kdv_tup xs)).push (excO C h.objs.size), g, dr, tk, os⟩) :
    codeAny (model P w) A (.call (.ref C) ⟨xs, kw⟩) R ⟨h, g, dr, tk, os⟩ := by
  have f1 := tc_lookup
  have f2 := tc_bind (.ref C)
  have hTy : (⟨h, g, dr, tk, os⟩ : Shared).TypeIs (.ref C) "type" := ⟨_, oC, rfl⟩
  refine codeAny_of_tree ?_
  show wpAny _ _ (callAny (.ref C) _) _ _ _
  repeat (any_goals (first | assumption | with_reducible refine wpAny_loadPart_at oC ?_ | wp_step))
  refine ⟨rfl, ?_⟩
  refine codeAny_call_builtin_at (Code.quiet_builtin _ (by decide +kernel)) entry_typeCall (wpAny_check_type_call_sub oC (tcall_kw F hm oC hi hb hl ?_))
  refine codeAny_mono hq fun r s' z => ?_
  rcases r with e | (v | _ | _ | _) <;> exact z
end
end L3x

set_option Elab.async false
set_option linter.all false
set_option maxRecDepth 100000
set_option maxHeartbeats 4000000
/-! L3y: the walk of such an __init__. -/
namespace L3x
open PySem PySem.W PySem.Calls PyProof.Rows PySem.HandSPX
/-- the exception at e, its fields so far (the last one first) -/
def ExS (h : Heap) (n e C : Addr) : List (Str × Value) → Prop
  | [] => ∃ t1, h.get? e = some (excO C t1)
  | l => ∃ t1 dx : Addr, h.get? e = some ({ cls := .ref C, dict := some dx, data := .fields #[.ref t1, .none, .none, .none, .bool false, .none] } : Obj) ∧ n ≤ dx ∧ dx ≠ e ∧ h.Ns1 dx fun y => l.lookup y
/-- all below n but e is kept -/
def Kp (n e : Addr) (h h' : Heap) : Prop := ∀ b o, b < n → b ≠ e → h.get? b = some o → h'.get? b = some o
theorem Kp.trans {n e : Addr} {h h1 h2 : Heap} (a : Kp n e h h1) (b : Kp n e h1 h2) : Kp n e h h2 := fun c o l ne q => b c o l ne (a c o l ne q)
theorem Kp.inK {K : Frag} {n e : Addr} {h h' : Heap} (k : Kp n e h h') (X : K.In h) (hn : ∀ b o, K.lookup b = some o → b < n) (ke : K.lookup e = none) : K.In h' := fun b o q => k b o (hn b o q) (fun z => by rw [z, ke] at q; cases q) (X b o q)
theorem Kp.ns {n e L : Addr} {h h' : Heap} {m : Str → Option Value} (k : Kp n e h h') (hl : L < n) (ne : L ≠ e) (hn : h.Ns L m) : h'.Ns L m := by
  obtain ⟨o, es, ep, a, r⟩ := hn
  exact ⟨o, es, ep, k _ _ hl ne a, r⟩
theorem within_lookup (l : List (Str × Value)) : PySem.Within (fun y => l.lookup y) (l.map (·.1)) := fun y hy => by
  induction l with
  | nil => exact absurd rfl hy
  | cons p r ih =>
    obtain ⟨x, v⟩ := p
    by_cases h : y = x
    · subst h; simp
    · have e : (y == x) = false := by simpa using h
      have : r.lookup y ≠ none := by
        have := hy
        simp only [List.lookup, e] at this
        exact this
      exact List.mem_cons_of_mem _ (ih this)
section
variable {P : Program} {w : World} {A : Around} {E : Value → Shared → Prop} {h : Heap} {g : Array GenState} {dr : Drawn} {tk : Nat} {os : OsState} {K : Frag} {C e n : Addr} {l : List (Str × Value)} {f : Str} {u : Value}
theorem keep_field (X : K.In h) (T : L2.OexC K C) (hf : findIn K (.ref C) f = some none) (S : ExS h n e C l) (hn : n ≤ h.objs.size) (hl : l.length ≤ 900) {Q : Unit → Shared → Prop}
    (hq : ∀ h' t', Kp n e h h' → ExS h' n e C ((f, u) :: l) → Q () ⟨h', g, dr, t', os⟩) : wpAny (model P w) A (setAttr (.ref e) f u) Q E ⟨h, g, dr, tk, os⟩ := by
  obtain ⟨nm, q, N, bs, bm, sn, sub, ab, col, dd, k0, k1, k2, k3, k5, hC, hbm⟩ := T.cls
  have hcl : clsIn K C = some { name := nm, bases := bs, mro := .ref C :: bm, ns := N, qualname := q, hasDict := true, slotNames := sn, subclasses := sub, abstract := ab, collection := col, hasDel := false } := by unfold clsIn; rw [hC] <;> rfl
  cases l with
  | nil =>
    obtain ⟨t1, ho⟩ := S
    refine set_plain X (ox := excO C t1) (od := none) ⟨ho, rfl, rfl, trivial⟩ T.sa ?_
    refine exc_osa X ho hcl (show refsVE (.ref C :: bm) = true from hbm) rfl hf fun h' tk' dx k dn dne hx hns => ?_
    refine hq _ _ (fun b o _ ne q => k b o ne q) ⟨t1, dx, hx, Nat.le_trans hn dn, dne, ?_⟩
    have e2 : (fun y => ([(f, u)] : List (Str × Value)).lookup y) = fun y => if y = f then some u else none := by
      funext y
      by_cases h : y = f
      · subst h; simp [List.lookup]
      · have e : (y == f) = false := by simpa using h
        simp [List.lookup, e, h]
    rw [e2]
    exact hns
  | cons p r =>
    obtain ⟨t1, dx, ho, hd, hne, hns⟩ := S
    obtain ⟨oD, _, _, hoD, _⟩ := id hns
    refine set_plain X (ox := { cls := .ref C, dict := some dx, data := .fields #[.ref t1, .none, .none, .none, .bool false, .none] }) (od := some oD) ⟨ho, rfl, rfl, hoD⟩ T.sa ?_
    refine OEX.osa_old X ho hns (within_lookup (p :: r)) (show ((p :: r).map (·.1)).length ≤ 1000 by rw [List.length_map]; exact Nat.le_trans hl (by decide)) hcl (show refsVE (.ref C :: bm) = true from hbm) rfl hf fun h' tk' k hns' => ?_
    refine hq _ _ (fun b o hb _ q => k b o (fun z => by rw [z] at hb; exact absurd (Nat.lt_of_lt_of_le hb hd) (Nat.lt_irrefl _)) q) ⟨t1, dx, k _ _ (Ne.symm hne) ho, hd, hne, ?_⟩
    have e2 : (fun y => ((f, u) :: p :: r).lookup y) = fun y => if y = f then some u else (p :: r).lookup y := by
      funext y
      by_cases h : y = f
      · subst h; simp [List.lookup]
      · have e : (y == f) = false := by simpa using h
        simp only [List.lookup, e, if_neg h]
    rw [e2]
    exact hns'
/-- the statement self.f = p -/
def fieldOf : Stmt → Option (Str × Str × Str)
  | .Assign [.Attribute (.Name s _) f _] (.Name p _) _ => some (s, f, p)
  | _ => none
theorem fieldOf_eq {st : Stmt} {s f p : Str} (e : fieldOf st = some (s, f, p)) : ∃ p1 p2 p3 p4, st = .Assign [.Attribute (.Name s p1) f p2] (.Name p p3) p4 := by
  unfold fieldOf at e
  split at e
  · cases e
    exact ⟨_, _, _, _, rfl⟩
  · cases e
/-- the statement super().__init__('..') -/
def supOf : Stmt → Bool
  | .Expr (.Call (.Attribute (.Call (.Name s _) [] [] _) i p2) [.Constant (.str _) _ _] [] p4) _ => s == "super" && (i == "__init__" && p2.endLine == p4.line)
  | _ => false
theorem supOf_eq {st : Stmt} (e : supOf st = true) : ∃ p0 p1 p2 m i p3 p4 p5, (p2.endLine == p4.line) = true ∧ st = .Expr (.Call (.Attribute (.Call (.Name "super" p0) [] [] p1) "__init__" p2) [.Constant (.str m) i p3] [] p4) p5 := by
  unfold supOf at e
  split at e
  · obtain ⟨h1, h2⟩ := Bool.and_eq_true_iff.mp e
    obtain ⟨h2, h3⟩ := Bool.and_eq_true_iff.mp h2
    rw [beq_iff_eq] at h1 h2
    subst h1 h2
    exact ⟨_, _, _, _, _, _, _, _, h3, rfl⟩
  · cases e
def bodyOf : List Stmt → List (Str × Str × Str) → Bool
  | st :: r, [] => supOf st && r.isEmpty
  | _, _ => false
/-- the rest: self.p = p for each p -/
def restOk : List Stmt → List Str → Bool
  | [], [] => true
  | st :: r, p :: ps => decide (fieldOf st = some (("self" : Str), p, p)) && restOk r ps
  | _, _ => false
theorem keep_all {env : Env} {m : Str → Option Value} {L : Addr} (T : L2.OexC K C) (hk : env.scope.kind = .function) (hL : env.locals = L) (hLn : L + 1 = n) (hLe : L ≠ e) (hKn : ∀ b o, K.lookup b = some o → b < n) (hKe : K.lookup e = none) (hself : m "self" = some (.ref e)) (hks : env.kindOf "self" = some .local) : ∀ (rest : List Stmt) (ps : List Str) (us : List Value) (l : List (Str × Value)) (h : Heap) (tk : Nat) (Q : Flow → Shared → Prop),
    restOk rest ps = true → ps.length = us.length → (∀ p u, (p, u) ∈ ps.zip us → m p = some u) → (∀ p ∈ ps, env.kindOf p = some .local ∧ (p == ("__debug__" : Str)) = false ∧ findIn K (.ref C) p = some none) → l.length + ps.length ≤ 900 →
    K.In h → h.Ns L m → ExS h n e C l → n ≤ h.objs.size → (∀ h' t', Kp n e h h' → ExS h' n e C ((ps.zip us).reverse ++ l) → Q .next ⟨h', g, dr, t', os⟩) → wpAny (model P w) A (execs rest env) Q E ⟨h, g, dr, tk, os⟩
  | [], [], [], l, h, tk, Q, _, _, _, _, _, X, hn, S, hs, hq => wpAny_pure (hq h tk (fun _ _ _ _ q => q) S)
  | st :: rest, p :: ps, u :: us, l, h, tk, Q, hr, hlen, hm, hp, hl, X, hn, S, hs, hq => by
    obtain ⟨h1, h2⟩ := Bool.and_eq_true_iff.mp (show (decide (fieldOf st = some (("self" : Str), p, p)) && restOk rest ps) = true from hr)
    obtain ⟨p1, p2, p3, p4, rfl⟩ := fieldOf_eq (of_decide_eq_true h1)
    obtain ⟨k1, k2, k3⟩ := hp p List.mem_cons_self
    subst hL
    refine wpAny_execs_cons ?_
    refine plainObj_wpAny_Assign_Attribute ?_ (by rfl)
    refine wpAny_Name (wpAny_loadName_local hk k1 hn (hm p u (by simp)) ?_) k2
    refine wpAny_Name (wpAny_loadName_local hk hks hn hself ?_) (by decide)
    refine keep_field X T k3 S hs (by simp at hl; omega) fun h' t' k S' => ?_
    have hL1 : env.locals < n := hLn ▸ Nat.lt_succ_self _
    have hs' : n ≤ h'.objs.size := by
      have lt := (k.ns hL1 hLe hn).lt
      exact hLn ▸ lt
    refine keep_all T hk rfl hLn hLe hKn hKe hself hks rest ps us ((p, u) :: l) h' t' Q h2 (by simpa using hlen) (fun a b hab => hm a b (by simp only [List.zip_cons_cons]; exact List.mem_cons_of_mem _ hab)) (fun a ha => hp a (List.mem_cons_of_mem _ ha)) (by simp at hl ⊢; omega) (k.inK X hKn hKe) (k.ns hL1 hLe hn) S' hs' fun h2 t2 k2 S2 => ?_
    exact hq h2 t2 (k.trans k2) (by simpa using S2)
end
end L3x

set_option Elab.async false
set_option linter.all false
set_option maxRecDepth 100000
set_option maxHeartbeats 4000000
/-! L3z: such an __init__ called; such a class called. -/
namespace L3x
open PySem PySem.W PySem.Calls PyProof.Rows PySem.HandSPX
/-- what the written part says of the __init__ at fI of the class at C, ps its own parameters -/
structure InitS (P : Program) (K : Frag) (C fI : Addr) (ps : List Str) (fd : FuncData) : Prop where
  ex : ∃ (oc : Value) (od : Option Addr) (osl : Array (Option Value)) (name qual : Str) (params : Arguments) (st : Stmt) (rest : List Stmt) (scope : Scope) (dV kV doc pm : Value) (an : Option Addr) (cda : Addr) (ct : Value) (cc : Addr) (ccl : Value) (cdd : Option Addr) (vs : Array Value) (ccs : Array (Option Value)) (file : Str) (tf : Tok) (cl : Value) (cld : Option Addr) (csl : Array (Option Value)) (ar : Arg),
    fd = ksFn name qual params (st :: rest) scope dV kV doc pm an (.ref cda) ct cc ∧ K.lookup fI = some ⟨oc, od, .func fd, osl⟩ ∧ codeIn K (.ref cda) qual = true ∧ K.lookup cda = some ⟨ccl, cdd, .fields vs, ccs⟩ ∧ vs[2]? = some (.str file tf) ∧ ((P.main.file : Str) == file) = true ∧
    K.lookup cc = some ⟨cl, cld, .cell (some (.ref C)), csl⟩ ∧ supOf st = true ∧ restOk rest ps = true ∧ (params.posonlyargs ++ params.args).head? = some ar ∧ ar.arg = ("self" : Str) ∧
    scope.kind = .function ∧ (∀ x ∈ scope.names, x.2 ≠ .cell) ∧ scope.isCoroutine = false ∧ scope.isGenerator = false ∧ scope.names.lookup ("super" : Str) = some .globalImplicit ∧ scope.names.lookup ("__class__" : Str) = some .free ∧ scope.names.lookup ("self" : Str) = some .local ∧
    (∀ p ∈ ps, scope.names.lookup p = some .local) ∧ ps.length ≤ 800 ∧ (("self" : Str) :: ps).Nodup
  par : ∀ p ∈ ps, (p == ("__debug__" : Str)) = false ∧ findIn K (.ref C) p = some none
  opq : nsIn K cStatics "thirdparty.any" = some none
  sup : ks_superIn K C C "__init__" = some (some (.builtin "ValueError.__init__"))
  subV : subIn K (.ref C) (.type "ValueError") = some true
  subC : mroIn K C (.ref C) = some true
  top : (P.main.scope.names.lookup ("super" : Str)).isSome = false
section
variable {P : Program} {w : World} {M : Model} {A : Around} {E : Value → Shared → Prop} {h : Heap} {g : Array GenState} {dr : Drawn} {tk : Nat} {os : OsState} {K : Frag} {C e n fI : Addr} {ps : List Str} {fd : FuncData} {us : List Value}
/-- ValueError.__init__ bound to e, called -/
theorem call_vw {u t0 : Addr} {xs : List Value} {Q : Value → Shared → Prop} {nm qn : Str} {N : Addr} {bs bm : List Value} {hdc : Bool} {sn : List Str} {sub : List Value} {ab : Bool} {col : Option Bool} {dd : Option Addr} {k0 k1 k2 k3 k5 : Option Value}
    (oC : h.get? C = some (excClassObj nm qn C N bs bm hdc sn sub ab col dd k0 k1 k2 k3 k5 "ValueError.__new__")) (oe : h.get? e = some (excO C t0)) (ou : h.get? u = some (kxs_mw "ValueError.__init__" e)) (hl : xs.length ≤ sizeLine)
    (hq : ∀ h' t1, (∀ b o, b ≠ e → h.get? b = some o → h'.get? b = some o) → h'.get? e = some (excO C t1) → Q .none ⟨h', g, dr, tk, os⟩) : wpAny (model P w) A (call (.ref u) xs) Q E ⟨h, g, dr, tk, os⟩ := by
  refine wpAny_call (codeAny_of_tree ?_)
  show wpAny _ A.in1 (callAny (.ref u) ⟨xs, []⟩) _ _ _
  simp only [callAny]
  refine wpAny_bind (wpAny_load ou ?_)
  simp only [kxs_mw, show (Value.type "method-wrapper" == Value.type "method" || Value.type "method-wrapper" == Value.type "builtin_function_or_method" || Value.type "method-wrapper" == Value.type "method-wrapper") = true by decide, if_true]
  refine KFB.if_so (by decide) (wpAny_bind (ESX.check_bound F.excBase_ValueError oC oe rfl (wpAny_bind (wpAny_pure (wpAny_pure ⟨Code.quiet_builtin _ (by decide +kernel), codeAny_builtin F.excBase_ValueError.initEntry ?_⟩)))))
  rw [Around.under_plainId F.excBase_ValueError.init.plain _]
  exact exc_init_tree (cls := .ref C) (t0 := t0) (dv := none) (c2 := .none) (c3 := .none) (b4 := .bool false) oe hl fun h' k e' _ => hq h' _ k e'
theorem rev_look : ∀ (l : List (Str × Value)), (l.map (·.1)).Nodup → ∀ p u, (p, u) ∈ l → l.reverse.lookup p = some u
  | [], _, p, u, hm => by cases hm
  | (a, v) :: r, hn, p, u, hm => by
    rw [List.map_cons, List.nodup_cons] at hn
    rw [List.reverse_cons, List.lookup_append]
    rcases List.mem_cons.mp hm with z | z
    · cases z
      have e : r.reverse.lookup a = none := by
        rw [List.lookup_eq_none_iff]
        intro y hy
        have ne : a ≠ y.1 := fun z => hn.1 (List.mem_map.mpr ⟨y, List.mem_reverse.mp hy, z.symm⟩)
        simpa using ne
      rw [e]
      simp [List.lookup]
    · rw [rev_look r hn.2 p u z]
      rfl
theorem rev_zip_get {ps : List Str} {us : List Value} (nd : (("self" : Str) :: ps).Nodup) (hl : ps.length ≤ us.length) {x : Value} : ((("self" : Str), x) :: ps.zip us).reverse.lookup ("self" : Str) = some x ∧ ∀ p u, (p, u) ∈ ps.zip us → ((("self" : Str), x) :: ps.zip us).reverse.lookup p = some u := by
  have hnd : (((("self" : Str), x) :: ps.zip us).map (·.1)).Nodup := by
    rw [List.map_cons, List.map_fst_zip hl]
    exact nd
  exact ⟨rev_look _ hnd _ _ List.mem_cons_self, fun p u hm => rev_look _ hnd _ _ (List.mem_cons_of_mem _ hm)⟩
theorem ev_sup {env : Env} {o c : Expr} {name : Str} {p2 p4 : Pos} (pl : Sem Bool) (hl : (p2.endLine == p4.line) = true) (hs : starEach [c] env = [(false, eval c env)]) : eval (.Call (.Attribute o name p2) [c] [] p4) env = (do
      let ov ← attributeBase o name env (eval o env)
      standAt p2.atName
      let (f, first) ← holding [ov] (getMethod ov name (do return (← importBound o env).getD true))
      callWith p4 f first (backTo p4 (starEach [c] env)) []) := by
  rw [arm_eval_Call]
  have hp : ∀ few, methodCallPos few o env p2 p4 = pure p4 := fun few => by unfold methodCallPos; rw [hl, Bool.or_true, if_pos rfl]
  unfold methodCall
  rw [hs]
  simp only [hp, pure_bind]
  rfl
theorem interactive_fn {env : Env} (h : env.scope.kind = .function) : interactive env = false := by
  unfold interactive
  rw [h]
  rfl
theorem init_run {mg mb : Str → Option Value} {args : Args} {t0 : Addr} {R : Result → Shared → Prop} (I : InitS P K C fI ps fd) (T : L2.OexC K C) (X : K.In h) (hke : K.lookup e = none) (hg : h.Ns mainGlobals mg) (hgs : mg ("super" : Str) = none) (hb : h.Ns builtinsNs mb) (hbs : mb ("super" : Str) = some (.type "super")) (lim : h.NoLimit) (hd : A.depth < recursionLimit)
    (oe : h.get? e = some (excO C t0)) (hul : us.length = ps.length) (bd : BindsTo ⟨h, g, dr, tk, os⟩ fd args ((("self" : Str), .ref e) :: ps.zip us))
    (hq : ∀ h' t' , (∀ b o, b ≠ e → h.get? b = some o → h'.get? b = some o) → ExS h' h.objs.size e C (ps.zip us).reverse → R (.ok (.ret .none)) ⟨h', g, dr, t', os⟩) : codeAny (model P w) A (.call (.ref fI) args) R ⟨h, g, dr, tk, os⟩ := by
  obtain ⟨oc, od, osl, name, qual, params, st, rest, scope, dV, kV, doc, pm, an, cda, ct, cc, ccl, cdd, vs, ccs, file, tf, cl, cld, csl, ar, rfl, lk, hcd, hcode, hvs, hfile, hcell, hst, hrest, hhead, har, hkind, hnc, hco, hgen, hsu, hcl, hse, hpl, hp800, hnd⟩ := I.ex
  obtain ⟨p0, p1, p2, m, ii, p3, p4, p5, hline, rfl⟩ := supOf_eq hst
  obtain ⟨nm, q, N, bs, bm, sn, sub, ab, col, dd, k0, k1, k2, k3, k5, hC, hbm⟩ := T.cls
  obtain ⟨r1, r2⟩ := rev_zip_get (us := us) hnd (Nat.le_of_eq hul.symm) (x := .ref e)
  have hKn : ∀ b o, K.lookup b = some o → b < h.objs.size := fun b o z => Heap.lt_size (X b o z)
  have eL : e < h.objs.size := Heap.lt_size oe
  refine ks_codeAny_call_defAt hd (X _ _ lk) rfl lim (codeRec_of X hcd) rfl bd hnc (fun y hy => ?_) (fun h1 hns hk1 => ?_) hco hgen hkind
  · rcases List.mem_cons.mp hy with z | z
    · subst z; exact hse
    · obtain ⟨a, b⟩ := y
      exact hpl a (List.of_mem_zip z).1
  have X1 : K.In h1 := X.keeps hk1
  have hL : h.objs.size < h1.objs.size := hns.lt
  have neL : h.objs.size ≠ e := Nat.ne_of_gt eL
  refine ks_wpAt_execs_cons (ks_wpAt_Expr_any (ks_wpAt_MethodCall ?_ (ev_sup (pure true) hline rfl)) (interactive_fn hkind))
  refine ks_wpAt_super_base hsu hcl (by decide) rfl (X1 _ _ lk) rfl hhead rfl (X1 _ _ hcode) rfl hvs hfile I.top ?_
  refine ks_loadName_global hkind hsu (loadGlobal_builtin (hg.keeps hk1) hgs (hb.keeps hk1) hbs ⟨rfl, ?_⟩)
  refine wpAny_loadName_free hkind hcl rfl ⟨_, X1 _ _ hcell, rfl⟩ ?_
  rw [har]
  refine wpAny_loadName_local hkind hse hns r1 ?_
  refine ks_wpAny_isType_cls (X1 _ _ hC) rfl ⟨rfl, ?_⟩
  have oe1 := hk1 _ _ oe
  refine ks_wpAny_call_super (X1 _ _ hC) rfl oe1 rfl (fun c z => nomatch z) (looks_mroIn X1 I.subC) fun h2 e2 k2 => ?_
  have X2 : K.In h2 := X1.keeps k2
  have oe2 := k2 _ _ oe1
  have hcl2 : clsIn K C = some { name := nm, bases := bs, mro := .ref C :: bm, ns := N, qualname := q, hasDict := true, slotNames := sn, subclasses := sub, abstract := ab, collection := col, hasDel := false } := by unfold clsIn; rw [hC] <;> rfl
  have hsi := I.sup
  unfold ks_superIn at hsi
  rw [hcl2] at hsi
  have IA : InstAt h2 e (excO C t0) C none := ⟨oe2, rfl, rfl, trivial⟩
  refine kxs_getMethod kxs_ValueError e2 (looks_opaque X2 I.opq) (l₀ := .ref C :: bm) ((looks_clsIn X2 hcl2).andThen .now) rfl X2 hsi (IA.type.andThen (looks_subIn X2 I.subV)) (ks_ne X2 IA hcl2) (by decide) ?_
  have e3 : (h2.push (kxs_mw "ValueError.__init__" e)).get? h2.objs.size = some (kxs_mw "ValueError.__init__" e) := Heap.get?_push_size _ rfl
  have k3 : ∀ b o, h2.get? b = some o → (h2.push (kxs_mw "ValueError.__init__" e)).get? b = some o := fun b o z => Heap.get?_push_of_some _ z
  have X3 : K.In (h2.push (kxs_mw "ValueError.__init__" e)) := X2.keeps k3
  refine kxs_callWith (i := "ValueError.__init__") (x := e) (by rfl) (evalArgs_plain (spliced_cons ?_))
  refine wpAny_Constant_str (k := ii) (pos := p3) (wpAny_items_nil (pos := p4) ⟨e3, ?_⟩)
  refine call_vw (X3 _ _ hC) (k3 _ _ oe2) e3 (by simp [sizeLine_eq]) fun h4 t1 k4 oe4 => ?_
  refine _root_.PySem.wpAt_of_wpAny ?_
  have kAll : ∀ b o, b ≠ e → h1.get? b = some o → h4.get? b = some o := fun b o ne z => k4 b o ne (k3 b o (k2 b o z))
  have X4 : K.In h4 := fun b o z => kAll b o (fun y => by rw [y, hke] at z; cases z) (X1 b o z)
  have hns4 : h4.Ns h.objs.size (fun x => ((("self" : Str), Value.ref e) :: ps.zip us).reverse.lookup x) := by
    obtain ⟨o, es, ep, a, r⟩ := hns
    exact ⟨o, es, ep, kAll _ _ neL a, r⟩
  refine wpAny_mono (Q := fun f s' => R (.ok (.ret (match f with | .ret v => v | _ => .none))) s') (E := fun _ _ => False) ?_ (fun _ _ z => z) fun _ _ z => z.elim
  refine keep_all (n := h.objs.size + 1) (env := ksEnv qual scope h.objs.size fI (.ref cda) cc) T hkind rfl rfl neL (fun b o z => Nat.lt_succ_of_lt (hKn b o z)) hke r1 hse rest ps us [] h4 _ _ hrest hul.symm r2 (fun p hp => ⟨hpl p hp, I.par p hp⟩) (by simpa using Nat.le_trans hp800 (by decide)) X4 hns4 ⟨t1, oe4⟩ hns4.lt fun h5 t5 k5' S5 => ?_
  rw [List.append_nil] at S5
  refine hq h5 t5 (fun b o ne z => k5' b o (Nat.lt_succ_of_lt (Heap.lt_size z)) ne (kAll b o ne (hk1 b o z))) ?_
  revert S5
  cases (ps.zip us).reverse with
  | nil => exact fun z => z
  | cons a r => exact fun ⟨t, dx, z1, z2, z3, z4⟩ => ⟨t, dx, z1, Nat.le_of_succ_le z2, z3, z4⟩
end
end L3x

set_option Elab.async false
set_option linter.all false
set_option maxRecDepth 100000
set_option maxHeartbeats 4000000
/-! L3h: exceptions as values. -/
namespace L3
open PySem PySem.Spec PyProof.Rows L2
section
variable {X : Cx} {pins : List (Addr × Obj)} {σ : L2.St} {H : Hp} {s : Shared} {a C d : Addr}
theorem exq_ext {e C : Addr} {d : Option Addr} : ∃ φ, exq e C d = .ext φ := ⟨_, rfl⟩
theorem exq_ok {P : Program} {w : World} {H : Hp} {h : Heap} {e C : Addr} {d : Option Addr} {vs : Array Value} {sl : Array (Option Value)} (he : h.get? e = some (⟨.ref C, d, .fields vs, sl⟩ : Obj)) : ObjOk P w H h e (exq e C d) :=
  ⟨⟨vs, sl, he⟩, ⟨_, he⟩, fun h1 h2 ⟨vs, sl, q⟩ k => ⟨vs, sl, k _ q⟩⟩
theorem exq_at {P : Program} {w : World} {H : Hp} {h : Heap} {e C : Addr} {d : Option Addr} (ok : HOk P w H h) (he : H e = some (exq e C d)) : ∃ vs sl, h.get? e = some (⟨.ref C, d, .fields vs, sl⟩ : Obj) := by
  have x : ObjOk P w H h e (.ext fun h => ∃ (vs : Array Value) (sl : Array (Option Value)), h.get? e = some (⟨.ref C, d, .fields vs, sl⟩ : Obj)) := ok e _ he
  exact x.1
/-- two new objects are tracked at once -/
theorem Inv.laid2 {a b : Addr} {o u : HO} {h' : Heap} {t' : Nat} (I : Inv X pins σ H s) (k : ∀ c v, s.heap.get? c = some v → h'.get? c = some v) (ha : s.heap.objs.size ≤ a) (hb : s.heap.objs.size ≤ b) (ne : a ≠ b) (oa : ObjOk X.prog X.w (upd (upd H a o) b u) h' a o) (ob : ObjOk X.prog X.w (upd (upd H a o) b u) h' b u) :
    Inv X pins σ (upd (upd H a o) b u) { s with heap := h', toks := t' } := by
  have na : H a = none := I.hok.fresh ha
  have nb : H b = none := I.hok.fresh hb
  have lt : ∀ {c : Addr} {v : Obj}, s.heap.get? c = some v → c ≠ a ∧ c ≠ b := fun {c v} z => ⟨Nat.ne_of_lt (Nat.lt_of_lt_of_le (Heap.lt_size z) ha), Nat.ne_of_lt (Nat.lt_of_lt_of_le (Heap.lt_size z) hb)⟩
  have ups : ∀ {c : Addr} {v : HO}, H c = some v → upd (upd H a o) b u c = some v := fun {c v} z => by rw [upd_ne (ne_of_none z nb), upd_ne (ne_of_none z na)]; exact z
  refine I.un (t' := t') ⟨fun c v z _ _ _ => k c v z, fun c v z _ _ _ => ⟨v.slots, k c v z⟩, fun c v z n _ => by rw [upd_ne (lt z).2, upd_ne (lt z).1]; exact n, fun c v z _ => ⟨v, k c v z⟩, fun c xs z => ups z, fun c v w z => ups z, fun c ps z => ⟨#[], by rw [ups z]; simp⟩⟩ fun c v z => ?_
  by_cases e1 : c = b
  · subst e1; rw [upd_same] at z; cases z; exact ob
  · rw [upd_ne e1] at z
    by_cases e2 : c = a
    · subst e2; rw [upd_same] at z; cases z; exact oa
    · rw [upd_ne e2] at z
      exact (I.hok c v z).stay (fun x y _ q => k x y q) (fun x q => ups q) fun x xs q => ups q
end
/-- with an exception's dict, where it has one -/
def xcH (H : Hp) (fs : List (Str × V)) : Option Addr → Hp
  | some b => upd H b (.xd fs)
  | none => H
def ord {α : Type} (rv : Bool) (l : List α) : List α := if rv then l.reverse else l
theorem ord_length {α : Type} {rv : Bool} {l : List α} : (ord rv l).length = l.length := by
  cases rv with
  | false => rfl
  | true => exact List.length_reverse
abbrev xcFd (name qual : Str) (pr : Arguments) (body : List Stmt) (scope : Scope) (kV doc pm : Value) (an : Option Addr) (cdv ct : Value) (cc : Addr) : FuncData := PySem.W.ksFn name qual pr body scope .none kV doc pm an cdv ct cc
structure PrOk (pr : Arguments) (ps : List Str) : Prop where
  po : pr.posonlyargs = []
  ar : pr.args.map (·.arg) = ("self" : Str) :: ps
  va : pr.vararg = none
  ko : pr.kwonlyargs = []
  ka : pr.kwarg = none
theorem seqItems_none : seqItems? Value.none = (pure Option.none : Sem (Option (Array Value))) := by first | rfl | kernel_rfl
section
variable {name qual : Str} {pr : Arguments} {body : List Stmt} {scope : Scope} {kV doc pm : Value} {an : Option Addr} {cdv ct : Value} {cc : Addr} {u0 u1 u2 : Value} {p q : Str}
theorem bind_0 (h : PrOk pr []) : bindArgs (xcFd name qual pr body scope kV doc pm an cdv ct cc) ⟨[u0], []⟩ = pure [(("self" : Str), u0)] := by
  obtain ⟨po, ar, va, ko, kd, ka, df⟩ := pr
  obtain ⟨h1, h2, h3, h4, h5⟩ := h
  dsimp only at h1 h2 h3 h4 h5
  subst h1 h3 h4 h5
  obtain ⟨a0, ar, rfl, e1, e2⟩ := List.map_eq_cons_iff.mp h2
  obtain rfl := List.map_eq_nil_iff.mp e2
  obtain ⟨n0, m0, l0⟩ := a0
  dsimp only at e1
  subst e1
  rfl
theorem bind_1 (h : PrOk pr [p]) (e : (p == ("self" : Str)) = false) : bindArgs (xcFd name qual pr body scope kV doc pm an cdv ct cc) ⟨[u0, u1], []⟩ = pure [(("self" : Str), u0), (p, u1)] := by
  obtain ⟨po, ar, va, ko, kd, ka, df⟩ := pr
  obtain ⟨h1, h2, h3, h4, h5⟩ := h
  dsimp only at h1 h2 h3 h4 h5
  subst h1 h3 h4 h5
  obtain ⟨a0, ar, rfl, e1, e2⟩ := List.map_eq_cons_iff.mp h2
  obtain ⟨a1, ar, rfl, e3, e4⟩ := List.map_eq_cons_iff.mp e2
  obtain rfl := List.map_eq_nil_iff.mp e4
  obtain ⟨n0, m0, l0⟩ := a0
  obtain ⟨n1, m1, l1⟩ := a1
  dsimp only at e1 e3
  subst e1 e3
  unfold bindArgs
  simp [seqItems_none, List.lookup, e]
theorem args1 (h : PrOk pr [p]) : ∃ a0 a1 kd df, pr = ⟨[], [a0, a1], none, [], kd, none, df⟩ ∧ a0.arg = ("self" : Str) ∧ a1.arg = p := by
  obtain ⟨po, ar, va, ko, kd, ka, df⟩ := pr
  obtain ⟨h1, h2, h3, h4, h5⟩ := h
  dsimp only at h1 h2 h3 h4 h5
  subst h1 h3 h4 h5
  obtain ⟨a0, ar, rfl, e1, e2⟩ := List.map_eq_cons_iff.mp h2
  obtain ⟨a1, ar, rfl, e3, e4⟩ := List.map_eq_cons_iff.mp e2
  obtain rfl := List.map_eq_nil_iff.mp e4
  exact ⟨a0, a1, kd, df, rfl, e1, e3⟩
theorem args2 (h : PrOk pr [p, q]) : ∃ a0 a1 a2 kd df, pr = ⟨[], [a0, a1, a2], none, [], kd, none, df⟩ ∧ a0.arg = ("self" : Str) ∧ a1.arg = p ∧ a2.arg = q := by
  obtain ⟨po, ar, va, ko, kd, ka, df⟩ := pr
  obtain ⟨h1, h2, h3, h4, h5⟩ := h
  dsimp only at h1 h2 h3 h4 h5
  subst h1 h3 h4 h5
  obtain ⟨a0, ar, rfl, e1, e2⟩ := List.map_eq_cons_iff.mp h2
  obtain ⟨a1, ar, rfl, e3, e4⟩ := List.map_eq_cons_iff.mp e2
  obtain ⟨a2, ar, rfl, e5, e6⟩ := List.map_eq_cons_iff.mp e4
  obtain rfl := List.map_eq_nil_iff.mp e6
  exact ⟨a0, a1, a2, kd, df, rfl, e1, e3, e5⟩
theorem bind_k1 (h : PrOk pr [p]) (e : (p == ("self" : Str)) = false) : bindArgs (xcFd name qual pr body scope kV doc pm an cdv ct cc) ⟨[u0], [(p, u1)]⟩ = pure [(("self" : Str), u0), (p, u1)] := by
  obtain ⟨a0, a1, kd, df, rfl, e1, e2⟩ := args1 h
  unfold bindArgs
  simp [seqItems_none, List.lookup, e, e1, e2]
theorem bind_2 (h : PrOk pr [p, q]) (e : (p == ("self" : Str)) = false) (e' : (q == ("self" : Str)) = false) (n : (q == p) = false) : bindArgs (xcFd name qual pr body scope kV doc pm an cdv ct cc) ⟨[u0, u1, u2], []⟩ = pure [(("self" : Str), u0), (p, u1), (q, u2)] := by
  obtain ⟨a0, a1, a2, kd, df, rfl, e1, e2, e3⟩ := args2 h
  unfold bindArgs
  simp [seqItems_none, List.lookup, e, e', n, e1, e2, e3]
theorem bind_k2 (h : PrOk pr [p, q]) (e : (p == ("self" : Str)) = false) (e' : (q == ("self" : Str)) = false) (n : (q == p) = false) (n' : (p == q) = false) : bindArgs (xcFd name qual pr body scope kV doc pm an cdv ct cc) ⟨[u0], [(p, u1), (q, u2)]⟩ = pure [(("self" : Str), u0), (p, u1), (q, u2)] := by
  obtain ⟨a0, a1, a2, kd, df, rfl, e1, e2, e3⟩ := args2 h
  unfold bindArgs
  simp [seqItems_none, List.lookup, e, e', n, n', e1, e2, e3]
theorem bind_r2 (h : PrOk pr [p, q]) (e : (p == ("self" : Str)) = false) (e' : (q == ("self" : Str)) = false) (n : (q == p) = false) (n' : (p == q) = false) : bindArgs (xcFd name qual pr body scope kV doc pm an cdv ct cc) ⟨[u0], [(q, u1), (p, u2)]⟩ = pure [(("self" : Str), u0), (p, u2), (q, u1)] := by
  obtain ⟨a0, a1, a2, kd, df, rfl, e1, e2, e3⟩ := args2 h
  unfold bindArgs
  simp [seqItems_none, List.lookup, e, e', n, n', e1, e2, e3]
end
/-- the facts of an own exception class -/
structure XC (P : Program) (K : PySem.W.Frag) (C fI : Addr) (ps : List Str) : Prop where
  oex : OexC K C
  init : ∃ fd, L3x.InitS P K C fI ps fd ∧ PrOk fd.params ps ∧ fd.defaults = .none
  iC : PySem.W.findIn K (.ref C) "__init__" = some (some (.ref fI))
  tI : PySem.W.typeIn K (.ref fI) = some (.type "function")
section
variable {X : Cx} {pins : List (Addr × Obj)} {σ : L2.St} {H : Hp} {s : Shared} {C fI : Addr} {ps ks : List Str} {k : Nat} {vs : List V} {us ws : List Value} {rv : Bool} {n : Nat}
theorem zip_lookup_rel : ∀ {l : List (Str × V)} {m : List (Str × Value)}, Paired (fun p q => p.1 = q.1 ∧ RelV p.2 q.2) l m → ∀ f, RelO (l.lookup f) (m.lookup f)
  | _, _, .nil, f => trivial
  | (x, v) :: l, (y, u) :: m, .cons ⟨e, r⟩ t, f => by
    have e : x = y := e
    subst e
    simp only [List.lookup]
    cases f == x with
    | true => exact r
    | false => exact zip_lookup_rel t f
theorem paired_zip : ∀ {ps : List Str} {vs : List V} {us : List Value}, Vals vs us → Paired (fun (p : Str × V) (q : Str × Value) => p.1 = q.1 ∧ RelV p.2 q.2) (ps.zip vs) (ps.zip us)
  | [], _, _, _ => by simp; exact .nil
  | _ :: _, _, _, .nil => by simp; exact .nil
  | p :: ps, _, _, .cons r t => .cons ⟨rfl, r⟩ (paired_zip t)
theorem paired_rev {α β : Type} {F : α → β → Prop} {l : List α} {m : List β} (h : Paired F l m) : Paired F l.reverse m.reverse := by
  have app : ∀ {l₁ : List α} {m₁ : List β} {l₂ : List α} {m₂ : List β}, Paired F l₁ m₁ → Paired F l₂ m₂ → Paired F (l₁ ++ l₂) (m₁ ++ m₂) := by
    intro l₁ m₁ l₂ m₂ a b
    induction a with
    | nil => exact b
    | cons r _ ih => exact .cons r ih
  induction h with
  | nil => exact .nil
  | cons r t ih => rw [List.reverse_cons, List.reverse_cons]; exact app ih (.cons r .nil)
theorem ord_vals {rv : Bool} {vs : List V} {us : List Value} (r : Vals vs us) : Vals (ord rv vs) (ord rv us) := by
  cases rv with
  | false => exact r
  | true => exact paired_rev r
/-- C(..): a new exception -/
theorem run_exc {Q : VK} (T : XC X.prog X.K C fI ps) (hr : Room (k + 1) X.A) (hs : X.mg ("super" : Str) = none) (I : Inv X pins σ H s) (r : Vals vs (us ++ ws)) (hl : vs.length = ps.length) (h8 : ps.length ≤ 800)
    (hb : ∀ (name qual : Str) (pr : Arguments) (body : List Stmt) (scope : Scope) (kV doc pm : Value) (an : Option Addr) (cdv ct : Value) (cc : Addr) (u0 : Value), PrOk pr ps → bindArgs (xcFd name qual pr body scope kV doc pm an cdv ct cc) ⟨u0 :: us, ks.zip ws⟩ = pure ((("self" : Str), u0) :: ps.zip (ord rv (us ++ ws))))
    (h : ∀ a d, H a = none → (∀ b, d = some b → H b = none ∧ b ≠ a) → (d = none ↔ ps = []) → Q (.ref a) (upd (xcH H (ps.zip (ord rv vs)).reverse d) a (exq a C d))) :
    wpAny (model X.prog X.w) X.A (call (.ref C) us (ks.zip ws)) (EP X pins σ Q) X.xe s := by
  obtain ⟨nm, q, N, bs, bm, sn, sub, ab, col, dd, k0, k1, k2, k3, k5, hC, hbm⟩ := T.oex.cls
  obtain ⟨fd, J, hpr, hdf⟩ := T.init
  obtain ⟨mb, hmb, hmb2⟩ := I.mod.blt
  obtain ⟨hp, g, dr, tk, os⟩ := s
  have hlen : (us ++ ws).length = ps.length := r.length.symm.trans hl
  have hus : us.length ≤ sizeLine := by
    have : us.length ≤ 800 := by
      have : us.length ≤ (us ++ ws).length := by simp
      omega
    exact Nat.le_trans this (by decide)
  have kk : ∀ b o, hp.get? b = some o → ((hp.push (PySem.W.kdv_tup us)).push (PySem.HandSPX.excO C hp.objs.size)).get? b = some o := fun b o e => Heap.get?_push_of_some _ (Heap.get?_push_of_some _ e)
  have hget : ((hp.push (PySem.W.kdv_tup us)).push (PySem.HandSPX.excO C hp.objs.size)).get? (hp.objs.size + 1) = some (PySem.HandSPX.excO C hp.objs.size) := by heap_get
  have X1 : X.K.In ((hp.push (PySem.W.kdv_tup us)).push (PySem.HandSPX.excO C hp.objs.size)) := I.kIn.keeps kk
  have hke : X.K.lookup (hp.objs.size + 1) = none := by
    cases z : X.K.lookup (hp.objs.size + 1) with
    | none => rfl
    | some o => exact absurd (Heap.lt_size (I.kIn _ _ z)) (by show ¬ hp.objs.size + 1 < hp.objs.size; omega)
  have hbd : ∀ s', BindsTo s' fd ⟨Value.ref (hp.objs.size + 1) :: us, ks.zip ws⟩ ((("self" : Str), Value.ref (hp.objs.size + 1)) :: ps.zip (ord rv (us ++ ws))) := fun s' => by
    obtain ⟨oc, od, osl, name, qual, params, st, rest, scope, dV, kV, doc, pm, an, cda, ct, cc, _, _, _, _, _, _, _, _, _, _, rfl, _⟩ := J.ex
    have e2 : dV = Value.none := hdf
    subst e2
    exact .of_eq (hb _ _ _ _ _ _ _ _ _ _ _ _ _ hpr)
  refine wpAny_call (L3x.ccall_kw F.excBase_ValueError (fun Y => PySem.HandSPX.refsVE_contains Y bm hbm) (I.kIn _ _ hC) (PySem.W.looks_findIn I.kIn T.iC) (fun self => PySem.W.bind_fn I.kIn self T.tI) hus ?_)
  refine L3x.init_run (mb := mb) (e := hp.objs.size + 1) (us := ord rv (us ++ ws)) J T.oex X1 hke ((I.mod.glob.keeps I.bk).keeps kk) hs ((hmb.keeps I.bk).keeps kk) ?_ (I.nolimit.keeps kk) (hr.make C us (ks.zip ws)).depth hget ?_ (hbd _) fun h' t' k' S' => ?_
  · exact (hmb2 _ (by decide)).trans (by decide +kernel)
  · exact ord_length.trans hlen
  have kf : ∀ b o, hp.get? b = some o → h'.get? b = some o := fun b o z => k' b o (fun y => by rw [y] at z; exact absurd (Heap.lt_size z) (by show ¬ hp.objs.size + 1 < hp.objs.size; omega)) (kk b o z)
  have sz : ((hp.push (PySem.W.kdv_tup us)).push (PySem.HandSPX.excO C hp.objs.size)).objs.size = hp.objs.size + 2 := by rw [Heap.size_push, Heap.size_push]
  have na : H (hp.objs.size + 1) = none := I.hok.fresh (Nat.le_succ _)
  have rr := zip_lookup_rel (paired_rev (paired_zip (ps := ps) (ord_vals (rv := rv) r)))
  have hlo : (ord rv (us ++ ws)).length = ps.length := ord_length.trans hlen
  refine ⟨rfl, ?_⟩
  cases hz : (ps.zip (ord rv (us ++ ws))).reverse with
  | nil =>
    rw [hz] at S'
    obtain ⟨t1, he⟩ := S'
    have hps : ps = [] := by
      have : (ps.zip (ord rv (us ++ ws))).length = 0 := by rw [← List.length_reverse, hz]; rfl
      rw [List.length_zip, hlo, Nat.min_self] at this
      exact List.length_eq_zero_iff.mp this
    refine ⟨.ref (hp.objs.size + 1), _, I.laid (t' := t') (a := hp.objs.size + 1) (o := exq (hp.objs.size + 1) C none) kf (Nat.le_succ _) (exq_ok he), rfl, ?_⟩
    exact h (hp.objs.size + 1) none na (fun b z => nomatch z) ⟨fun _ => hps, fun _ => rfl⟩
  | cons p l =>
    rw [hz] at S'
    obtain ⟨t1, dx, he, hd, hne, hns⟩ := S'
    have hps : ps ≠ [] := fun z => by
      subst z
      simp at hz
    have hdx : hp.objs.size ≤ dx := by
      rw [sz] at hd
      exact Nat.le_trans (by omega) hd
    rw [← hz] at hns
    have J2 := Inv.laid2 (t' := t') (a := dx) (b := hp.objs.size + 1) (o := .xd (ps.zip (ord rv vs)).reverse) (u := exq (hp.objs.size + 1) C (some dx)) (h' := h') I kf hdx (Nat.le_succ _) hne ⟨_, hns, rr⟩ (exq_ok he)
    refine ⟨.ref (hp.objs.size + 1), _, J2, rfl, ?_⟩
    exact h (hp.objs.size + 1) (some dx) na (fun b z => by cases z; exact ⟨I.hok.fresh hdx, hne⟩) ⟨(fun z => nomatch z), fun z => absurd z hps⟩
end
end L3

set_option Elab.async false
set_option linter.all false
set_option maxRecDepth 100000
set_option maxHeartbeats 4000000
/-! L3i: C(..) of an own exception class as an expression; its fields; isinstance. -/
namespace L3
open PySem PySem.Spec PyProof.Rows L2
section
variable {K : PySem.W.Frag} {ρ : Rho} {H : Hp} {S : Sto}
theorem RelDs.reverse : ∀ {l : List D} {xs : List V}, RelDs K ρ H l xs → RelDs K ρ H l.reverse xs.reverse
  | [], _, h => by cases h; exact rfl
  | x :: l, _, ⟨y, ys, e, h, r⟩ => by
    subst e
    rw [List.reverse_cons, List.reverse_cons]
    exact RelDs.append (RelDs.reverse r) ⟨_, _, rfl, h, rfl⟩
theorem RelDs.ord {rv : Bool} {l : List D} {xs : List V} (h : RelDs K ρ H l xs) : RelDs K ρ H (ord rv l) (ord rv xs) := by
  cases rv with
  | false => exact h
  | true => exact h.reverse
theorem zip_fst {α β : Type} : ∀ {l : List α} {m : List β}, l.length = m.length → (l.zip m).map (·.1) = l
  | [], [], _ => rfl
  | a :: l, b :: m, h => by
    rw [List.zip_cons_cons, List.map_cons, zip_fst (by simpa using h)]
theorem zip_snd {α β : Type} : ∀ {l : List α} {m : List β}, l.length = m.length → (l.zip m).map (·.2) = m
  | [], [], _ => rfl
  | a :: l, b :: m, h => by
    rw [List.zip_cons_cons, List.map_cons, zip_snd (by simpa using h)]
theorem new_exc {C a : Addr} {d : Option Addr} {ps : List Str} {rv : Bool} {l : List D} {vs : List V} (R : Rel K ρ S H) (r : RelDs K ρ H l vs) (hl : vs.length = ps.length) (ha : H a = none) (hd : ∀ b, d = some b → H b = none ∧ b ≠ a) (hps : d = none ↔ ps = []) :
    Keeps ρ H ρ (upd (xcH H (ps.zip (ord rv vs)).reverse d) a (exq a C d)) ∧ Rel K ρ S (upd (xcH H (ps.zip (ord rv vs)).reverse d) a (exq a C d)) ∧
      RelW K ρ (upd (xcH H (ps.zip (ord rv vs)).reverse d) a (exq a C d)) (.d (.exc C ps.reverse (ord rv l).reverse)) (.ref a) := by
  have hlo : ps.length = (ord rv vs).length := hl.symm.trans ord_length.symm
  cases d with
  | none =>
    have e : ps = [] := hps.mp rfl
    subst e
    have ev : vs = [] := List.length_eq_zero_iff.mp hl
    subst ev
    have el : l = [] := by
      have := r.length
      exact List.length_eq_zero_iff.mp this
    subst el
    refine ⟨Keeps.new ha R.hid', R.new ha, a, none, [], rfl, R.fresh ha, upd_same, .inl ⟨rfl, rfl⟩, rfl, ?_⟩
    cases rv <;> exact rfl
  | some b =>
    obtain ⟨hb, ne⟩ := hd b rfl
    have ha' : upd H b (.xd (ps.zip (ord rv vs)).reverse) a = none := by rw [upd_ne (Ne.symm ne)]; exact ha
    have R1 := R.new (o := .xd (ps.zip (ord rv vs)).reverse) hb
    have k := (Keeps.new (o := .xd (ps.zip (ord rv vs)).reverse) hb R.hid').trans (Keeps.new (o := exq a C (some b)) ha' R1.hid')
    refine ⟨k, R1.new ha', a, some b, (ps.zip (ord rv vs)).reverse, rfl, R.fresh ha, upd_same, .inr ⟨b, rfl, R.fresh hb, ?_⟩, ?_, ?_⟩
    · show upd (upd H b _) a _ b = _
      rw [upd_ne ne, upd_same]
    · rw [List.map_reverse, zip_fst hlo]
    · rw [List.map_reverse, zip_snd hlo]
      exact RelDs.mono k _ r.ord.reverse
end
def mExc (C : Addr) (ps : List Str) (rv : Bool) (ml : ML) : ME := fun τ S => (ml τ S).bind fun ws S1 => if ws.length = ps.length then match dats S1 ws with
  | some (l, S2) => .ok (.d (.exc C ps.reverse (ord rv l).reverse)) S2
  | none => .bad
  else .bad
section
variable {X : Cx} {Wx : WX} {x : Str} {e : Expr} {es : List Expr} {ml : ML} {me : ME} {p pos kpos : Pos} {k j : Nat} {C fI : Addr} {ps ks : List Str} {rv : Bool} {kws : List Keyword} {nm : Option Str}
theorem rk_nil : PK X [] (LA X.K Wx mNil) := ⟨fun pos pins s σ H Q I h => pk_nil.run pos pins s σ H Q I (by
  obtain ⟨ρ, S, τ, R, st, h⟩ := h
  exact h ρ H [] Keeps.refl R .nil)⟩
theorem rk_cons (ha : PE X e (LE X.K Wx me)) (hr : PK X kws (LA X.K Wx ml)) : PK X (⟨nm, e, kpos⟩ :: kws) (LA X.K Wx (mCons me ml)) := ⟨fun pos pins s σ H Q I h => (pk_cons ha hr).run pos pins s σ H Q I (by
  obtain ⟨ρ, S, τ, R, s, h⟩ := h
  refine ⟨ρ, S, τ, R, s, ?_⟩
  have h1 := After.bindL h
  revert h1
  cases me τ S with
  | bad => exact fun z => z
  | exc C ns ds S1 => exact fun z => z
  | ok w S1 =>
    intro h1 ρ1 H1 v k1 R1 r1
    obtain ⟨ρa, Sa, wa, A, h2⟩ := h1 ρ1 H1 v k1 R1 r1
    refine ⟨ρa, Sa, τ, A.R, s.mono A.k, (AfterL.bindL h2).imp (fun vs H2 ⟨ρb, Sb, wb, kb, Rb, rb, h4⟩ => ?_) fun _ _ _ z => z⟩
    exact h4 _ _ _ Keeps.refl Rb (.cons (A.r.mono kb) rb))⟩
theorem exc_core {σ : L2.St} {H : Hp} {Q : VK} (h : LE X.K Wx (mExc C ps rv ml) σ H Q) : LA X.K Wx ml σ H fun vs H1 => vs.length = ps.length ∧ ∀ a d, H1 a = none → (∀ b, d = some b → H1 b = none ∧ b ≠ a) → (d = none ↔ ps = []) → Q (.ref a) (upd (xcH H1 (ps.zip (ord rv vs)).reverse d) a (exq a C d)) := by
  obtain ⟨ρ, S, τ, R, s, h⟩ := h
  refine ⟨ρ, S, τ, R, s, (AfterL.bind h).imp (fun vs H1 ⟨ρ1, S1, ws, k1, R1, r1, q⟩ => ?_) fun _ _ _ z => z⟩
  split at q
  · rename_i hl
    split at q
    · rename_i l S2 e
      obtain ⟨ρ2, k2, R2, d2⟩ := dats_of R1 r1 e
      have hv : vs.length = ps.length := by rw [← Paired.length r1]; exact hl
      refine ⟨hv, fun a d ha hd hps => ?_⟩
      obtain ⟨k3, R3, r3⟩ := new_exc (C := C) (rv := rv) R2 d2 hv ha hd hps
      exact q _ _ _ (k2.trans k3) R3 r3
    · exact q.elim
  · exact q.elim
/-- C(e, ..) -/
theorem re_exc (g : Gd X Wx k) (T : XC X.prog X.K C fI ps) (hj : 1 ≤ k) (hs : X.mg ("super" : Str) = none) (hm : X.mg x = some (.ref C)) (h8 : ps.length ≤ 800) (ha : PA X (e :: es) (LA X.K Wx ml)) (hrv : rv = false)
    (hb : ∀ (name qual : Str) (pr : Arguments) (body : List Stmt) (scope : Scope) (kV doc pm : Value) (an : Option Addr) (cdv ct : Value) (cc : Addr) (u0 : Value) (us : List Value), PrOk pr ps → us.length = ps.length → bindArgs (xcFd name qual pr body scope kV doc pm an cdv ct cc) ⟨u0 :: us, []⟩ = pure ((("self" : Str), u0) :: ps.zip us))
    (hg : Gl X x := by rfl) (hdb : (x == ("__debug__" : Str)) = false := by decide) (he : starEach (e :: es) X.env = (false, eval e X.env) :: starEach es X.env := by rfl) (hpl : (backTo pos (starEach es X.env)).any (·.1) = false := by rfl) : PE X (.Call (.Name x p) (e :: es) [] pos) (LE X.K Wx (mExc C ps rv ml)) := by
  subst hrv
  refine ⟨fun pins s σ H Q I h => wpAny_Call_Name_kw (ld_glob I hg hm ?_ hdb)⟩
  refine PySem.W.callWith_K (h₀ := X.base) I.ok.mod.kin T.oex.kC (thn (ha.run pos pins s σ H _ I (exc_core h)) fun us s1 ⟨vs, H1, I1, r, hl, q⟩ => ⟨I1.kIn, ?_⟩) he hpl
  exact run_exc (k := 0) (ks := []) (ws := []) (rv := false) T (g.room.mono hj) hs I1 (by rw [List.append_nil]; exact r) hl h8 (fun name qual pr body scope kV doc pm an cdv ct cc u0 hp => by rw [List.append_nil]; exact hb name qual pr body scope kV doc pm an cdv ct cc u0 us hp (r.length.symm.trans hl)) q
/-- C() -/
theorem re_exc0 (g : Gd X Wx k) (T : XC X.prog X.K C fI []) (hj : 1 ≤ k) (hs : X.mg ("super" : Str) = none) (hm : X.mg x = some (.ref C))
    (hb : ∀ (name qual : Str) (pr : Arguments) (body : List Stmt) (scope : Scope) (kV doc pm : Value) (an : Option Addr) (cdv ct : Value) (cc : Addr) (u0 : Value), PrOk pr [] → bindArgs (xcFd name qual pr body scope kV doc pm an cdv ct cc) ⟨[u0], []⟩ = pure [(("self" : Str), u0)])
    (hg : Gl X x := by rfl) (hdb : (x == ("__debug__" : Str)) = false := by decide) : PE X (.Call (.Name x p) [] [] pos) (LE X.K Wx (mExc C [] false mNil)) := by
  refine ⟨fun pins s σ H Q I h => wpAny_Call_Name_kw (ld_glob I hg hm ?_ hdb)⟩
  obtain ⟨ρ, S, τ, R, st, h⟩ := exc_core h
  obtain ⟨_, q⟩ := h ρ H [] Keeps.refl R .nil
  exact PySem.W.callWith_K0 I.kIn T.oex.kC (run_exc (k := 0) (us := []) (ks := []) (ws := []) (vs := []) (rv := false) T (g.room.mono hj) hs I .nil rfl (by decide) (fun name qual pr body scope kV doc pm an cdv ct cc u0 hp => hb name qual pr body scope kV doc pm an cdv ct cc u0 hp) q)
/-- C(f = e, ..) -/
theorem re_excK (g : Gd X Wx k) (T : XC X.prog X.K C fI ps) (hj : 1 ≤ k) (hs : X.mg ("super" : Str) = none) (hm : X.mg x = some (.ref C)) (h8 : ps.length ≤ 800) (ha : PK X kws (LA X.K Wx ml))
    (hall : (backToKw pos (keywordEach kws X.env)).all (·.1.isSome) = true := by rfl) (hks : (backToKw pos (keywordEach kws X.env)).filterMap (·.1) = ks := by rfl)
    (hb : ∀ (name qual : Str) (pr : Arguments) (body : List Stmt) (scope : Scope) (kV doc pm : Value) (an : Option Addr) (cdv ct : Value) (cc : Addr) (u0 : Value) (ws : List Value), PrOk pr ps → ws.length = ps.length → bindArgs (xcFd name qual pr body scope kV doc pm an cdv ct cc) ⟨[u0], ks.zip ws⟩ = pure ((("self" : Str), u0) :: ps.zip (ord rv ws)))
    (hg : Gl X x := by rfl) (hdb : (x == ("__debug__" : Str)) = false := by decide) (hpl : ((backTo pos (starEach [] X.env)).any (·.1) || (backToKw pos (keywordEach kws X.env)).any (·.1.isNone)) = false := by rfl) : PE X (.Call (.Name x p) [] kws pos) (LE X.K Wx (mExc C ps rv ml)) := by
  refine ⟨fun pins s σ H Q I h => wpAny_Call_Name_kw (ld_glob I hg hm ?_ hdb)⟩
  refine PySem.W.callWith_KW0 (h₀ := X.base) I.ok.mod.kin T.oex.kC hall (thn (ha.run pos pins s σ H _ I (exc_core h)) fun ws s1 ⟨vs, H1, I1, r, hl, q⟩ => ⟨I1.kIn, ?_⟩) hpl
  rw [hks]
  exact run_exc (k := 0) (us := []) (rv := rv) T (g.room.mono hj) hs I1 r hl h8 (fun name qual pr body scope kV doc pm an cdv ct cc u0 hp => hb name qual pr body scope kV doc pm an cdv ct cc u0 ws hp (r.length.symm.trans hl)) q
end
end L3

set_option Elab.async false
set_option linter.all false
set_option maxRecDepth 100000
set_option maxHeartbeats 4000000
/-! L3j: attributes of exceptions and instances; isinstance. -/
namespace L3
open PySem PySem.Spec PyProof.Rows L2
/-- what is known of the classes: own exceptions, other own classes, the names that their instances alone have, isinstance's answers -/
structure Kn where
  xs : List Addr
  os : List Addr
  at_ : List (Addr × List Str)
  isa : List (Value × List (Value × Bool))
def vEq : Value → Value → Bool
  | .type a, .type b => a == b
  | .ref a, .ref b => Nat.beq a b
  | _, _ => false
theorem vEq_eq {a b : Value} (h : vEq a b = true) : a = b := by
  unfold vEq at h
  split at h
  · rw [beq_iff_eq] at h; rw [h]
  · rw [Nat.eq_of_beq_eq_true h]
  · cases h
def vLook {β : Type} (t : Value) : List (Value × β) → Option β
  | [] => none
  | (a, b) :: r => if vEq t a then some b else vLook t r
def Kn.kind (κ : Kn) (t u : Value) : Option Bool := (vLook t κ.isa).bind (vLook u)
def Kn.isX (κ : Kn) (C : Addr) : Bool := κ.xs.any fun a => Nat.beq C a
def Kn.isO (κ : Kn) (C : Addr) : Bool := κ.os.any fun a => Nat.beq C a
def Kn.has (κ : Kn) (C : Addr) (f : Str) : Bool := κ.at_.any fun p => Nat.beq C p.1 && p.2.contains f
/-- an own class whose instances isinstance asks rightly -/
structure OwnC (K : PySem.W.Frag) (C : Addr) : Prop where
  cls : Cls K C
  ha : PySem.W.findIn K (.ref C) "__class__" = some (some (.builtin "object.__class__"))
  hm : PySem.W.mroIn K C (.type "object") = some true
structure Kn.Ok (κ : Kn) (K : PySem.W.Frag) : Prop where
  hn : PySem.W.specialIn K (.builtin "object.__class__") "__get__" = some (some (.builtin "getset_descriptor.__get__"))
  ht : PySem.W.takesIn K (.builtin "object.__class__") = some true
  exc : ∀ C ∈ κ.xs, ExcC K C
  own : ∀ C ∈ κ.os, OwnC K C
  no : ∀ p ∈ κ.at_, ∀ f ∈ p.2, PySem.W.findIn K (.ref p.1) f = some none
  isa : ∀ p ∈ κ.isa, ∀ q ∈ p.2, PySem.W.kitOne K p.1 q.1 = some q.2
section
variable {K : PySem.W.Frag} {κ : Kn} {C : Addr}
theorem vLook_mem {β : Type} {t : Value} {b : β} : ∀ {l : List (Value × β)}, vLook t l = some b → (t, b) ∈ l
  | (a, c) :: r, h => by
    unfold vLook at h
    split at h
    · rename_i e
      cases h
      rw [vEq_eq e]
      exact List.mem_cons_self
    · exact List.mem_cons_of_mem _ (vLook_mem h)
theorem Kn.Ok.kit (k : κ.Ok K) {t u : Value} {b : Bool} (h : κ.kind t u = some b) : PySem.W.kitOne K t u = some b := by
  obtain ⟨l, h1, h2⟩ := Option.bind_eq_some_iff.mp h
  exact k.isa _ (vLook_mem h1) _ (vLook_mem h2)
theorem Kn.Ok.x (k : κ.Ok K) (h : κ.isX C = true) : ExcC K C := by
  obtain ⟨a, m, e⟩ := List.any_eq_true.mp h
  rw [Nat.eq_of_beq_eq_true e]
  exact k.exc a m
theorem Kn.Ok.o (k : κ.Ok K) (h : κ.isO C = true) : OwnC K C := by
  obtain ⟨a, m, e⟩ := List.any_eq_true.mp h
  rw [Nat.eq_of_beq_eq_true e]
  exact k.own a m
theorem Kn.Ok.f (k : κ.Ok K) {f : Str} (h : κ.has C f = true) : PySem.W.findIn K (.ref C) f = some none := by
  obtain ⟨a, m, e⟩ := List.any_eq_true.mp h
  obtain ⟨e1, e2⟩ := Bool.and_eq_true_iff.mp e
  rw [Nat.eq_of_beq_eq_true e1]
  exact k.no a m f (List.contains_iff_mem.mp e2)
/-- the table's checks, for the head -/
def Kn.check (κ : Kn) (K : PySem.W.Frag) : Bool :=
  decide (PySem.W.specialIn K (.builtin "object.__class__") "__get__" = some (some (.builtin "getset_descriptor.__get__"))) && (decide (PySem.W.takesIn K (.builtin "object.__class__") = some true) &&
  ((κ.xs.all fun C => decide (PySem.W.findIn K (.ref C) "__getattribute__" = some (some (.builtin "BaseException.__getattribute__"))) && (decide (PySem.W.findIn K (.ref C) "__getattr__" = some none) && (decide (PySem.W.subIn K (.ref C) (.type "BaseException") = some true) && (PySem.W.hasDictIn K C && (decide (PySem.W.findIn K (.ref C) "__class__" = some (some (.builtin "object.__class__"))) && decide (PySem.W.mroIn K C (.type "object") = some true)))))) &&
  ((κ.os.all fun C => (PySem.W.plainGet K C Str.empty && (PySem.W.hasDictIn K C && (PySem.W.plainOver K C && decide (PySem.W.findIn K (.ref C) "__setattr__" = some (some (.builtin "object.__setattr__")))))) && (decide (PySem.W.findIn K (.ref C) "__class__" = some (some (.builtin "object.__class__"))) && decide (PySem.W.mroIn K C (.type "object") = some true))) &&
  ((κ.at_.all fun p => p.2.all fun f => decide (PySem.W.findIn K (.ref p.1) f = some none)) && (κ.isa.all fun p => p.2.all fun q => decide (PySem.W.kitOne K p.1 q.1 = some q.2))))))
theorem Kn.check_ok (h : κ.check K = true) : κ.Ok K := by
  unfold Kn.check at h
  obtain ⟨h1, h⟩ := Bool.and_eq_true_iff.mp h
  obtain ⟨h2, h⟩ := Bool.and_eq_true_iff.mp h
  obtain ⟨h3, h⟩ := Bool.and_eq_true_iff.mp h
  obtain ⟨h4, h⟩ := Bool.and_eq_true_iff.mp h
  obtain ⟨h5, h6⟩ := Bool.and_eq_true_iff.mp h
  refine ⟨of_decide_eq_true h1, of_decide_eq_true h2, fun C m => ?_, fun C m => ?_, fun p m f mf => ?_, fun p m q mq => ?_⟩
  · obtain ⟨a1, a⟩ := Bool.and_eq_true_iff.mp (List.all_eq_true.mp h3 C m)
    obtain ⟨a2, a⟩ := Bool.and_eq_true_iff.mp a
    obtain ⟨a3, a⟩ := Bool.and_eq_true_iff.mp a
    obtain ⟨a4, a⟩ := Bool.and_eq_true_iff.mp a
    obtain ⟨a5, a6⟩ := Bool.and_eq_true_iff.mp a
    exact ⟨of_decide_eq_true a1, of_decide_eq_true a2, of_decide_eq_true a3, a4, of_decide_eq_true a5, of_decide_eq_true h1, of_decide_eq_true h2, of_decide_eq_true a6⟩
  · obtain ⟨a, b⟩ := Bool.and_eq_true_iff.mp (List.all_eq_true.mp h4 C m)
    obtain ⟨a1, a⟩ := Bool.and_eq_true_iff.mp a
    obtain ⟨a2, a⟩ := Bool.and_eq_true_iff.mp a
    obtain ⟨a3, a4⟩ := Bool.and_eq_true_iff.mp a
    obtain ⟨b1, b2⟩ := Bool.and_eq_true_iff.mp b
    exact ⟨⟨a1, a2, a3, of_decide_eq_true a4⟩, of_decide_eq_true b1, of_decide_eq_true b2⟩
  · exact of_decide_eq_true (List.all_eq_true.mp (List.all_eq_true.mp h5 p m) f mf)
  · exact of_decide_eq_true (List.all_eq_true.mp (List.all_eq_true.mp h6 p m) q mq)
end

/-! ### attributes -/
def fldD (ns : List Str) (ds : List D) (f : Str) : Option D := (ns.zip ds).lookup f
def attW (κ : Kn) (f : Str) (S : Sto) : W → Option D
  | .d (.exc C ns ds) => if κ.isX C && κ.has C f then fldD ns ds f else none
  | .d (.obj C ns ds) => if κ.isO C && κ.has C f then fldD ns ds f else none
  | .ref i => match S[i]? with
    | some (some (.ins C ns ds)) => if κ.isO C && κ.has C f then fldD ns ds f else none
    | _ => none
  | _ => none
def mAtt (κ : Kn) (f : Str) (m : ME) : ME := fun τ S => (m τ S).bind fun w S1 => match attW κ f S1 w with
  | some x => .ok (.d x) S1
  | none => .bad
section
variable {X : Cx} {Wx : WX} {κ : Kn}
theorem fld_rel {K : PySem.W.Frag} {ρ : Rho} {H : Hp} : ∀ {ns : List Str} {ds : List D} {fs : List (Str × V)} {f : Str} {x : D}, fs.map (·.1) = ns → RelDs K ρ H ds (fs.map (·.2)) → fldD ns ds f = some x → ∃ v, fs.lookup f = some v ∧ RelD K ρ H x v
  | _, _, [], f, x, e1, e2, e3 => by
    subst e1
    cases e3
  | ns, ds, (a, v) :: fs, f, x, e1, e2, e3 => by
    subst e1
    cases ds with
    | nil => cases e2
    | cons d ds =>
      obtain ⟨y, ys, e, r1, r2⟩ := e2
      rw [List.map_cons] at e
      obtain ⟨rfl, rfl⟩ := List.cons.inj e
      unfold fldD at e3
      simp only [List.map_cons, List.zip_cons_cons, List.lookup] at e3 ⊢
      cases q : (f == a) with
      | true =>
        rw [q] at e3
        cases e3
        exact ⟨v, rfl, r1⟩
      | false =>
        rw [q] at e3
        have e4 : fldD (fs.map fun p : Str × V => p.1) ds f = some x := e3
        exact fld_rel rfl r2 e4
theorem re_att {e : Expr} {me : ME} {f : Str} {pos : Pos} (k : κ.Ok X.K) (he : PE X e (LE X.K Wx me)) (hb : attributeBase e f X.env (eval e X.env) = eval e X.env := by rfl) : PE X (.Attribute e f pos) (LE X.K Wx (mAtt κ f me)) := by
  refine ⟨fun pins s σ H Q I h => ?_⟩
  obtain ⟨ρ, S, τ, R, st, h⟩ := h
  refine attr_of hb (thn (he.run pins s σ H _ I ⟨ρ, S, τ, R, st, After.bind h⟩) fun u s1 ⟨v, H1, I1, rv, ρ1, S1, w, A, q⟩ => ?_)
  split at q
  · rename_i x ex
    have ins : ∀ {C : Addr} {ns : List Str} {ds : List D} {p dx : Addr} {fs : List (Str × V)}, (κ.isO C && κ.has C f) = true → fldD ns ds f = some x → v = .ref p → H1 p = some (.ins C dx fs) → fs.map (·.1) = ns → RelDs X.K ρ1 H1 ds (fs.map (·.2)) →
        wpAny (model X.prog X.w) X.A (getAttr u f true) (EP X pins σ Q) X.xe s1 := fun {C ns ds p dx fs} hc hf ev hp e1 e2 => by
      obtain ⟨c1, c2⟩ := Bool.and_eq_true_iff.mp hc
      subst ev
      obtain rfl : u = Value.ref p := rv
      obtain ⟨y, hl, ry⟩ := fld_rel e1 e2 hf
      exact getattr_ok I1 hp (k.o c1).cls (k.f c2) hl fun u' s2 I2 ru => ⟨y, H1, I2, ru, q _ _ _ Keeps.refl A.R ry⟩
    cases w with
    | ref i =>
      unfold attW at ex
      simp only at ex
      split at ex
      · rename_i C ns ds e1
        split at ex
        · rename_i hc
          obtain ⟨p, ev, _, dx, fs, e2, e3, r2⟩ := A.R.ref e1 A.r
          exact ins hc ex ev e2 e3 r2
        · cases ex
      · cases ex
    | d y =>
      unfold attW at ex
      cases y with
      | obj C ns ds =>
        simp only at ex
        split at ex
        · rename_i hc
          obtain ⟨p, dx, fs, ev, _, e2, e3, r2⟩ := A.r
          exact ins hc ex ev e2 e3 r2
        · cases ex
      | exc C ns ds =>
        simp only at ex
        split at ex
        · rename_i hc
          obtain ⟨c1, c2⟩ := Bool.and_eq_true_iff.mp hc
          obtain ⟨p, d, fs, ev, _, e2, xd, e3, r2⟩ := A.r
          subst ev
          obtain rfl : u = Value.ref p := rv
          obtain ⟨vs, sl, ho⟩ := exq_at I1.hok e2
          obtain ⟨y, hl, ry⟩ := fld_rel e3 r2 ex
          rcases xd with ⟨_, z⟩ | ⟨dd, z, _, z2⟩
          · subst z; cases hl
          · subst z
            have hx : ObjOk X.prog X.w H1 s1.heap dd (.xd fs) := I1.hok dd _ z2
            obtain ⟨mA, hns, hr⟩ := hx
            obtain ⟨od, hod, hl2⟩ := lookIn_ns hns
            obtain ⟨u', hu, ru⟩ := RelO.some_of (v := y) (o := mA f) (by rw [← hl]; exact hr f)
            have J : PySem.W.InstAt s1.heap p (⟨.ref C, some dd, .fields vs, sl⟩ : Obj) C (some od) := ⟨ho, rfl, rfl, hod⟩
            have xc := k.x c1
            exact HandSPX.exc_get I1.kIn J xc.hg xc.hk xc.hs (PySem.W.findObj_own xc.hd (k.f c2) rfl (by rw [hl2, hu])) (handed_of ru) ⟨y, H1, I1.tok _, ru, q _ _ _ Keeps.refl A.R ry⟩
        · cases ex
      | _ => cases ex
  · exact q.elim
end

/-! ### isinstance -/
def clsVal : W → Option Value
  | .d (.ty n) => some (.type n)
  | .d (.st a) => some (.ref a)
  | _ => none
def typW (κ : Kn) (S : Sto) : W → Option Value
  | .d .non => some (.type "NoneType")
  | .d (.bl _) => some (.type "bool")
  | .d (.int _) => some (.type "int")
  | .d (.str _) => some (.type "str")
  | .d (.tup _) => some (.type "tuple")
  | .d (.lst _) => some (.type "list")
  | .d (.fzl _) => some (.type "list")
  | .d (.dct _ _) => some (.type "dict")
  | .d (.obj C _ _) => if κ.isO C then some (.ref C) else none
  | .d (.exc C _ _) => if κ.isX C then some (.ref C) else none
  | .ref i => match S[i]? with
    | some (some (.lst _)) => some (.type "list")
    | some (some (.dct _ _)) => some (.type "dict")
    | some (some (.ins C _ _)) => if κ.isO C then some (.ref C) else none
    | _ => none
  | _ => none
def bIsi (κ : Kn) : List W → Sto → Res W := fun ws S => match ws with
  | [x, c] => match typW κ S x, clsVal c with
    | some t, some u => match κ.kind t u with
      | some b => .ok (.d (.bl b)) S
      | none => .bad
    | _, _ => .bad
  | _ => .bad
theorem kitx_excD {K : PySem.W.Frag} {x D : Addr} (E : ExcC K D) : PySem.W.KitX K (.ref x) (.ref D) (fun h => ∃ ox od, PySem.W.InstAt h x ox D od) where
  ty := fun _ _ _ ⟨_, _, I⟩ => I.type
  it := fun _ _ X _ => by
    obtain ⟨cdD, hcD, _⟩ := PySem.W.any_some E.hd
    unfold PySem.W.clsIn at hcD
    split at hcD
    · rename_i c' d' cd' sl' ho
      intro A' Q' E' s' k q
      unfold isType loadHead
      exact wpAny_bind (wpAny_loadPart (k _ _ (X _ _ ho)) (wpAny_pure q))
    · cases hcD
  ne := fun h tp dd its n sl X htp => by
    obtain ⟨cdD, hcD, _⟩ := PySem.W.any_some E.hd
    refine Bool.eq_false_iff.mpr fun q => ?_
    have e : D = tp := Value.ref.inj (beq_iff_eq.mp q)
    subst e
    unfold PySem.W.clsIn at hcD
    split at hcD
    · rename_i c' d' cd' sl' ho
      have z := (X _ _ ho).symm.trans htp
      cases z
    · cases hcD
  ca := fun X ⟨ox, od, I⟩ k => PySem.W.kx_classE X I E.hg E.hk E.hs (PySem.W.findObj_dataE (by obtain ⟨cd, hc, _⟩ := PySem.W.any_some E.hd; rw [hc]; rfl) E.ha E.hn E.ht) E.hm k
section
variable {X : Cx} {κ : Kn} {pins : List (Addr × Obj)} {σ : L2.St} {H : Hp} {s : Shared}
theorem sqt_ty {K : PySem.W.Frag} {p : Addr} {xs : List V} (h : SqT K H p xs) : TyX K H (.ref p) (.type "tuple") := by
  rcases h with (h | ⟨o, h⟩) | ⟨o, its, n, h1, h2, h3⟩
  · exact .base (.tup h)
  · exact .fTuple h
  · exact .kTuple h1 h2
theorem fzl_ty {K : PySem.W.Frag} {p : Addr} {xs : List V} (h : FzlAt K H p xs) : TyX K H (.ref p) (.type "list") := by
  rcases h with ⟨o, h⟩ | ⟨o, its, n, h1, h2, _⟩
  · exact .base (.frz h)
  · exact .kList h1 h2
theorem kit_w {ρ : Rho} {S : Sto} {w : W} {v : V} {u t : Value} (k : κ.Ok X.K) (I : Inv X pins σ H s) (R : Rel X.K ρ S H) (r : RelW X.K ρ H w v) (rv : RelV v u) (e : typW κ S w = some t) : ∃ Z : Heap → Prop, PySem.W.KitX X.K u t Z ∧ Z s.heap ∧ u ≠ .builtin "__main__.__loader__#opaque" := by
  have own : ∀ {C p dx : Addr} {fs : List (Str × V)}, κ.isO C = true → H p = some (.ins C dx fs) → TyX X.K H (.ref p) (.ref C) := fun hc hp => .base (.ins hp (k.o hc).cls (k.o hc).ha k.hn k.ht (k.o hc).hm)
  cases w with
  | ref i =>
    unfold typW at e
    simp only at e
    split at e
    · rename_i l e1
      cases e
      obtain ⟨p, rfl, _, xs, e2, r2⟩ := R.ref e1 r
      exact kit_of I rv (.base (.lst e2))
    · rename_i ks l e1
      cases e
      obtain ⟨p, rfl, _, kvs, e2, e3, r2⟩ := R.ref e1 r
      exact kit_of I rv (.base (.dK e2))
    · rename_i C ns ds e1
      split at e
      · rename_i hc
        cases e
        obtain ⟨p, rfl, _, dx, fs, e2, e3, r2⟩ := R.ref e1 r
        exact kit_of I rv (own hc e2)
      · cases e
    · cases e
  | d x =>
    cases x with
    | non => cases e; cases r; exact kit_of I rv (.base .non)
    | bl b => cases e; cases r; exact kit_of I rv (.base (.bl _))
    | int i => cases e; cases r; exact kit_of I rv (.base (.int _))
    | str y => cases e; cases r; exact kit_of I rv (.base (.str _))
    | tup l => cases e; obtain ⟨p, xs, rfl, h, _⟩ := r; exact kit_of I rv (sqt_ty h)
    | lst l => cases e; obtain ⟨p, xs, rfl, h, _⟩ := r; exact kit_of I rv (.base (.lst h.2))
    | fzl l => cases e; obtain ⟨p, xs, rfl, h, _⟩ := r; exact kit_of I rv (fzl_ty h)
    | dct ks l => cases e; obtain ⟨p, kvs, rfl, _, h, _⟩ := r; exact kit_of I rv (.base (.dK h))
    | obj C ns ds =>
      unfold typW at e
      simp only at e
      split at e
      · rename_i hc
        cases e
        obtain ⟨p, dx, fs, rfl, _, h, _⟩ := r
        exact kit_of I rv (own hc h)
      · cases e
    | exc C ns ds =>
      unfold typW at e
      simp only at e
      split at e
      · rename_i hc
        cases e
        obtain ⟨p, d, fs, rfl, _, h, xd, _⟩ := r
        obtain rfl : u = Value.ref p := rv
        obtain ⟨vs, sl, ho⟩ := exq_at I.hok h
        refine ⟨_, kitx_excD (k.x hc), ?_, fun z => nomatch z⟩
        rcases xd with ⟨z, _⟩ | ⟨dd, z, _, z2⟩
        · subst z
          exact ⟨_, none, ho, rfl, rfl, trivial⟩
        · subst z
          obtain ⟨mA, ⟨od, _, _, hod, _⟩, _⟩ := (show ObjOk X.prog X.w H s.heap dd (.xd fs) from I.hok dd _ z2)
          exact ⟨_, some od, ho, rfl, rfl, hod⟩
      · cases e
    | _ => cases e
theorem cls_w {K : PySem.W.Frag} {ρ : Rho} {w : W} {v : V} {u c : Value} (r : RelW K ρ H w v) (rv : RelV v u) (e : clsVal w = some c) : u = c := by
  unfold clsVal at e
  split at e
  · cases e; cases r; exact rv
  · cases e; cases r; exact rv
  · cases e
theorem c_isi (k : κ.Ok X.K) : CallR X (.builtin "isinstance") (liftC X.K (bIsi κ)) := by
  intro pins s σ H xs us Q I rv h
  obtain ⟨ρ, S, ws, w, S', R, r, e, q⟩ := h
  unfold bIsi at e
  split at e
  · rename_i x c
    split at e
    · rename_i t u et eu
      split at e
      · rename_i b eb
        cases e
        cases r with
        | cons r1 r =>
          cases r with
          | cons r2 r =>
            cases r
            cases rv with
            | cons v1 rv =>
              cases rv with
              | cons v2 rv =>
                cases rv
                have ec := cls_w r2 v2 eu
                subst ec
                obtain ⟨Z, kz, hz, hx⟩ := kit_w k I R r1 v1 et
                exact PySem.W.kia_one kz I.kIn hz (k.kit eb) hx fun tk => ⟨.bl b, H, I.tok tk, rfl, q ρ H _ Keeps.refl R rfl⟩
      · cases e
    · cases e
  · cases e
end
end L3

set_option Elab.async false
set_option linter.all false
set_option maxRecDepth 100000
set_option maxHeartbeats 4000000
/-! L3k: repr of data; {}. -/
namespace L3
open PySem PySem.Spec PyProof.Rows L2
section
variable {K : PySem.W.Frag} {P : Program} {w : World} {ρ : Rho} {S : Sto} {H : Hp} {h : Heap}
theorem sqt_obj (X : K.In h) (ok : HOk P w H h) {p : Addr} {xs : List V} (q : SqT K H p xs) : ∃ o its n, h.get? p = some o ∧ o.cls = .type "tuple" ∧ o.data = .seq its n ∧ Vals xs its.toList := by
  rcases q with (q | ⟨ob, q⟩) | ⟨o, its, n, h1, h2, h3, _, h5⟩
  · obtain ⟨_, its, rv, o, h1, h2, n, h3⟩ := (show ObjOk P w H h p (.tup xs) from ok p _ q)
    exact ⟨o, its.toArray, n, h1, h2, h3, by simpa using rv⟩
  · obtain ⟨_, _, its, rv, o, h1, h2, n, h3⟩ := (show ObjOk P w H h p (.frz ob (.tup xs)) from ok p _ q)
    exact ⟨o, its.toArray, n, h1, h2, h3, by simpa using rv⟩
  · exact ⟨o, its, n, X _ _ h1, h2, h3, h5⟩
theorem sql_obj (X : K.In h) (ok : HOk P w H h) {p : Addr} {xs : List V} (q : SqL K H p xs) : ∃ o its n, h.get? p = some o ∧ o.cls = .type "list" ∧ o.data = .seq its n ∧ Vals xs its.toList := by
  rcases q with (q | ⟨ob, q⟩) | ⟨o, its, n, h1, h2, _, h3, _, h5⟩
  · obtain ⟨_, its, n, rv, h1⟩ := (show ObjOk P w H h p (.lst xs) from ok p _ q)
    exact ⟨_, its.toArray, n, h1, rfl, rfl, by simpa using rv⟩
  · obtain ⟨_, _, its, n, rv, h1⟩ := (show ObjOk P w H h p (.frz ob (.lst xs)) from ok p _ q)
    exact ⟨_, its.toArray, n, h1, rfl, rfl, by simpa using rv⟩
  · exact ⟨o, its, n, X _ _ h1, h2, h3, h5⟩
mutual
theorem reads_of (X : K.In h) (ok : HOk P w H h) : ∀ (x : D) {v : V} {u : Value} {d : PyData}, RelD K ρ H x v → RelV v u → pyD x = some d → ∃ as, Reads h u d as
  | .non, _, _, _, r, rv, e => by unfold pyD at e; cases e; cases r; cases rv; exact ⟨_, .none⟩
  | .bl b, _, _, _, r, rv, e => by unfold pyD at e; cases e; cases r; cases rv; exact ⟨_, .bool b⟩
  | .int i, _, _, _, r, rv, e => by unfold pyD at e; cases e; cases r; obtain ⟨t, rfl⟩ := rv; exact ⟨_, .int i t⟩
  | .str z, _, _, _, r, rv, e => by unfold pyD at e; cases e; cases r; obtain ⟨t, rfl⟩ := rv; exact ⟨_, .str z t⟩
  | .tup l, _, u, _, r, rv, e => by
    unfold pyD at e
    obtain ⟨p, xs, rfl, q, r2⟩ := r
    obtain rfl : u = Value.ref p := rv
    split at e
    · rename_i ds e1
      cases e
      obtain ⟨o, its, n, h1, h2, h3, rv⟩ := sqt_obj X ok q
      obtain ⟨as, z⟩ := reads_ofs X ok l r2 rv e1
      exact ⟨_, .tuple h1 h2 h3 z⟩
    · cases e
  | .lst l, _, u, _, r, rv, e => by
    unfold pyD at e
    obtain ⟨p, xs, rfl, q, r2⟩ := r
    obtain rfl : u = Value.ref p := rv
    split at e
    · rename_i ds e1
      cases e
      obtain ⟨o, its, n, h1, h2, h3, rv⟩ := sql_obj X ok q.sq
      obtain ⟨as, z⟩ := reads_ofs X ok l r2 rv e1
      exact ⟨_, .list h1 h2 h3 z⟩
    · cases e
  | .fzl l, _, u, _, r, rv, e => by
    unfold pyD at e
    obtain ⟨p, xs, rfl, q, r2⟩ := r
    obtain rfl : u = Value.ref p := rv
    split at e
    · rename_i ds e1
      cases e
      obtain ⟨o, its, n, h1, h2, h3, rv⟩ := sql_obj X ok q.sq
      obtain ⟨as, z⟩ := reads_ofs X ok l r2 rv e1
      exact ⟨_, .list h1 h2 h3 z⟩
    · cases e
  | .ty _, _, _, _, _, _, e => by unfold pyD at e; cases e
  | .st _, _, _, _, _, _, e => by unfold pyD at e; cases e
  | .dct _ _, _, _, _, _, _, e => by unfold pyD at e; cases e
  | .obj _ _ _, _, _, _, _, _, e => by unfold pyD at e; cases e
  | .exc _ _ _, _, _, _, _, _, e => by unfold pyD at e; cases e
theorem reads_ofs (X : K.In h) (ok : HOk P w H h) : ∀ (l : List D) {xs : List V} {us : List Value} {ds : List PyData}, RelDs K ρ H l xs → Vals xs us → pyDs l = some ds → ∃ as, ReadsAll h us ds as
  | [], _, _, _, r, rv, e => by unfold pyDs at e; cases e; cases r; cases rv; exact ⟨_, .nil⟩
  | x :: l, _, _, _, r, rv, e => by
    unfold pyDs at e
    obtain ⟨y, ys, rfl, q, r⟩ := r
    cases rv with
    | cons v1 v2 =>
      split at e
      · rename_i d ds e1 e2
        cases e
        obtain ⟨as, z1⟩ := reads_of X ok x q v1 e1
        obtain ⟨bs, z2⟩ := reads_ofs X ok l r v2 e2
        exact ⟨_, .cons z1 z2⟩
      · cases e
end
end
mutual
theorem pyD_nd : ∀ (x : D) (d : PyData), pyD x = some d → d.hasDict = false
  | .non, _, e => by unfold pyD at e; cases e; rfl
  | .bl b, _, e => by unfold pyD at e; cases e; rfl
  | .int i, _, e => by unfold pyD at e; cases e; rfl
  | .str z, _, e => by unfold pyD at e; cases e; rfl
  | .tup l, _, e => by
    unfold pyD at e
    split at e
    · rename_i ds e1; cases e; simp only [PyData.hasDict]; exact pyDs_nd l ds e1
    · cases e
  | .lst l, _, e => by
    unfold pyD at e
    split at e
    · rename_i ds e1; cases e; simp only [PyData.hasDict]; exact pyDs_nd l ds e1
    · cases e
  | .fzl l, _, e => by
    unfold pyD at e
    split at e
    · rename_i ds e1; cases e; simp only [PyData.hasDict]; exact pyDs_nd l ds e1
    · cases e
  | .ty _, _, e => by unfold pyD at e; cases e
  | .st _, _, e => by unfold pyD at e; cases e
  | .dct _ _, _, e => by unfold pyD at e; cases e
  | .obj _ _ _, _, e => by unfold pyD at e; cases e
  | .exc _ _ _, _, e => by unfold pyD at e; cases e
theorem pyDs_nd : ∀ (l : List D) (ds : List PyData), pyDs l = some ds → PyData.hasDictAll ds = false
  | [], _, e => by unfold pyDs at e; cases e; rfl
  | x :: l, _, e => by
    unfold pyDs at e
    split at e
    · rename_i d ds e1 e2
      cases e
      simp only [PyData.hasDictAll, pyD_nd x d e1, pyDs_nd l ds e2, Bool.or_self]
    · cases e
end
/-- what is shown: data without dicts, or {} -/
def pyR (S : Sto) (w : W) : Option PyData := match w with
  | .d (.dct [] []) => some (.dict [])
  | .d x => pyD x
  | .ref i => match S[i]? with
    | some (some (.lst l)) => match pyDs l with
      | some ds => some (.list ds)
      | none => none
    | some (some (.dct [] [])) => some (.dict [])
    | _ => none
def canShow (d : PyData) : Bool := d.showable && (decide (d.depth ≤ 60) && decide (d.shown.length ≤ sizeLine))
def bRepr : List W → Sto → Res W := fun ws S => match ws with
  | [w] => match pyR S w with
    | some d => if canShow d then .ok (.d (.str d.shown)) S else .bad
    | none => .bad
  | _ => .bad
section
variable {X : Cx} {pins : List (Addr × Obj)} {σ : L2.St} {H : Hp} {s : Shared}
theorem readsR {ρ : Rho} {S : Sto} {w : W} {v : V} {u : Value} {d : PyData} (I : Inv X pins σ H s) (R : Rel X.K ρ S H) (r : RelW X.K ρ H w v) (rv : RelV v u) (e : pyR S w = some d) : ∃ as, Reads s.heap u d as ∧ (d.hasDict = true → sysModules ∉ as) := by
  have emp : ∀ {p : Addr} {kvs : List (Key × V)}, v = .ref p → H p = some (.dK kvs) → kvs.map (·.1) = [] → ∃ as, Reads s.heap u (.dict []) as ∧ ((PyData.dict []).hasDict = true → sysModules ∉ as) := fun {p kvs} ev hp hk => by
    subst ev
    obtain rfl : u = Value.ref p := rv
    have hk0 : kvs = [] := List.map_eq_nil_iff.mp hk
    subst hk0
    obtain ⟨_, hs, vs, kv, o, es, ep, h1, h2, h3, _, h4, _⟩ := (show ObjOk X.prog X.w H s.heap p (.dK []) from I.hok p _ hp)
    cases kv
    have he : es.toList = [] := by
      cases z : es.toList with
      | nil => rfl
      | cons a r => rw [z] at h4; cases h4
    refine ⟨_, .dict h1 h2.1 h3 (kvs := []) (by rw [he]; exact .nil) (by rw [he]; exact .nil), fun _ hm => ?_⟩
    have : sysModules = p := by simpa using hm
    rw [this] at hs
    simp at hs
  have dat : ∀ {x : D}, RelD X.K ρ H x v → pyD x = some d → ∃ as, Reads s.heap u d as ∧ (d.hasDict = true → sysModules ∉ as) := fun {x} rx ex => by
    obtain ⟨as, z⟩ := reads_of I.kIn I.hok x rx rv ex
    have nd : ∀ (x : D) (d : PyData), pyD x = some d → d.hasDict = false := pyD_nd
    exact ⟨as, z, fun q => by rw [nd x d ex] at q; cases q⟩
  unfold pyR at e
  split at e
  · cases e
    obtain ⟨p, kvs, ev, _, hp, hk, _⟩ := r
    exact emp ev hp hk
  · exact dat r e
  · split at e
    · rename_i i l e1
      split at e
      · rename_i ds e2
        cases e
        obtain ⟨p, ev, _, xs, e3, r2⟩ := R.ref e1 r
        subst ev
        obtain rfl : u = Value.ref p := rv
        obtain ⟨o, its, n, h1, h2, h3, rv⟩ := sql_obj I.kIn I.hok (SqL.of (K := X.K) e3)
        obtain ⟨as, z⟩ := reads_ofs I.kIn I.hok l r2 rv e2
        exact ⟨_, .list h1 h2 h3 z, fun q => by rw [show (PyData.list ds).hasDict = PyData.hasDictAll ds from rfl, pyDs_nd l ds e2] at q; cases q⟩
      · cases e
    · rename_i i e1
      cases e
      obtain ⟨p, ev, _, kvs, e3, e4, _⟩ := R.ref e1 r
      exact emp ev e3 e4
    · cases e
theorem c_repr {Wx : WX} {k : Nat} (g : Gd X Wx k) : CallR X (.builtin "repr") (liftC X.K bRepr) := by
  intro pins s σ H xs us Q I rv h
  obtain ⟨ρ, S, ws, w, S', R, r, e, q⟩ := h
  unfold bRepr at e
  split at e
  · rename_i w0
    split at e
    · rename_i d ed
      split at e
      · rename_i hs
        cases e
        obtain ⟨h1, h2⟩ := Bool.and_eq_true_iff.mp hs
        obtain ⟨h2, h3⟩ := Bool.and_eq_true_iff.mp h2
        have h2 := of_decide_eq_true h2
        have h3 := of_decide_eq_true h3
        cases r with
        | cons r0 r =>
          cases r
          cases rv with
          | cons v0 rv =>
            cases rv
            obtain ⟨as, rd, hm⟩ := readsR I R r0 v0 ed
            have hu := g.units
            have fin : ∀ (h' : Heap) (u tk : Nat), (∀ b o, s.heap.get? b = some o → h'.get? b = some o) → EP X pins σ Q (.str d.shown u) { s with heap := h', toks := tk } := fun h' u tk kp =>
              ⟨.str d.shown, H, I.kept (t' := tk) kp, ⟨u, rfl⟩, q ρ H _ Keeps.refl R rfl⟩
            cases rd with
            | none => exact P.repr_of_none (fin s.heap _ _ fun _ _ z => z)
            | bool b => exact P.repr_of_bool (fin s.heap _ _ fun _ _ z => z)
            | int i t => exact P.repr_of_int (of_decide_eq_true (by simpa [PyData.showable] using h1)) (fin s.heap _ _ fun _ _ z => z)
            | str x t => exact P.repr_of_str (fin s.heap _ _ fun _ _ z => z) h3
            | list a b c d2 => exact repr_of_reads' (.list a b c d2) h1 hm g.gs (Nat.lt_of_le_of_lt (Nat.add_le_add_left (Nat.succ_le_succ h2) _) (Nat.lt_of_le_of_lt (Nat.add_le_add_left (by decide) _) hu)) (fun _ _ z => z) (fun h' u tk kp => fin h' u tk kp) h3
            | tuple a b c d2 => exact repr_of_reads' (.tuple a b c d2) h1 hm g.gs (Nat.lt_of_le_of_lt (Nat.add_le_add_left (Nat.succ_le_succ h2) _) (Nat.lt_of_le_of_lt (Nat.add_le_add_left (by decide) _) hu)) (fun _ _ z => z) (fun h' u tk kp => fin h' u tk kp) h3
            | dict a b c d2 d3 => exact repr_of_reads' (.dict a b c d2 d3) h1 hm g.gs (Nat.lt_of_le_of_lt (Nat.add_le_add_left (Nat.succ_le_succ h2) _) (Nat.lt_of_le_of_lt (Nat.add_le_add_left (by decide) _) hu)) (fun _ _ z => z) (fun h' u tk kp => fin h' u tk kp) h3
      · cases e
    · cases e
  · cases e
end
end L3

set_option Elab.async false
set_option linter.all false
set_option maxRecDepth 100000
set_option maxHeartbeats 4000000
/-! L3l: checks of the head; the end. -/
namespace L3
open PySem PySem.Spec PyProof.Rows L2
theorem band {a b : Bool} (h : (a && b) = true) : a = true ∧ b = true := Bool.and_eq_true_iff.mp h
/-- the class object of an own exception over ValueError -/
def oexB (K : PySem.W.Frag) (C : Addr) : Bool := (match K.lookup C with
  | some ⟨.type "type", _, .cls cd, sl⟩ => (match cd.mro, sl.toList with
    | .ref C' :: bm, [_, _, _, _, some (.builtin n), _] => decide (C' = C) && (decide (n = "ValueError.__new__") && (!cd.hasDel && (cd.hasDict && HandSPX.refsVE bm)))
    | _, _ => false)
  | _ => false) && (decide (PySem.W.findIn K (.ref C) "__setattr__" = some (some (.builtin "object.__setattr__"))) && (decide (PySem.W.subIn K (.ref C) (.type "BaseException") = some true) && (decide (PySem.W.typeIn K (.ref C) = some (.type "type")) && PySem.W.keepIn K (.ref C))))
theorem oexB_ok {K : PySem.W.Frag} {C : Addr} (h : oexB K C = true) : OexC K C := by
  obtain ⟨h0, h⟩ := band h
  obtain ⟨h1, h⟩ := band h
  obtain ⟨h2, h⟩ := band h
  obtain ⟨h3, h4⟩ := band h
  refine ⟨?_, of_decide_eq_true h1, of_decide_eq_true h2, of_decide_eq_true h3, h4⟩
  split at h0
  · rename_i dd cd sl ho
    split at h0
    · rename_i C' bm k0 k1 k2 k3 n k5 hm hs
      obtain ⟨a1, h0⟩ := band h0
      obtain ⟨a2, h0⟩ := band h0
      obtain ⟨a3, h0⟩ := band h0
      obtain ⟨a4, a5⟩ := band h0
      have a1 := of_decide_eq_true a1
      have a2 := of_decide_eq_true a2
      obtain ⟨nm, bs, mro, ns, qn, hd, sn, sb, ab, col, del⟩ := cd
      obtain ⟨sl⟩ := sl
      dsimp only at hm hs a3 a4
      subst hm hs a1 a2 a4
      have a3 : del = false := by simpa using a3
      subst a3
      exact ⟨_, _, _, _, _, _, _, _, _, _, _, _, _, _, _, ho, a5⟩
    · cases h0
  · cases h0
def prB (pr : Arguments) (ps : List Str) : Bool := pr.posonlyargs.isEmpty && (decide (pr.args.map (·.arg) = ("self" : Str) :: ps) && (pr.vararg.isNone && (pr.kwonlyargs.isEmpty && pr.kwarg.isNone)))
theorem prB_ok {pr : Arguments} {ps : List Str} (h : prB pr ps = true) : PrOk pr ps := by
  obtain ⟨h1, h⟩ := band h
  obtain ⟨h2, h⟩ := band h
  obtain ⟨h3, h⟩ := band h
  obtain ⟨h4, h5⟩ := band h
  exact ⟨List.isEmpty_iff.mp h1, of_decide_eq_true h2, Option.isNone_iff_eq_none.mp h3, List.isEmpty_iff.mp h4, Option.isNone_iff_eq_none.mp h5⟩
def cellAt (K : PySem.W.Frag) (cc : Addr) : Option Addr := match K.lookup cc with
  | some ⟨_, _, .cell (some (.ref D)), _⟩ => some D
  | _ => none
theorem cellAt_eq {K : PySem.W.Frag} {cc D : Addr} (h : cellAt K cc = some D) : ∃ cl cld csl, K.lookup cc = some ⟨cl, cld, .cell (some (.ref D)), csl⟩ := by
  unfold cellAt at h
  split at h
  · rename_i e
    cases h
    exact ⟨_, _, _, e⟩
  · cases h
def fileAt (K : PySem.W.Frag) (c : Addr) : Option Str := match K.lookup c with
  | some ⟨_, _, .fields vs, _⟩ => (match vs[2]? with
    | some (Value.str f _) => some f
    | _ => none)
  | _ => none
theorem fileAt_eq {K : PySem.W.Frag} {c : Addr} {f : Str} (h : fileAt K c = some f) : ∃ cl cd vs sl t, K.lookup c = some ⟨cl, cd, .fields vs, sl⟩ ∧ vs[2]? = some (Value.str f t) := by
  unfold fileAt at h
  split at h
  · rename_i e
    split at h
    · rename_i e2
      cases h
      exact ⟨_, _, _, _, _, e, e2⟩
    · cases h
  · cases h
def cloOf : List (Str × Addr) → Option Addr
  | [(x, cc)] => if x = ("__class__" : Str) then some cc else none
  | _ => none
theorem cloOf_eq {l : List (Str × Addr)} {cc : Addr} (h : cloOf l = some cc) : l = [(("__class__" : Str), cc)] := by
  unfold cloOf at h
  split at h
  · split at h
    · rename_i e
      cases h
      rw [e]
    · cases h
  · cases h
def refOf : Value → Option Addr
  | .ref a => some a
  | _ => none
theorem refOf_eq {v : Value} {a : Addr} (h : refOf v = some a) : v = .ref a := by
  unfold refOf at h
  split at h
  · cases h; rfl
  · cases h
def stmtsOf : FuncBody → Option (Stmt × List Stmt)
  | .stmts (st :: r) => some (st, r)
  | _ => none
theorem stmtsOf_eq {b : FuncBody} {st : Stmt} {r : List Stmt} (h : stmtsOf b = some (st, r)) : b = .stmts (st :: r) := by
  unfold stmtsOf at h
  split at h
  · cases h; rfl
  · cases h
def noneB : Value → Bool
  | .none => true
  | _ => false
theorem noneB_eq {v : Value} (h : noneB v = true) : v = .none := by
  unfold noneB at h
  split at h
  · rfl
  · cases h
def fdAt (K : PySem.W.Frag) (f : Addr) : Option FuncData := match K.lookup f with
  | some ⟨_, _, .func fd, _⟩ => some fd
  | _ => none
theorem fdAt_eq {K : PySem.W.Frag} {f : Addr} {fd : FuncData} (h : fdAt K f = some fd) : ∃ oc od sl, K.lookup f = some ⟨oc, od, .func fd, sl⟩ := by
  unfold fdAt at h
  split at h
  · rename_i e
    cases h
    exact ⟨_, _, _, e⟩
  · cases h
def scopeB (sc : Scope) (ps : List Str) : Bool := decide (sc.kind = .function) && ((sc.names.all fun x => decide (x.2 ≠ .cell)) && (!sc.isCoroutine && (!sc.isGenerator && (decide (sc.names.lookup ("super" : Str) = some .globalImplicit) && (decide (sc.names.lookup ("__class__" : Str) = some .free) && (decide (sc.names.lookup ("self" : Str) = some .local) && ps.all fun p => decide (sc.names.lookup p = some .local)))))))
def optB {α : Type} (o : Option α) (f : α → Bool) : Bool := match o with
  | some a => f a
  | none => false
theorem optB_eq {α : Type} {o : Option α} {f : α → Bool} (h : optB o f = true) : ∃ a, o = some a ∧ f a = true := by
  cases o with
  | none => cases h
  | some a => exact ⟨a, rfl, h⟩
def fdB (P : Program) (K : PySem.W.Frag) (C : Addr) (ps : List Str) (fd : FuncData) : Bool := prB fd.params ps && (noneB fd.defaults && (decide (fd.globals = mainGlobals) && (decide (fd.builtins = builtinsNs) && (scopeB fd.scope ps &&
  (optB (stmtsOf fd.body) (fun b => L3x.supOf b.1 && L3x.restOk b.2 ps) && (optB (cloOf fd.closure) (fun cc => decide (cellAt K cc = some C)) && optB (refOf fd.code) fun c => PySem.W.codeIn K (.ref c) fd.qualname && optB (fileAt K c) fun f => (P.main.file : Str) == f))))))
theorem fdB_ok {P : Program} {K : PySem.W.Frag} {C fI : Addr} {ps : List Str} {fd : FuncData} (h : fdB P K C ps fd = true) (lk : fdAt K fI = some fd) (h8 : ps.length ≤ 800) (hnd : (("self" : Str) :: ps).Nodup)
    (hpar : ∀ p ∈ ps, (p == ("__debug__" : Str)) = false ∧ PySem.W.findIn K (.ref C) p = some none) (h1 : PySem.W.nsIn K PySem.cStatics "thirdparty.any" = some none) (h2 : PySem.W.ks_superIn K C C "__init__" = some (some (.builtin "ValueError.__init__"))) (h3 : PySem.W.subIn K (.ref C) (.type "ValueError") = some true) (h4 : PySem.W.mroIn K C (.ref C) = some true) (h5 : (P.main.scope.names.lookup ("super" : Str)).isSome = false) :
    L3x.InitS P K C fI ps fd ∧ PrOk fd.params ps ∧ fd.defaults = .none := by
  obtain ⟨b1, h⟩ := band h
  obtain ⟨b2, h⟩ := band h
  obtain ⟨b3, h⟩ := band h
  obtain ⟨b4, h⟩ := band h
  obtain ⟨b5, h⟩ := band h
  obtain ⟨b6, h⟩ := band h
  obtain ⟨b7, b8⟩ := band h
  obtain ⟨c1, b5⟩ := band b5
  obtain ⟨c2, b5⟩ := band b5
  obtain ⟨c3, b5⟩ := band b5
  obtain ⟨c4, b5⟩ := band b5
  obtain ⟨c5, b5⟩ := band b5
  obtain ⟨c6, b5⟩ := band b5
  obtain ⟨c7, c8⟩ := band b5
  have hpr := prB_ok b1
  have e2 := noneB_eq b2
  have e3 := of_decide_eq_true b3
  have e4 := of_decide_eq_true b4
  obtain ⟨⟨st, rest⟩, e6, e6'⟩ := optB_eq b6
  have f6 := stmtsOf_eq e6
  obtain ⟨d1, d2⟩ := band e6'
  obtain ⟨cc, e7, e7'⟩ := optB_eq b7
  have f7 := cloOf_eq e7
  obtain ⟨cl, cld, csl, hcell⟩ := cellAt_eq (of_decide_eq_true e7')
  obtain ⟨c, e8, e8'⟩ := optB_eq b8
  have f8 := refOf_eq e8
  obtain ⟨d3, d4⟩ := band e8'
  obtain ⟨file, d5, d6⟩ := optB_eq d4
  obtain ⟨ccl, cdd, vs, ccs, tf, hcode, hvs⟩ := fileAt_eq d5
  obtain ⟨oc, od, osl, lk⟩ := fdAt_eq lk
  obtain ⟨a0, ar, ea, a1, a2⟩ := List.map_eq_cons_iff.mp hpr.ar
  have hhead : (fd.params.posonlyargs ++ fd.params.args).head? = some a0 := by
    rw [hpr.po, ea]
    rfl
  refine ⟨⟨⟨oc, od, osl, fd.name, fd.qualname, fd.params, st, rest, fd.scope, fd.defaults, fd.kwdefaults, fd.doc, fd.pyModule, fd.annotations, c, fd.closureTuple, cc, ccl, cdd, vs, ccs, file, tf, cl, cld, csl, a0, ?_, lk, d3, hcode, hvs, d6, hcell, d1, d2, hhead, a1, of_decide_eq_true c1,
    fun x hx => of_decide_eq_true (List.all_eq_true.mp c2 x hx), by simpa using c3, by simpa using c4, of_decide_eq_true c5, of_decide_eq_true c6, of_decide_eq_true c7, fun p hp => of_decide_eq_true (List.all_eq_true.mp c8 p hp), h8, hnd⟩, hpar, h1, h2, h3, h4, h5⟩, hpr, e2⟩
  obtain ⟨n1, n2, n3, n4, n5, n6, n7, n8, n9, n10, n11, n12, n13, n14, n15⟩ := fd
  dsimp only at e3 e4 f6 f7 f8 ⊢
  rw [e3, e4, f6, f7, f8]
def xcB (P : Program) (K : PySem.W.Frag) (C fI : Addr) (ps : List Str) : Bool := oexB K C && (optB (fdAt K fI) (fdB P K C ps) && (decide (PySem.W.findIn K (.ref C) "__init__" = some (some (.ref fI))) && (decide (PySem.W.typeIn K (.ref fI) = some (.type "function")) && (decide (ps.length ≤ 800) && (decide ((("self" : Str) :: ps).Nodup) &&
  ((ps.all fun p => !(p == ("__debug__" : Str)) && decide (PySem.W.findIn K (.ref C) p = some none)) && (decide (PySem.W.nsIn K PySem.cStatics "thirdparty.any" = some none) && (decide (PySem.W.ks_superIn K C C "__init__" = some (some (.builtin "ValueError.__init__"))) &&
  (decide (PySem.W.subIn K (.ref C) (.type "ValueError") = some true) && (decide (PySem.W.mroIn K C (.ref C) = some true) && (P.main.scope.names.lookup ("super" : Str)).isNone))))))))))
theorem xcB_ok {P : Program} {K : PySem.W.Frag} {C fI : Addr} {ps : List Str} (h : xcB P K C fI ps = true) : XC P K C fI ps := by
  obtain ⟨h1, h⟩ := band h
  obtain ⟨h2, h⟩ := band h
  obtain ⟨h3, h⟩ := band h
  obtain ⟨h4, h⟩ := band h
  obtain ⟨h5, h⟩ := band h
  obtain ⟨h6, h⟩ := band h
  obtain ⟨h7, h⟩ := band h
  obtain ⟨h8, h⟩ := band h
  obtain ⟨h9, h⟩ := band h
  obtain ⟨h10, h⟩ := band h
  obtain ⟨h11, h12⟩ := band h
  obtain ⟨fd, lk, h2⟩ := optB_eq h2
  refine ⟨oexB_ok h1, ⟨fd, fdB_ok h2 lk (of_decide_eq_true h5) (of_decide_eq_true h6) (fun p hp => ?_) (of_decide_eq_true h8) (of_decide_eq_true h9) (of_decide_eq_true h10) (of_decide_eq_true h11) ?_⟩, of_decide_eq_true h3, of_decide_eq_true h4⟩
  · obtain ⟨z1, z2⟩ := band (List.all_eq_true.mp h7 p hp)
    exact ⟨by simpa using z1, of_decide_eq_true z2⟩
  · rw [Option.isNone_iff_eq_none.mp h12]
    rfl
end L3

set_option Elab.async false
set_option linter.all false
set_option maxRecDepth 100000
set_option maxHeartbeats 4000000
/-! L3m: {}; the law's end. -/
namespace L3
open PySem PySem.Spec PyProof.Rows L2
def mDict0 : ME := fun _ S => .ok (.d (.dct [] [])) S
theorem re_dict0 {X : Cx} {Wx : WX} {pos : Pos} : PE X (.Dict [] [] pos) (LE X.K Wx mDict0) := pe_dnewK.mono fun σ H Q h => by
  obtain ⟨ρ, S, τ, R, s, h⟩ := h
  exact fun p hp => h ρ _ (.ref p) (Keeps.new hp R.hid') (R.new hp) ⟨p, [], rfl, R.fresh hp, upd_same, rfl, rfl⟩
/-- how a def's arguments are bound, no defaults -/
theorem bindsE {K : PySem.W.Frag} {x qual : Str} {params : Arguments} {body : List Stmt} {scope : Scope} {f : Addr} {fd : FuncData} {ps : List Str} (F : FunD K x qual params body scope [] [] f fd)
    (h : ∀ (kV doc pm : Value) (an : Option Addr) (cdv ct : Value) (us : List Value), us.length = ps.length → bindArgs (PySem.W.fnOf x qual params body scope .none kV doc pm an cdv ct) ⟨us, []⟩ = pure (ps.zip us)) : ∀ us : List Value, us.length = ps.length → bindArgs fd ⟨us, []⟩ = pure (ps.zip us) := by
  obtain ⟨oc, od, dV, kV, doc, pm, an, cdv, ct, osl, rfl, lk, hcd, hD, _⟩ := F.ex
  rcases hD with ⟨_, rfl⟩ | ⟨z, _⟩
  · exact h kV doc pm an cdv ct
  · exact absurd rfl z
/-- the law's def, called by the claim -/
theorem law_m {P : Program} {w : World} {K : PySem.W.Frag} {mg mb : Str → Option Value} {k : Nat} {fa ad : Addr} {m : List W → Sto → Res W} {s1 : Shared} {vs : List Value} {ns : List Int}
    (hK : K.In s1.heap) (hG : s1.heap.Ns mainGlobals mg) (hB : s1.heap.Ns builtinsNs mb) (hB2 : ∀ x : Str, x ≠ "__name__" → mb x = bootBuiltins x) (lim : s1.heap.NoLimit) (hgen : s1.gens = #[])
    (oa : s1.heap.get? ad = some { cls := .type "list", data := .seq vs.toArray }) (ia : IntsAre vs ns) (len : ns.length ≤ sizeLine) (room : Room k callerA)
    (F : ∀ base : Heap, K.In base → base.Ns mainGlobals mg → FnM P w K mg base k fa 1 m) (law : ∃ S', m [.d (.fzl (ns.map D.int))] [] = .ok (.d (.bl true)) S') :
    codeAny (model P w) callerA (.call (.ref fa) ⟨[.ref ad], []⟩) (fun r s' => r = .ok (.ret (.bool true)) ∧ OldK s1.heap s'.heap ∧ s'.os = s1.os ∧ AllBare s'.gens) s1 := by
  have rv := vals_ints ia
  have lenV := ia.length
  have rd : ∀ {ρ : Rho} {H : Hp} {l : List Int}, RelDs K ρ H (l.map D.int) (l.map V.int) := fun {ρ H l} => by
    induction l with
    | nil => exact rfl
    | cons i l ih => exact ⟨_, _, rfl, rfl, ih⟩
  obtain ⟨S', hm⟩ := law
  have sp : ∀ H : Hp, FzlAt K H ad (ns.map V.int) → spM K 1 m [.ref ad] H (fun v _ => v = .bl true) fun _ _ _ => False := fun H hf =>
    ⟨rfl, ⟨[], []⟩, [], [.d (.fzl (ns.map D.int))], ⟨rfl, fun i j p e => by simp at e, fun i p e => by simp at e, fun i o e => by simp at e, fun p m => nomatch m⟩, .cons ⟨ad, _, rfl, hf, rd⟩ .nil, by
      rw [hm]
      exact fun ρ' H' v _ _ r => r⟩
  have core : ∀ H : Hp, L2.Only H → FzlAt K H ad (ns.map V.int) → HOk P w H s1.heap → (∀ b, H b ≠ none → b = ad) → (H ad ≠ none → K.lookup ad = none) →
      codeAny (model P w) callerA (.call (.ref fa) ⟨[.ref ad], []⟩) (fun r s' => r = .ok (.ret (.bool true)) ∧ OldK s1.heap s'.heap ∧ s'.os = s1.os ∧ AllBare s'.gens) s1 := by
    intro H onl hf ok only kn
    have low : ∀ {b : Addr} {o : Obj}, s1.heap.get? b = some o → H b = none → (hidT s1.heap H).get? b = some o := fun z n => hidT_get z n
    have noD : ∀ {b : Addr} {o : Obj} {es : Array DictEntry} {ep : Nat}, s1.heap.get? b = some o → o.data = .dict es ep → H b = none := fun {b o es ep} z dt => by
      cases q : H b with
      | none => rfl
      | some u =>
        obtain rfl : b = ad := only b (by rw [q]; simp)
        rw [oa] at z
        cases z
        exact nomatch (show Data.seq vs.toArray _ = Data.dict es ep from dt)
    have nsD : ∀ {b : Addr} {mp : Str → Option Value}, s1.heap.Ns b mp → (hidT s1.heap H).Ns b mp := fun {b mp} ⟨o, es, ep, z, dt, r⟩ => ⟨o, es, ep, low z (noD z dt), dt, r⟩
    have inK : K.In (hidT s1.heap H) := fun b o z => low (hK b o z) (by
      cases q : H b with
      | none => rfl
      | some u =>
        obtain rfl : b = ad := only b (by rw [q]; simp)
        rw [kn (by rw [q]; simp)] at z
        cases z)
    have md : Mod K mg (hidT s1.heap H) := ⟨inK, nsD hG, ⟨mb, nsD hB, hB2⟩, let ⟨mc, z1, z2⟩ := lim; ⟨mc, nsD z1, z2⟩⟩
    have env : Env0 P w K mg (hidT s1.heap H) callerA [] s1 H := ⟨rfl, md, fun b o z => of_hidT z, Nat.le_of_eq (hidT_size _ _), trivial, fun b hb => absurd (show b ∈ ([] : List Addr) from hb) (by simp), ok, .of_eq hgen⟩
    refine codeAny_mono (F _ inK (nsD hG) callerA [] s1 H [.ref ad] [.ref ad] _ _ rfl room env (.cons rfl .nil) (sp H hf)) fun r s' h => ?_
    cases r with
    | error e =>
      obtain ⟨_, _, _, _, _, _, _, _, _, _, _, _, z⟩ := h
      exact z.elim
    | ok fl =>
      cases fl with
      | next => exact False.elim h
      | brk => exact False.elim h
      | cont => exact False.elim h
      | ret u =>
        obtain ⟨v, H', os, bare, un, ok', r', q⟩ := h
        obtain rfl : v = .bl true := q
        obtain rfl : u = Value.bool true := r'
        refine ⟨rfl, OldK.of_keep fun b o z => ?_, os, bare⟩
        cases q : H b with
        | none => exact un.keep b o z q (fun y => absurd (show b ∈ ([] : List Addr) from y) (by simp)) (by simp)
        | some u =>
          rcases onl b with y | ⟨ob, xs, y⟩
          · rw [q] at y; cases y
          · obtain ⟨e1, _⟩ := ok b _ y
            obtain ⟨e2, _⟩ := ok' b _ (un.frzs b ob _ y)
            rw [z] at e1
            cases e1
            exact e2
  cases hk : K.lookup ad with
  | some o =>
    have e := hK ad o hk
    rw [oa] at e
    cases e
    exact core (fun _ => none) (fun _ => .inl rfl) (.inr ⟨_, vs.toArray, _, hk, rfl, rfl, rfl, by rw [List.size_toArray, lenV]; exact len, by simpa using rv⟩) (fun b u z => nomatch (show (none : Option HO) = some u from z)) (fun b z => absurd rfl z) fun z => absurd rfl z
  | none =>
    refine core (fun b => if b = ad then some (.frz { cls := .type "list", data := .seq vs.toArray } (.lst (ns.map V.int))) else none) (fun b => ?_) (.inl ⟨{ cls := .type "list", data := .seq vs.toArray }, if_pos rfl⟩) (fun b u z => ?_) (fun b z => ?_) fun _ => hk
    · by_cases hb : b = ad
      · exact .inr ⟨_, _, if_pos hb⟩
      · exact .inl (if_neg hb)
    · by_cases hb : b = ad
      · cases (if_pos hb).symm.trans z
        subst hb
        exact ⟨oa, by rw [List.length_map]; exact len, vs, _, rv, oa⟩
      · cases (if_neg hb).symm.trans z
    · by_cases hb : b = ad
      · exact hb
      · exact absurd (if_neg hb) z
theorem walk_m {l : PySem.W.OpenLaw} {n k : Nat} {q : Program} {loose : List Str} {XP : (Str → Option Value) → Heap → Prop} {YP : World → Heap → Prop} {d : DefRec} {m : List W → Sto → Res W}
    (hn : l.most = some n) (hn2 : n ≤ sizeLine) (hdf : d.params.defaults = []) (room : Room k callerA)
    (F : ∀ (w : World) (mg : Str → Option Value) (fa : Addr) (h : Heap), YP w h → h.Ns mainGlobals mg → mg d.name = some (.ref fa) → ∃ K : PySem.W.Frag, K.In h ∧ ∀ base : Heap, K.In base → base.Ns mainGlobals mg → FnM l.prog w K mg base k fa 1 m)
    (law : ∀ ns : List Int, ns.length ≤ n → ∃ S', m [.d (.fzl (ns.map D.int))] [] = .ok (.d (.bl true)) S') : PySem.W.WalkO q loose XP YP l.row.toRowW d [] (fun f vs => PySem.call f vs) := by
  refine Att.attach_call hn hdf fun w s0 s1 mg mb fa o pm cd doc ad vs ns G Y ho hd hcd hmg hobj hints hlen hgen => ?_
  obtain ⟨K, hK, hF⟩ := F w mg fa _ Y G.T.g hmg
  exact law_m hK G.T.g G.T.b G.T.builtins G.T.nolimit hgen hobj hints (Nat.le_trans hlen hn2) room hF (law ns hlen)
/-! ### the head's Hook: own checks, the defs -/
def frY (n : Nat) (g : Addr → Option Obj) : PySem.W.Frag := He.frG g (PySem.cStatics :: He.asD g n)
abbrev AlY : Type := He.AlD × Bool
def obsY (n : Nat) (fn : List He.DefD) (ex : PySem.W.Frag → Bool) (g : Addr → Option Obj) : AlY := (fun K => (He.obsD [] fn K, ex K)) (frY n g)
/-- what the head tells -/
structure SaysY (fn : List He.DefD) (ex : PySem.W.Frag → Bool) (K : PySem.W.Frag) : Prop where
  d : He.SaysD [] fn K
  more : ex K = true
def hookY (n : Nat) (fn : List He.DefD) (ex : PySem.W.Frag → Bool) : PySem.W.Hook where
  α := AlY
  obs := fun s => obsY n fn ex s.heap.get?
  val := fun _ => (He.valD fn, true)
  says := fun _ h => ∃ K : PySem.W.Frag, K.In h ∧ SaysY fn ex K
  of := fun _ s e => ⟨frY n s.heap.get?, He.frG_in, congrArg (fun z : AlY => z.1) e, congrArg (fun z : AlY => z.2) e⟩
  keeps := fun _ _ _ ⟨K, hK, c⟩ k => ⟨K, PySem.W.Frag.In.keeps hK k, c⟩
theorem obsY_eq {n : Nat} {fn : List He.DefD} {ex : PySem.W.Frag → Bool} {g : Addr → Option Obj} {s : Shared} (h : ∀ a, g a = s.heap.get? a) : obsY n fn ex g = (hookY n fn ex).obs s := by
  have e : g = s.heap.get? := funext h
  rw [e] <;> rfl
end L3

set_option Elab.async false
set_option linter.all false
set_option maxRecDepth 100000
set_option maxHeartbeats 4000000
/-! L3n: the laws' pen. -/
namespace L3
open PySem PySem.Spec PyProof.Rows L2
structure DrawC where
  a : Int
  b : Int
  p : Int
  q : Int
  r : Int
  e : Int
  p2 : Int
  s : Int
  t : Int
  u : Int
  e2 : Int
  p3 : Int
  h : Int
def mDraw (c : DrawC) : MS :=
  mSeq (mIf (mTst (mBin opGt (mBin opIdx (mVar 0) (mD (.int 2))) (mD (.int 0)))) (mSeq (mSet 5 (mBin opMod (mCB bInt (mCons (mBin opIdx (mVar 0) (mD (.int 2))) (mNil))) (mVar 1)))
    (mSeq (mSetI (mVar 0) (mD (.int 2)) (mBin opFdv (mCB bInt (mCons (mBin opIdx (mVar 0) (mD (.int 2))) (mNil))) (mVar 1)))
    (mRet (mVar 5)))) (mSkip))
    (mSeq (mSet 2 (mBin opIdx (mVar 0) (mD (.int 1))))
    (mSeq (mSetI (mVar 0) (mD (.int 1)) (mBin opAdd (mVar 2) (mD (.int 1))))
    (mSeq (mSet 3 (mBin opAdd (mBin opMul (mD (.int c.a)) (mVar 2)) (mD (.int c.b))))
    (mSeq (mIf (mTst (mBin opNe (mBin opIdx (mVar 0) (mD (.int 0))) (mLst (mNil)))) (mSet 3 (mBin opIdx (mBin opIdx (mVar 0) (mD (.int 0))) (mBin opMod (mCB bInt (mCons (mVar 2) (mNil))) (mCB bLen (mCons (mBin opIdx (mVar 0) (mD (.int 0))) (mNil)))))) (mSkip))
    (mSeq (mIf (mAndB (mTst (mBin opLt (mVar 2) (mCB bLen (mCons (mBin opIdx (mVar 0) (mD (.int 0))) (mNil))))) (mTst (mBin opGe (mCB bAbs (mCons (mVar 3) (mNil))) (mBin opPow (mD (.int 10)) (mD (.int 18)))))) (mSeq (mSet 6 (mBin opAdd (mBin opMul (mD (.int 2)) (mBin opSub (mCB bAbs (mCons (mVar 3) (mNil))) (mBin opPow (mD (.int 10)) (mD (.int 18))))) (mCB bInt (mCons (mBin opLt (mVar 3) (mD (.int 0))) (mNil)))))
    (mSeq (mSetI (mVar 0) (mD (.int 2)) (mBin opFdv (mCB bInt (mCons (mVar 6) (mNil))) (mVar 1)))
    (mRet (mBin opMod (mCB bInt (mCons (mVar 6) (mNil))) (mVar 1))))) (mSkip))
    (mSeq (mSet 4 (mBin opMod (mCB bInt (mCons (mBin opPow (mBin opAdd (mBin opAdd (mBin opMod (mCB bInt (mCons (mVar 3) (mNil))) (mD (.int c.p))) (mBin opMul (mD (.int c.q)) (mVar 2))) (mD (.int c.r))) (mD (.int c.e))) (mNil))) (mD (.int c.p2))))
    (mSeq (mSet 4 (mBin opMod (mCB bInt (mCons (mBin opPow (mBin opAdd (mBin opAdd (mBin opMul (mVar 4) (mBin opAdd (mBin opMul (mD (.int 2)) (mVar 2)) (mD (.int c.s)))) (mBin opMul (mBin opMul (mD (.int c.t)) (mVar 2)) (mVar 2))) (mD (.int c.u))) (mD (.int c.e2))) (mNil))) (mD (.int c.p3))))
    (mRet (mBin opMod (mCB bInt (mCons (mBin opFdv (mVar 4) (mD (.int c.h))) (mNil))) (mVar 1))))))))))
structure DrawC.Ok (c : DrawC) : Prop where
  a : 0 ≤ c.a ∧ c.a < 1048576
  b : 0 ≤ c.b ∧ c.b < 1048576
  p : 0 < c.p ∧ c.p < 4294967296
  q : 0 ≤ c.q ∧ c.q < 1048576
  r : 0 ≤ c.r ∧ c.r < 1048576
  e : 0 ≤ c.e ∧ c.e ≤ 1000
  p2 : 0 < c.p2 ∧ c.p2 < 4294967296
  s : 0 ≤ c.s ∧ c.s < 1048576
  t : 0 ≤ c.t ∧ c.t < 1048576
  u : 0 ≤ c.u ∧ c.u < 1048576
  e2 : 0 ≤ c.e2 ∧ c.e2 ≤ 1000
  p3 : 0 < c.p3 ∧ c.p3 < 4294967296
  h : 0 < c.h ∧ c.h < 1073741824
def penO (cells : List Int) (t g : Int) : Option SO := some (.lst [.lst (cells.map D.int), .int t, .int g])
theorem atI_0 {α : Type} {x y z : α} : atI [x, y, z] 0 = some x := rfl
theorem atI_1 {α : Type} {x y z : α} : atI [x, y, z] 1 = some y := rfl
theorem atI_2 {α : Type} {x y z : α} : atI [x, y, z] 2 = some z := rfl
section
variable {S : Sto} {i : Nat} {cells : List Int} {t g : Int}
theorem idx_0 (h : S[i]? = some (penO cells t g)) : opIdx (.ref i) (.d (.int 0)) S = .ok (.d (.lst (cells.map D.int))) S := by
  unfold opIdx idxW itemsOf
  simp only [h, penO, atI_0]
theorem idx_1 (h : S[i]? = some (penO cells t g)) : opIdx (.ref i) (.d (.int 1)) S = .ok (.d (.int t)) S := by
  unfold opIdx idxW itemsOf
  simp only [h, penO, atI_1]
theorem idx_2 (h : S[i]? = some (penO cells t g)) : opIdx (.ref i) (.d (.int 2)) S = .ok (.d (.int g)) S := by
  unfold opIdx idxW itemsOf
  simp only [h, penO, atI_2]
theorem set_pen (h : S[i]? = some (penO cells t g)) (x : Option SO) : (S.set i x)[i]? = some x := by
  rw [List.getElem?_set_self]
  exact (List.getElem?_eq_some_iff.mp h).1
theorem pyDs_ints : ∀ cells : List Int, pyDs (cells.map D.int) = some (cells.map PyData.int)
  | [] => by simp [pyDs]
  | x :: l => by simp [pyDs, pyD, pyDs_ints l]
theorem ints_flat : ∀ l : List Int, PyData.canLayAll0 (l.map PyData.int) = true ∧ PyData.depthAll (l.map PyData.int) = 0
  | [] => ⟨by simp [PyData.canLayAll0], by simp [PyData.depthAll]⟩
  | x :: l => by
    obtain ⟨h1, h2⟩ := ints_flat l
    exact ⟨by simp [PyData.canLayAll0, PyData.canLay0, h1], by simp [PyData.depthAll, PyData.depth, h2]⟩
theorem ne_nil : opNe (.d (.lst (cells.map D.int))) (.d (.lst [])) S = .ok (.d (.bl (!cells.isEmpty))) S := by
  obtain ⟨h1, h2⟩ := ints_flat cells
  have e1 : SeqAt.shaped (.list (cells.map PyData.int)) = true := by simp [SeqAt.shaped, PyData.canLay0, PyData.depth, h1, h2]
  have e2 : SeqAt.shaped (.list []) = true := by simp [SeqAt.shaped, PyData.canLay0, PyData.depth, PyData.canLayAll0, PyData.depthAll]
  have e3 : PyData.eqv (.list (cells.map PyData.int)) (.list []) = cells.isEmpty := by cases cells <;> simp [PyData.eqv, PyData.eqvAll]
  unfold opNe eqW pyW
  simp [pyD, pyDs_ints, pyDs, e1, e2, e3]
theorem len_cells (hl : cells.length ≤ 100000) : bLen [.d (.lst (cells.map D.int))] S = .ok (.d (.int cells.length)) S := by
  simp [bLen, lenOf, hl]
theorem cell_at {k : Int} (h0 : 0 ≤ k) (hk : k < cells.length) : ∃ z, opIdx (.d (.lst (cells.map D.int))) (.d (.int k)) S = .ok (.d (.int z)) S := by
  obtain ⟨m, rfl⟩ := Int.eq_ofNat_of_zero_le h0
  have hm : m < cells.length := by omega
  refine ⟨cells[m], ?_⟩
  have e : ixN (cells.map D.int).length (m : Int) = some m := by
    unfold ixN
    simp [hm]
  unfold opIdx idxW
  simp only [itemsOf, atI, e]
  simp [hm]
theorem take_set {x : Option SO} : (S.set i x).take S.length = S.set i x := List.take_of_length_le (by simp)
end
theorem small_nat {x : Int} (h0 : 0 ≤ x) (h1 : x < 18446744073709551616) : x.natAbs < 18446744073709551616 := by omega
theorem mul_lt {x y m n : Int} (hx : 0 ≤ x) (hx2 : x < m) (hy : 0 ≤ y) (hy2 : y < n) : 0 ≤ x * y ∧ x * y < m * n := by
  refine ⟨Int.mul_nonneg hx hy, ?_⟩
  have h1 : x * y ≤ x * n := Int.mul_le_mul_of_nonneg_left (by omega) hx
  have h2 : x * n < m * n := Int.mul_lt_mul_of_pos_right hx2 (by omega)
  omega
/-- the mixing, from the cell on -/
def mMix (c : DrawC) : MS :=
    (mSeq (mSet 4 (mBin opMod (mCB bInt (mCons (mBin opPow (mBin opAdd (mBin opAdd (mBin opMod (mCB bInt (mCons (mVar 3) (mNil))) (mD (.int c.p))) (mBin opMul (mD (.int c.q)) (mVar 2))) (mD (.int c.r))) (mD (.int c.e))) (mNil))) (mD (.int c.p2))))
    (mSeq (mSet 4 (mBin opMod (mCB bInt (mCons (mBin opPow (mBin opAdd (mBin opAdd (mBin opMul (mVar 4) (mBin opAdd (mBin opMul (mD (.int 2)) (mVar 2)) (mD (.int c.s)))) (mBin opMul (mBin opMul (mD (.int c.t)) (mVar 2)) (mVar 2))) (mD (.int c.u))) (mD (.int c.e2))) (mNil))) (mD (.int c.p3))))
    (mRet (mBin opMod (mCB bInt (mCons (mBin opFdv (mVar 4) (mD (.int c.h))) (mNil))) (mVar 1)))))
theorem mix_ok {c : DrawC} (ok : c.Ok) {S : Sto} {i : Nat} {t z many : Int} (hm : 0 < many ∧ many < 1073741824) (ht : 0 ≤ t ∧ t < 1048576) {w5 w6 : Option W} :
    ∃ d, 0 ≤ d ∧ d < many ∧ mMix c [some (.ref i), some (.d (.int many)), some (.d (.int t)), some (.d (.int z)), none, w5, w6] S = .ok (.rt (.d (.int d))) S := by
  obtain ⟨ha, hb, hp, hq, hr, he, hp2, hs, htt, hu, he2, hp3, hh⟩ := ok
  have z1 := Int.emod_nonneg z (show c.p ≠ 0 by omega)
  have z2 := Int.emod_lt_of_pos z hp.1
  obtain ⟨q1, q2⟩ := mul_lt hq.1 hq.2 ht.1 ht.2
  have n1 : (z % c.p + c.q * t + c.r).natAbs < 18446744073709551616 := small_nat (by omega) (by omega)
  generalize hx1 : (z % c.p + c.q * t + c.r) ^ c.e.toNat % c.p2 = x1
  have x10 : 0 ≤ x1 := by rw [← hx1]; exact Int.emod_nonneg _ (by omega)
  have x11 : x1 < 4294967296 := by
    have := Int.emod_lt_of_pos ((z % c.p + c.q * t + c.r) ^ c.e.toNat) hp2.1
    omega
  obtain ⟨y1, y2⟩ := mul_lt x10 x11 (show 0 ≤ 2 * t + c.s by omega) (show 2 * t + c.s < 4194304 by omega)
  obtain ⟨v1, v2⟩ := mul_lt htt.1 htt.2 ht.1 ht.2
  obtain ⟨v3, v4⟩ := mul_lt v1 v2 ht.1 ht.2
  have n2 : (x1 * (2 * t + c.s) + c.t * t * t + c.u).natAbs < 18446744073709551616 := small_nat (by omega) (by omega)
  generalize hx2 : (x1 * (2 * t + c.s) + c.t * t * t + c.u) ^ c.e2.toNat % c.p3 = x2
  refine ⟨x2 / c.h % many, Int.emod_nonneg _ (by omega), Int.emod_lt_of_pos _ hm.1, ?_⟩
  have t64 : (-18446744073709551616 < t ∧ t < 18446744073709551616) := by omega
  have x64 : (-18446744073709551616 < x1 ∧ x1 < 18446744073709551616) := by omega
  have q64 : (-18446744073709551616 < c.q ∧ c.q < 18446744073709551616) := by omega
  have tt64 : (-18446744073709551616 < c.t ∧ c.t < 18446744073709551616) := by omega
  simp [mMix, mSeq, mBin, mSet, mRet, mVar, mD, mCB, mCons, mNil, Res.bind, Res.quiet, Res.then_, RS.andThen, bInt, opMod, opFdv, opPow, addW, mulW, hp.1, hp2.1, hp3.1, hh.1, hh.2, hm.1, he.1, he.2, he2.1, he2.2, q64, t64, x64, tt64, n1, n2, hx1, hx2]
def pA : MS := mIf (mTst (mBin opGt (mBin opIdx (mVar 0) (mD (.int 2))) (mD (.int 0)))) (mSeq (mSet 5 (mBin opMod (mCB bInt (mCons (mBin opIdx (mVar 0) (mD (.int 2))) (mNil))) (mVar 1)))
    (mSeq (mSetI (mVar 0) (mD (.int 2)) (mBin opFdv (mCB bInt (mCons (mBin opIdx (mVar 0) (mD (.int 2))) (mNil))) (mVar 1)))
    (mRet (mVar 5)))) (mSkip)
def pB : MS := mSet 2 (mBin opIdx (mVar 0) (mD (.int 1)))
def pB2 : MS := mSetI (mVar 0) (mD (.int 1)) (mBin opAdd (mVar 2) (mD (.int 1)))
def pC (c : DrawC) : MS := mSet 3 (mBin opAdd (mBin opMul (mD (.int c.a)) (mVar 2)) (mD (.int c.b)))
def pD : MS := mIf (mTst (mBin opNe (mBin opIdx (mVar 0) (mD (.int 0))) (mLst (mNil)))) (mSet 3 (mBin opIdx (mBin opIdx (mVar 0) (mD (.int 0))) (mBin opMod (mCB bInt (mCons (mVar 2) (mNil))) (mCB bLen (mCons (mBin opIdx (mVar 0) (mD (.int 0))) (mNil)))))) (mSkip)
def pE : MS := mIf (mAndB (mTst (mBin opLt (mVar 2) (mCB bLen (mCons (mBin opIdx (mVar 0) (mD (.int 0))) (mNil))))) (mTst (mBin opGe (mCB bAbs (mCons (mVar 3) (mNil))) (mBin opPow (mD (.int 10)) (mD (.int 18)))))) (mSeq (mSet 6 (mBin opAdd (mBin opMul (mD (.int 2)) (mBin opSub (mCB bAbs (mCons (mVar 3) (mNil))) (mBin opPow (mD (.int 10)) (mD (.int 18))))) (mCB bInt (mCons (mBin opLt (mVar 3) (mD (.int 0))) (mNil)))))
    (mSeq (mSetI (mVar 0) (mD (.int 2)) (mBin opFdv (mCB bInt (mCons (mVar 6) (mNil))) (mVar 1)))
    (mRet (mBin opMod (mCB bInt (mCons (mVar 6) (mNil))) (mVar 1))))) (mSkip)
theorem mDraw_eq (c : DrawC) : mDraw c = mSeq pA (mSeq pB (mSeq pB2 (mSeq (pC c) (mSeq pD (mSeq pE (mMix c)))))) := rfl
theorem seq_nx {a b : MS} {τ τ1 : Tau} {S S1 : Sto} (h : a τ S = .ok (.nx τ1) S1) : mSeq a b τ S = b τ1 S1 := by simp [mSeq, h, RS.andThen]
theorem seq_rt {a b : MS} {τ : Tau} {S S1 : Sto} {w : W} (h : a τ S = .ok (.rt w) S1) : mSeq a b τ S = .ok (.rt w) S1 := by simp [mSeq, h, RS.andThen]
theorem p18 {S : Sto} : opPow (.d (.int 10)) (.d (.int 18)) S = .ok (.d (.int 1000000000000000000)) S := by
  show (if (0 : Int) ≤ 18 ∧ (18 : Int) ≤ 1000 ∧ (10 : Int).natAbs < 2 ^ 64 then Res.ok (W.d (D.int ((10 : Int) ^ (18 : Int).toNat))) S else Res.bad) = _
  rw [if_pos (by decide)]
  rfl
/-- what a draw promises -/
theorem draw_ok {c : DrawC} (ok : c.Ok) {S : Sto} {i : Nat} {cells : List Int} {t g many : Int} (hS : S[i]? = some (penO cells t g)) (hm : 0 < many ∧ many < 1073741824) (ht : 0 ≤ t ∧ t < 1048576) (hg : 0 ≤ g) (hl : cells.length ≤ 63) :
    ∃ d t' g', 0 ≤ d ∧ d < many ∧ t ≤ t' ∧ t' ≤ t + 1 ∧ 0 ≤ g' ∧ mFn 7 (mDraw c) [.ref i, .d (.int many)] S = .ok (.d (.int d)) (S.set i (penO cells t' g')) := by
  have m0 := hm.1
  have md : 0 ≤ g % many ∧ g % many < many := ⟨Int.emod_nonneg _ (by omega), Int.emod_lt_of_pos _ m0⟩
  by_cases hg0 : 0 < g
  · refine ⟨g % many, t, g / many, md.1, md.2, by omega, by omega, Int.ediv_nonneg hg (by omega), ?_⟩
    have e1 := idx_2 hS
    simp [mFn, mDraw, mSeq, mIf, mTst, mBin, mSet, mSetI, mRet, mVar, mD, mCB, mCons, mNil, Res.bind, Res.quiet, Res.then_, RS.andThen, blOf, e1, ordW, hg0, bInt, opMod, opFdv, m0, hm.2, dat, hS, penO, ixN, fin, take_set]
  · have hS1 : (S.set i (penO cells (t + 1) g))[i]? = some (penO cells (t + 1) g) := set_pen hS _
    generalize hT : S.set i (penO cells (t + 1) g) = T at hS1
    have i0 := idx_0 hS1
    have i1 := idx_1 hS
    have i2 := idx_2 hS
    have a64 : (-18446744073709551616 < t ∧ t < 18446744073709551616) := by omega
    have rA : pA [some (.ref i), some (.d (.int many)), none, none, none, none, none] S = .ok (.nx [some (.ref i), some (.d (.int many)), none, none, none, none, none]) S := by
      simp [pA, mIf, mTst, mBin, mVar, mD, Res.bind, Res.quiet, Res.then_, blOf, i2, ordW, hg0, mSkip]
    have rB : pB [some (.ref i), some (.d (.int many)), none, none, none, none, none] S = .ok (.nx [some (.ref i), some (.d (.int many)), some (.d (.int t)), none, none, none, none]) S := by
      simp [pB, mSet, mBin, mVar, mD, Res.bind, Res.quiet, Res.then_, i1]
    have rB2 : pB2 [some (.ref i), some (.d (.int many)), some (.d (.int t)), none, none, none, none] S = .ok (.nx [some (.ref i), some (.d (.int many)), some (.d (.int t)), none, none, none, none]) T := by
      simp [pB2, mSetI, mBin, mVar, mD, Res.bind, Res.quiet, Res.then_, addW, dat, hS, penO, ixN]
      rw [← hT]
      rfl
    have rC : pC c [some (.ref i), some (.d (.int many)), some (.d (.int t)), none, none, none, none] T = .ok (.nx [some (.ref i), some (.d (.int many)), some (.d (.int t)), some (.d (.int (c.a * t + c.b))), none, none, none]) T := by
      simp [pC, mSet, mBin, mVar, mD, Res.bind, Res.quiet, Res.then_, addW, mulW, a64]
    obtain ⟨z, rD⟩ : ∃ z : Int, pD [some (.ref i), some (.d (.int many)), some (.d (.int t)), some (.d (.int (c.a * t + c.b))), none, none, none] T = .ok (.nx [some (.ref i), some (.d (.int many)), some (.d (.int t)), some (.d (.int z)), none, none, none]) T := by
      by_cases hc : cells = []
      · subst hc
        refine ⟨c.a * t + c.b, ?_⟩
        have en := ne_nil (S := T) (cells := [])
        simp [pD, mIf, mTst, mBin, mVar, mD, mLst, mNil, dats, Res.bind, Res.quiet, Res.then_, blOf, i0, en, mSkip] at *
        simp [en, mSkip]
      · have hp : 0 < cells.length := List.length_pos_iff.mpr hc
        have hpi : (0 : Int) < cells.length := by omega
        obtain ⟨z, hz⟩ := cell_at (S := T) (cells := cells) (k := t % cells.length) (Int.emod_nonneg _ (by omega)) (Int.emod_lt_of_pos _ hpi)
        refine ⟨z, ?_⟩
        have en := ne_nil (S := T) (cells := cells)
        have ee : cells.isEmpty = false := by cases cells with | nil => exact absurd rfl hc | cons a b => rfl
        have lc := len_cells (S := T) (cells := cells) (by omega)
        rw [ee] at en
        simp [pD, mIf, mTst, mBin, mVar, mD, mLst, mNil, mCons, mCB, mSet, dats, Res.bind, Res.quiet, Res.then_, blOf, i0, en, bInt, lc, opMod, hpi, hp, hz]
    have lc := len_cells (S := T) (cells := cells) (by omega)
    by_cases hbig : t < cells.length ∧ (1000000000000000000 : Int) ≤ (if z < 0 then -z else z)
    · obtain ⟨hb1, hb2⟩ := hbig
      have hk : ∃ k : Int, 0 ≤ k ∧ k ≤ 1 ∧ k = if z < 0 then 1 else 0 := by
        by_cases hz : z < 0
        · exact ⟨1, by decide, by decide, by simp [hz]⟩
        · exact ⟨0, by decide, by decide, by simp [hz]⟩
      obtain ⟨kk, k0, k1, ke⟩ := hk
      generalize hy : (if z < 0 then -z else z) = y at hb2
      have g0 : 0 ≤ 2 * (y - 1000000000000000000) + kk := by omega
      refine ⟨(2 * (y - 1000000000000000000) + kk) % many, t + 1, (2 * (y - 1000000000000000000) + kk) / many, Int.emod_nonneg _ (by omega), Int.emod_lt_of_pos _ m0, by omega, by omega, Int.ediv_nonneg g0 (by omega), ?_⟩
      have eb : bInt [.d (.bl (decide (z < 0)))] T = .ok (.d (.int kk)) T := by
        by_cases hz : z < 0 <;> simp [bInt, hz, ke]
      have ea : bAbs [.d (.int z)] T = .ok (.d (.int y)) T := by simp [bAbs, hy]
      have rE : pE [some (.ref i), some (.d (.int many)), some (.d (.int t)), some (.d (.int z)), none, none, none] T = .ok (.rt (.d (.int ((2 * (y - 1000000000000000000) + kk) % many)))) (S.set i (penO cells (t + 1) ((2 * (y - 1000000000000000000) + kk) / many))) := by
        have st : T.set i (some (.lst ([.lst (cells.map D.int), .int (t + 1), .int ((2 * (y - 1000000000000000000) + kk) / many)]))) = S.set i (penO cells (t + 1) ((2 * (y - 1000000000000000000) + kk) / many)) := by
          rw [← hT, List.set_set]
          rfl
        have hS1' : T[i]? = some (some (.lst [.lst (cells.map D.int), .int (t + 1), .int g])) := hS1
        simp [pE, mIf, mAndB, mSeq, mSet, mSetI, mRet, mTst, mBin, mVar, mD, mCons, mNil, mCB, Res.bind, Res.quiet, Res.then_, RS.andThen, blOf, i0, lc, ordW, hb1, ea, p18, hb2, mulW, opSub, eb, addW, bInt, opFdv, opMod, m0, hm.2, dat, hS1', ixN]
        rw [← ke]
        exact ⟨rfl, st⟩
      have run : mDraw c [some (.ref i), some (.d (.int many)), none, none, none, none, none] S = .ok (.rt (.d (.int ((2 * (y - 1000000000000000000) + kk) % many)))) (S.set i (penO cells (t + 1) ((2 * (y - 1000000000000000000) + kk) / many))) := by
        rw [mDraw_eq, seq_nx rA, seq_nx rB, seq_nx rB2, seq_nx rC, seq_nx rD, seq_rt rE]
      have run' : mDraw c (([.ref i, .d (.int many)] : List W).map some ++ List.replicate (7 - ([.ref i, .d (.int many)] : List W).length) none) S = .ok (.rt (.d (.int ((2 * (y - 1000000000000000000) + kk) % many)))) (S.set i (penO cells (t + 1) ((2 * (y - 1000000000000000000) + kk) / many))) := run
      unfold mFn
      rw [run']
      simp [fin, take_set]
    · have rE : pE [some (.ref i), some (.d (.int many)), some (.d (.int t)), some (.d (.int z)), none, none, none] T = .ok (.nx [some (.ref i), some (.d (.int many)), some (.d (.int t)), some (.d (.int z)), none, none, none]) T := by
        by_cases hb1 : t < cells.length
        · generalize hy : (if z < 0 then -z else z) = y at hbig
          have hb2 : ¬ (1000000000000000000 : Int) ≤ y := fun q => hbig ⟨hb1, q⟩
          have ea : bAbs [.d (.int z)] T = .ok (.d (.int y)) T := by simp [bAbs, hy]
          simp [pE, mIf, mAndB, mTst, mBin, mVar, mD, mCons, mNil, mCB, Res.bind, Res.quiet, Res.then_, blOf, i0, lc, ordW, hb1, ea, p18, hb2, mSkip]
        · simp [pE, mIf, mAndB, mTst, mBin, mVar, mD, mCons, mNil, mCB, Res.bind, Res.quiet, Res.then_, blOf, i0, lc, ordW, hb1, mSkip]
      obtain ⟨d, d0, d1, rM⟩ := mix_ok ok (S := T) (i := i) (z := z) hm ht (w5 := none) (w6 := none)
      refine ⟨d, t + 1, g, d0, d1, by omega, by omega, hg, ?_⟩
      have run : mDraw c [some (.ref i), some (.d (.int many)), none, none, none, none, none] S = .ok (.rt (.d (.int d))) T := by
        rw [mDraw_eq, seq_nx rA, seq_nx rB, seq_nx rB2, seq_nx rC, seq_nx rD, seq_nx rE, rM]
      have run' : mDraw c (([.ref i, .d (.int many)] : List W).map some ++ List.replicate (7 - ([.ref i, .d (.int many)] : List W).length) none) S = .ok (.rt (.d (.int d))) T := run
      unfold mFn
      rw [run', ← hT]
      simp [fin, take_set]
end L3

set_option Elab.async false
set_option linter.all false
set_option maxRecDepth 100000
set_option maxHeartbeats 0
namespace K
open PySem PySem.Spec PyProof.Rows L2 L3
abbrev PP : Program := PySem.Challenge.pw_untriedpairs_k01_errors_made
def top (i : Nat) : Stmt := PP.main.body.getD i (.Pass ⟨0, 0, 0, 0⟩)
abbrev s_law_pen : Stmt := top 23
abbrev s_law_draw : Stmt := top 24
abbrev s_law_pick : Stmt := top 25
abbrev s_law_classes_right : Stmt := top 26
abbrev s_law_kept_right : Stmt := top 27
abbrev slaw : Stmt := top 28
def isaT_0 : List (Value × List (Value × Bool)) := [(.ref 46, [(.type "ValueError", true), (.ref 24, true), (.ref 46, true), (.ref 67, false), (.ref 88, false), (.ref 109, false), (.ref 130, false), (.ref 151, false), (.ref 172, false), (.ref 193, false), (.ref 214, false), (.ref 235, false), (.ref 256, false), (.ref 277, false), (.ref 298, false), (.ref 319, false), (.ref 340, false), (.ref 361, false), (.ref 382, false), (.ref 403, false), (.ref 424, false), (.ref 445, false)]), (.ref 67, [(.type "ValueError", true), (.ref 24, true), (.ref 46, false), (.ref 67, true), (.ref 88, false), (.ref 109, false), (.ref 130, false), (.ref 151, false), (.ref 172, false), (.ref 193, false), (.ref 214, false), (.ref 235, false), (.ref 256, false), (.ref 277, false), (.ref 298, false), (.ref 319, false), (.ref 340, false), (.ref 361, false), (.ref 382, false), (.ref 403, false), (.ref 424, false), (.ref 445, false)]), (.ref 88, [(.type "ValueError", true), (.ref 24, true), (.ref 46, false), (.ref 67, false), (.ref 88, true), (.ref 109, false), (.ref 130, false), (.ref 151, false), (.ref 172, false), (.ref 193, false), (.ref 214, false), (.ref 235, false), (.ref 256, false), (.ref 277, false), (.ref 298, false), (.ref 319, false), (.ref 340, false), (.ref 361, false), (.ref 382, false), (.ref 403, false), (.ref 424, false), (.ref 445, false)]), (.ref 109, [(.type "ValueError", true), (.ref 24, true), (.ref 46, false), (.ref 67, false), (.ref 88, false), (.ref 109, true), (.ref 130, false), (.ref 151, false), (.ref 172, false), (.ref 193, false), (.ref 214, false), (.ref 235, false), (.ref 256, false), (.ref 277, false), (.ref 298, false), (.ref 319, false), (.ref 340, false), (.ref 361, false), (.ref 382, false), (.ref 403, false), (.ref 424, false), (.ref 445, false)]), (.ref 130, [(.type "ValueError", true), (.ref 24, true), (.ref 46, false), (.ref 67, false), (.ref 88, false), (.ref 109, false), (.ref 130, true), (.ref 151, false), (.ref 172, false), (.ref 193, false), (.ref 214, false), (.ref 235, false), (.ref 256, false), (.ref 277, false), (.ref 298, false), (.ref 319, false), (.ref 340, false), (.ref 361, false), (.ref 382, false), (.ref 403, false), (.ref 424, false), (.ref 445, false)])]
def isaT_1 : List (Value × List (Value × Bool)) := [(.ref 151, [(.type "ValueError", true), (.ref 24, true), (.ref 46, false), (.ref 67, false), (.ref 88, false), (.ref 109, false), (.ref 130, false), (.ref 151, true), (.ref 172, false), (.ref 193, false), (.ref 214, false), (.ref 235, false), (.ref 256, false), (.ref 277, false), (.ref 298, false), (.ref 319, false), (.ref 340, false), (.ref 361, false), (.ref 382, false), (.ref 403, false), (.ref 424, false), (.ref 445, false)]), (.ref 172, [(.type "ValueError", true), (.ref 24, true), (.ref 46, false), (.ref 67, false), (.ref 88, false), (.ref 109, false), (.ref 130, false), (.ref 151, false), (.ref 172, true), (.ref 193, false), (.ref 214, false), (.ref 235, false), (.ref 256, false), (.ref 277, false), (.ref 298, false), (.ref 319, false), (.ref 340, false), (.ref 361, false), (.ref 382, false), (.ref 403, false), (.ref 424, false), (.ref 445, false)]), (.ref 193, [(.type "ValueError", true), (.ref 24, true), (.ref 46, false), (.ref 67, false), (.ref 88, false), (.ref 109, false), (.ref 130, false), (.ref 151, false), (.ref 172, false), (.ref 193, true), (.ref 214, false), (.ref 235, false), (.ref 256, false), (.ref 277, false), (.ref 298, false), (.ref 319, false), (.ref 340, false), (.ref 361, false), (.ref 382, false), (.ref 403, false), (.ref 424, false), (.ref 445, false)]), (.ref 214, [(.type "ValueError", true), (.ref 24, true), (.ref 46, false), (.ref 67, false), (.ref 88, false), (.ref 109, false), (.ref 130, false), (.ref 151, false), (.ref 172, false), (.ref 193, false), (.ref 214, true), (.ref 235, false), (.ref 256, false), (.ref 277, false), (.ref 298, false), (.ref 319, false), (.ref 340, false), (.ref 361, false), (.ref 382, false), (.ref 403, false), (.ref 424, false), (.ref 445, false)]), (.ref 235, [(.type "ValueError", true), (.ref 24, true), (.ref 46, false), (.ref 67, false), (.ref 88, false), (.ref 109, false), (.ref 130, false), (.ref 151, false), (.ref 172, false), (.ref 193, false), (.ref 214, false), (.ref 235, true), (.ref 256, false), (.ref 277, false), (.ref 298, false), (.ref 319, false), (.ref 340, false), (.ref 361, false), (.ref 382, false), (.ref 403, false), (.ref 424, false), (.ref 445, false)])]
def isaT_2 : List (Value × List (Value × Bool)) := [(.ref 256, [(.type "ValueError", true), (.ref 24, true), (.ref 46, false), (.ref 67, false), (.ref 88, false), (.ref 109, false), (.ref 130, false), (.ref 151, false), (.ref 172, false), (.ref 193, false), (.ref 214, false), (.ref 235, false), (.ref 256, true), (.ref 277, false), (.ref 298, false), (.ref 319, false), (.ref 340, false), (.ref 361, false), (.ref 382, false), (.ref 403, false), (.ref 424, false), (.ref 445, false)]), (.ref 277, [(.type "ValueError", true), (.ref 24, true), (.ref 46, false), (.ref 67, false), (.ref 88, false), (.ref 109, false), (.ref 130, false), (.ref 151, false), (.ref 172, false), (.ref 193, false), (.ref 214, false), (.ref 235, false), (.ref 256, false), (.ref 277, true), (.ref 298, false), (.ref 319, false), (.ref 340, false), (.ref 361, false), (.ref 382, false), (.ref 403, false), (.ref 424, false), (.ref 445, false)]), (.ref 298, [(.type "ValueError", true), (.ref 24, true), (.ref 46, false), (.ref 67, false), (.ref 88, false), (.ref 109, false), (.ref 130, false), (.ref 151, false), (.ref 172, false), (.ref 193, false), (.ref 214, false), (.ref 235, false), (.ref 256, false), (.ref 277, false), (.ref 298, true), (.ref 319, false), (.ref 340, false), (.ref 361, false), (.ref 382, false), (.ref 403, false), (.ref 424, false), (.ref 445, false)]), (.ref 319, [(.type "ValueError", true), (.ref 24, true), (.ref 46, false), (.ref 67, false), (.ref 88, false), (.ref 109, false), (.ref 130, false), (.ref 151, false), (.ref 172, false), (.ref 193, false), (.ref 214, false), (.ref 235, false), (.ref 256, false), (.ref 277, false), (.ref 298, false), (.ref 319, true), (.ref 340, false), (.ref 361, false), (.ref 382, false), (.ref 403, false), (.ref 424, false), (.ref 445, false)]), (.ref 340, [(.type "ValueError", true), (.ref 24, true), (.ref 46, false), (.ref 67, false), (.ref 88, false), (.ref 109, false), (.ref 130, false), (.ref 151, false), (.ref 172, false), (.ref 193, false), (.ref 214, false), (.ref 235, false), (.ref 256, false), (.ref 277, false), (.ref 298, false), (.ref 319, false), (.ref 340, true), (.ref 361, false), (.ref 382, false), (.ref 403, false), (.ref 424, false), (.ref 445, false)])]
def isaT_3 : List (Value × List (Value × Bool)) := [(.ref 361, [(.type "ValueError", true), (.ref 24, true), (.ref 46, false), (.ref 67, false), (.ref 88, false), (.ref 109, false), (.ref 130, false), (.ref 151, false), (.ref 172, false), (.ref 193, false), (.ref 214, false), (.ref 235, false), (.ref 256, false), (.ref 277, false), (.ref 298, false), (.ref 319, false), (.ref 340, false), (.ref 361, true), (.ref 382, false), (.ref 403, false), (.ref 424, false), (.ref 445, false)]), (.ref 382, [(.type "ValueError", true), (.ref 24, true), (.ref 46, false), (.ref 67, false), (.ref 88, false), (.ref 109, false), (.ref 130, false), (.ref 151, false), (.ref 172, false), (.ref 193, false), (.ref 214, false), (.ref 235, false), (.ref 256, false), (.ref 277, false), (.ref 298, false), (.ref 319, false), (.ref 340, false), (.ref 361, false), (.ref 382, true), (.ref 403, false), (.ref 424, false), (.ref 445, false)]), (.ref 403, [(.type "ValueError", true), (.ref 24, true), (.ref 46, false), (.ref 67, false), (.ref 88, false), (.ref 109, false), (.ref 130, false), (.ref 151, false), (.ref 172, false), (.ref 193, false), (.ref 214, false), (.ref 235, false), (.ref 256, false), (.ref 277, false), (.ref 298, false), (.ref 319, false), (.ref 340, false), (.ref 361, false), (.ref 382, false), (.ref 403, true), (.ref 424, false), (.ref 445, false)]), (.ref 424, [(.type "ValueError", true), (.ref 24, true), (.ref 46, false), (.ref 67, false), (.ref 88, false), (.ref 109, false), (.ref 130, false), (.ref 151, false), (.ref 172, false), (.ref 193, false), (.ref 214, false), (.ref 235, false), (.ref 256, false), (.ref 277, false), (.ref 298, false), (.ref 319, false), (.ref 340, false), (.ref 361, false), (.ref 382, false), (.ref 403, false), (.ref 424, true), (.ref 445, false)]), (.ref 445, [(.type "ValueError", true), (.ref 24, true), (.ref 46, false), (.ref 67, false), (.ref 88, false), (.ref 109, false), (.ref 130, false), (.ref 151, false), (.ref 172, false), (.ref 193, false), (.ref 214, false), (.ref 235, false), (.ref 256, false), (.ref 277, false), (.ref 298, false), (.ref 319, false), (.ref 340, false), (.ref 361, false), (.ref 382, false), (.ref 403, false), (.ref 424, false), (.ref 445, true)])]
def isaT : List (Value × List (Value × Bool)) := isaT_0 ++ isaT_1 ++ isaT_2 ++ isaT_3
def kn : Kn := { xs := [46, 67, 88, 109, 130, 151, 172, 193, 214, 235, 256, 277, 298, 319, 340, 361, 382, 403, 424, 445], os := [], at_ := [(46, ["value"]), (67, ["value"]), (88, ["at"]), (109, ["part"]), (130, ["value"]), (151, ["at"]), (172, ["word"]), (193, ["word"]), (214, ["pairs"]), (235, []), (256, ["part"]), (277, ["word"]), (298, ["at"]), (319, ["part"]), (340, ["value"]), (361, ["value"]), (382, []), (403, ["what", "most"]), (424, ["line", "word"]), (445, ["word"])], isa := isaT }
def exs (K : PySem.W.Frag) : List Bool :=
  [kn.check K, decide (PySem.W.nsIn K mainGlobals "ValueError" = some none), decide (PySem.W.nsIn K mainGlobals "abs" = some none), decide (PySem.W.nsIn K mainGlobals "int" = some none), decide (PySem.W.nsIn K mainGlobals "isinstance" = some none), decide (PySem.W.nsIn K mainGlobals "len" = some none), decide (PySem.W.nsIn K mainGlobals "list" = some none), decide (PySem.W.nsIn K mainGlobals "range" = some none)] ++
  [decide (PySem.W.nsIn K mainGlobals "repr" = some none), decide (PySem.W.nsIn K mainGlobals "super" = some none), decide (PySem.W.nsIn K mainGlobals "BadCount" = some (some (.ref 340))), decide (PySem.W.nsIn K mainGlobals "BadDeed" = some (some (.ref 151))), decide (PySem.W.nsIn K mainGlobals "BadGate" = some (some (.ref 298))), decide (PySem.W.nsIn K mainGlobals "BadLength" = some (some (.ref 361))), decide (PySem.W.nsIn K mainGlobals "BadLine" = some (some (.ref 445))), decide (PySem.W.nsIn K mainGlobals "BadLot" = some (some (.ref 88)))] ++
  [decide (PySem.W.nsIn K mainGlobals "BadMenu" = some (some (.ref 382))), decide (PySem.W.nsIn K mainGlobals "BadRule" = some (some (.ref 256))), decide (PySem.W.nsIn K mainGlobals "BadStage" = some (some (.ref 67))), decide (PySem.W.nsIn K mainGlobals "BadStages" = some (some (.ref 46))), decide (PySem.W.nsIn K mainGlobals "BadText" = some (some (.ref 424))), decide (PySem.W.nsIn K mainGlobals "BadWish" = some (some (.ref 319))), decide (PySem.W.nsIn K mainGlobals "Cannot" = some (some (.ref 172))), decide (PySem.W.nsIn K mainGlobals "NoPart" = some (some (.ref 109)))] ++
  [decide (PySem.W.nsIn K mainGlobals "NoPlace" = some (some (.ref 130))), decide (PySem.W.nsIn K mainGlobals "Nothing" = some (some (.ref 235))), decide (PySem.W.nsIn K mainGlobals "Refused" = some (some (.ref 193))), decide (PySem.W.nsIn K mainGlobals "TooMany" = some (some (.ref 403))), decide (PySem.W.nsIn K mainGlobals "Twice" = some (some (.ref 277))), decide (PySem.W.nsIn K mainGlobals "Untried" = some (some (.ref 214))), decide (PySem.W.nsIn K mainGlobals "WorksError" = some (some (.ref 24))), decide (PySem.W.nsIn K mainGlobals "_law_classes_right" = some (some (.ref 473)))] ++
  [decide (PySem.W.nsIn K mainGlobals "_law_draw" = some (some (.ref 461))), decide (PySem.W.nsIn K mainGlobals "_law_kept_right" = some (some (.ref 478))), decide (PySem.W.nsIn K mainGlobals "_law_pen" = some (some (.ref 454))), decide (PySem.W.nsIn K mainGlobals "_law_pick" = some (some (.ref 468))), decide (PySem.W.nsIn K mainGlobals "law" = some (some (.ref 485))), xcB PP K 340 337 ["value"], xcB PP K 151 148 ["at"], xcB PP K 298 295 ["at"]] ++
  [xcB PP K 361 358 ["value"], xcB PP K 445 442 ["word"], xcB PP K 88 85 ["at"], xcB PP K 382 379 [], xcB PP K 256 253 ["part"], xcB PP K 67 64 ["value"], xcB PP K 46 43 ["value"], xcB PP K 424 421 ["line", "word"]] ++
  [xcB PP K 319 316 ["part"], xcB PP K 172 169 ["word"], xcB PP K 109 106 ["part"], xcB PP K 130 127 ["value"], xcB PP K 235 232 [], xcB PP K 193 190 ["word"], xcB PP K 403 400 ["what", "most"], xcB PP K 277 274 ["word"]] ++
  [xcB PP K 214 211 ["pairs"]]
def ex (K : PySem.W.Frag) : Bool := (exs K).all id
theorem ex_at {K : PySem.W.Frag} (h : ex K = true) (i : Nat) {b : Bool} (e : (exs K)[i]? = some b) : b = true := List.all_eq_true.mp h b (List.mem_of_getElem? e)
structure Hy (K : PySem.W.Frag) (mg : Str → Option Value) : Prop where
  ok : kn.Ok K
  free_ValueError : mg "ValueError" = none
  free_abs : mg "abs" = none
  free_int : mg "int" = none
  free_isinstance : mg "isinstance" = none
  free_len : mg "len" = none
  free_list : mg "list" = none
  free_range : mg "range" = none
  free_repr : mg "repr" = none
  free_super : mg "super" = none
  glo_BadCount : mg "BadCount" = some (.ref 340)
  glo_BadDeed : mg "BadDeed" = some (.ref 151)
  glo_BadGate : mg "BadGate" = some (.ref 298)
  glo_BadLength : mg "BadLength" = some (.ref 361)
  glo_BadLine : mg "BadLine" = some (.ref 445)
  glo_BadLot : mg "BadLot" = some (.ref 88)
  glo_BadMenu : mg "BadMenu" = some (.ref 382)
  glo_BadRule : mg "BadRule" = some (.ref 256)
  glo_BadStage : mg "BadStage" = some (.ref 67)
  glo_BadStages : mg "BadStages" = some (.ref 46)
  glo_BadText : mg "BadText" = some (.ref 424)
  glo_BadWish : mg "BadWish" = some (.ref 319)
  glo_Cannot : mg "Cannot" = some (.ref 172)
  glo_NoPart : mg "NoPart" = some (.ref 109)
  glo_NoPlace : mg "NoPlace" = some (.ref 130)
  glo_Nothing : mg "Nothing" = some (.ref 235)
  glo_Refused : mg "Refused" = some (.ref 193)
  glo_TooMany : mg "TooMany" = some (.ref 403)
  glo_Twice : mg "Twice" = some (.ref 277)
  glo_Untried : mg "Untried" = some (.ref 214)
  glo_WorksError : mg "WorksError" = some (.ref 24)
  glo__law_classes_right : mg "_law_classes_right" = some (.ref 473)
  glo__law_draw : mg "_law_draw" = some (.ref 461)
  glo__law_kept_right : mg "_law_kept_right" = some (.ref 478)
  glo__law_pen : mg "_law_pen" = some (.ref 454)
  glo__law_pick : mg "_law_pick" = some (.ref 468)
  glo_law : mg "law" = some (.ref 485)
  xc_BadCount : XC PP K 340 337 ["value"]
  xc_BadDeed : XC PP K 151 148 ["at"]
  xc_BadGate : XC PP K 298 295 ["at"]
  xc_BadLength : XC PP K 361 358 ["value"]
  xc_BadLine : XC PP K 445 442 ["word"]
  xc_BadLot : XC PP K 88 85 ["at"]
  xc_BadMenu : XC PP K 382 379 []
  xc_BadRule : XC PP K 256 253 ["part"]
  xc_BadStage : XC PP K 67 64 ["value"]
  xc_BadStages : XC PP K 46 43 ["value"]
  xc_BadText : XC PP K 424 421 ["line", "word"]
  xc_BadWish : XC PP K 319 316 ["part"]
  xc_Cannot : XC PP K 172 169 ["word"]
  xc_NoPart : XC PP K 109 106 ["part"]
  xc_NoPlace : XC PP K 130 127 ["value"]
  xc_Nothing : XC PP K 235 232 []
  xc_Refused : XC PP K 193 190 ["word"]
  xc_TooMany : XC PP K 403 400 ["what", "most"]
  xc_Twice : XC PP K 277 274 ["word"]
  xc_Untried : XC PP K 214 211 ["pairs"]
theorem hy_of {K : PySem.W.Frag} {h : Heap} {mg : Str → Option Value} (X : K.In h) (G : h.Ns mainGlobals mg) (e : ex K = true) : Hy K mg where
  ok := Kn.check_ok (ex_at e 0 rfl)
  free_ValueError := PySem.W.mg_none_of X G (of_decide_eq_true (ex_at e 1 rfl))
  free_abs := PySem.W.mg_none_of X G (of_decide_eq_true (ex_at e 2 rfl))
  free_int := PySem.W.mg_none_of X G (of_decide_eq_true (ex_at e 3 rfl))
  free_isinstance := PySem.W.mg_none_of X G (of_decide_eq_true (ex_at e 4 rfl))
  free_len := PySem.W.mg_none_of X G (of_decide_eq_true (ex_at e 5 rfl))
  free_list := PySem.W.mg_none_of X G (of_decide_eq_true (ex_at e 6 rfl))
  free_range := PySem.W.mg_none_of X G (of_decide_eq_true (ex_at e 7 rfl))
  free_repr := PySem.W.mg_none_of X G (of_decide_eq_true (ex_at e 8 rfl))
  free_super := PySem.W.mg_none_of X G (of_decide_eq_true (ex_at e 9 rfl))
  glo_BadCount := PySem.W.mg_of X G (of_decide_eq_true (ex_at e 10 rfl))
  glo_BadDeed := PySem.W.mg_of X G (of_decide_eq_true (ex_at e 11 rfl))
  glo_BadGate := PySem.W.mg_of X G (of_decide_eq_true (ex_at e 12 rfl))
  glo_BadLength := PySem.W.mg_of X G (of_decide_eq_true (ex_at e 13 rfl))
  glo_BadLine := PySem.W.mg_of X G (of_decide_eq_true (ex_at e 14 rfl))
  glo_BadLot := PySem.W.mg_of X G (of_decide_eq_true (ex_at e 15 rfl))
  glo_BadMenu := PySem.W.mg_of X G (of_decide_eq_true (ex_at e 16 rfl))
  glo_BadRule := PySem.W.mg_of X G (of_decide_eq_true (ex_at e 17 rfl))
  glo_BadStage := PySem.W.mg_of X G (of_decide_eq_true (ex_at e 18 rfl))
  glo_BadStages := PySem.W.mg_of X G (of_decide_eq_true (ex_at e 19 rfl))
  glo_BadText := PySem.W.mg_of X G (of_decide_eq_true (ex_at e 20 rfl))
  glo_BadWish := PySem.W.mg_of X G (of_decide_eq_true (ex_at e 21 rfl))
  glo_Cannot := PySem.W.mg_of X G (of_decide_eq_true (ex_at e 22 rfl))
  glo_NoPart := PySem.W.mg_of X G (of_decide_eq_true (ex_at e 23 rfl))
  glo_NoPlace := PySem.W.mg_of X G (of_decide_eq_true (ex_at e 24 rfl))
  glo_Nothing := PySem.W.mg_of X G (of_decide_eq_true (ex_at e 25 rfl))
  glo_Refused := PySem.W.mg_of X G (of_decide_eq_true (ex_at e 26 rfl))
  glo_TooMany := PySem.W.mg_of X G (of_decide_eq_true (ex_at e 27 rfl))
  glo_Twice := PySem.W.mg_of X G (of_decide_eq_true (ex_at e 28 rfl))
  glo_Untried := PySem.W.mg_of X G (of_decide_eq_true (ex_at e 29 rfl))
  glo_WorksError := PySem.W.mg_of X G (of_decide_eq_true (ex_at e 30 rfl))
  glo__law_classes_right := PySem.W.mg_of X G (of_decide_eq_true (ex_at e 31 rfl))
  glo__law_draw := PySem.W.mg_of X G (of_decide_eq_true (ex_at e 32 rfl))
  glo__law_kept_right := PySem.W.mg_of X G (of_decide_eq_true (ex_at e 33 rfl))
  glo__law_pen := PySem.W.mg_of X G (of_decide_eq_true (ex_at e 34 rfl))
  glo__law_pick := PySem.W.mg_of X G (of_decide_eq_true (ex_at e 35 rfl))
  glo_law := PySem.W.mg_of X G (of_decide_eq_true (ex_at e 36 rfl))
  xc_BadCount := xcB_ok (ex_at e 37 rfl)
  xc_BadDeed := xcB_ok (ex_at e 38 rfl)
  xc_BadGate := xcB_ok (ex_at e 39 rfl)
  xc_BadLength := xcB_ok (ex_at e 40 rfl)
  xc_BadLine := xcB_ok (ex_at e 41 rfl)
  xc_BadLot := xcB_ok (ex_at e 42 rfl)
  xc_BadMenu := xcB_ok (ex_at e 43 rfl)
  xc_BadRule := xcB_ok (ex_at e 44 rfl)
  xc_BadStage := xcB_ok (ex_at e 45 rfl)
  xc_BadStages := xcB_ok (ex_at e 46 rfl)
  xc_BadText := xcB_ok (ex_at e 47 rfl)
  xc_BadWish := xcB_ok (ex_at e 48 rfl)
  xc_Cannot := xcB_ok (ex_at e 49 rfl)
  xc_NoPart := xcB_ok (ex_at e 50 rfl)
  xc_NoPlace := xcB_ok (ex_at e 51 rfl)
  xc_Nothing := xcB_ok (ex_at e 52 rfl)
  xc_Refused := xcB_ok (ex_at e 53 rfl)
  xc_TooMany := xcB_ok (ex_at e 54 rfl)
  xc_Twice := xcB_ok (ex_at e 55 rfl)
  xc_Untried := xcB_ok (ex_at e 56 rfl)
structure Cal (w : World) (K : PySem.W.Frag) (mg : Str → Option Value) (base : Heap) (x : Str) (f : Addr) (j np : Nat) (m : List W → Sto → Res W) : Prop where
  F : FnM PP w K mg base j f np m
  hm : mg x = some (.ref f)
  hk : PySem.W.keepIn K (.ref f) = true
def m_law_pen : MS :=
  mRet (mLstM (mCons (mCB (bList mkL) (mCons (mSl mkL (mVar 0) (moNone) (moSome (mD (.int 63)))) (mNil))) (mCons (mD (.int 0)) (mCons (mD (.int 0)) (mNil)))))
def f_law_pen : List W → Sto → Res W := mFnM 1 m_law_pen
def m_law_draw : MS :=
  mSeq (mIf (mTst (mBin opGt (mBin opIdx (mVar 0) (mD (.int 2))) (mD (.int 0)))) (mSeq (mSet 5 (mBin opMod (mCB bInt (mCons (mBin opIdx (mVar 0) (mD (.int 2))) (mNil))) (mVar 1)))
    (mSeq (mSetI (mVar 0) (mD (.int 2)) (mBin opFdv (mCB bInt (mCons (mBin opIdx (mVar 0) (mD (.int 2))) (mNil))) (mVar 1)))
    (mRet (mVar 5)))) (mSkip))
    (mSeq (mSet 2 (mBin opIdx (mVar 0) (mD (.int 1))))
    (mSeq (mSetI (mVar 0) (mD (.int 1)) (mBin opAdd (mVar 2) (mD (.int 1))))
    (mSeq (mSet 3 (mBin opAdd (mBin opMul (mD (.int 57822)) (mVar 2)) (mD (.int 3233))))
    (mSeq (mIf (mTst (mBin opNe (mBin opIdx (mVar 0) (mD (.int 0))) (mLst (mNil)))) (mSet 3 (mBin opIdx (mBin opIdx (mVar 0) (mD (.int 0))) (mBin opMod (mCB bInt (mCons (mVar 2) (mNil))) (mCB bLen (mCons (mBin opIdx (mVar 0) (mD (.int 0))) (mNil)))))) (mSkip))
    (mSeq (mIf (mAndB (mTst (mBin opLt (mVar 2) (mCB bLen (mCons (mBin opIdx (mVar 0) (mD (.int 0))) (mNil))))) (mTst (mBin opGe (mCB bAbs (mCons (mVar 3) (mNil))) (mBin opPow (mD (.int 10)) (mD (.int 18)))))) (mSeq (mSet 6 (mBin opAdd (mBin opMul (mD (.int 2)) (mBin opSub (mCB bAbs (mCons (mVar 3) (mNil))) (mBin opPow (mD (.int 10)) (mD (.int 18))))) (mCB bInt (mCons (mBin opLt (mVar 3) (mD (.int 0))) (mNil)))))
    (mSeq (mSetI (mVar 0) (mD (.int 2)) (mBin opFdv (mCB bInt (mCons (mVar 6) (mNil))) (mVar 1)))
    (mRet (mBin opMod (mCB bInt (mCons (mVar 6) (mNil))) (mVar 1))))) (mSkip))
    (mSeq (mSet 4 (mBin opMod (mCB bInt (mCons (mBin opPow (mBin opAdd (mBin opAdd (mBin opMod (mCB bInt (mCons (mVar 3) (mNil))) (mD (.int 2147483489))) (mBin opMul (mD (.int 76119)) (mVar 2))) (mD (.int 1721))) (mD (.int 5))) (mNil))) (mD (.int 2147483549))))
    (mSeq (mSet 4 (mBin opMod (mCB bInt (mCons (mBin opPow (mBin opAdd (mBin opAdd (mBin opMul (mVar 4) (mBin opAdd (mBin opMul (mD (.int 2)) (mVar 2)) (mD (.int 439)))) (mBin opMul (mBin opMul (mD (.int 45473)) (mVar 2)) (mVar 2))) (mD (.int 649))) (mD (.int 3))) (mNil))) (mD (.int 2147483563))))
    (mRet (mBin opMod (mCB bInt (mCons (mBin opFdv (mVar 4) (mD (.int 32))) (mNil))) (mVar 1))))))))))
def f_law_draw : List W → Sto → Res W := mFn 7 m_law_draw
def m_law_pick : MS :=
  mRet (mBin opIdx (mVar 1) (mCallN 2 f_law_draw (mCons (mVar 0) (mCons (mCB bLen (mCons (mVar 1) (mNil))) (mNil)))))
def f_law_pick : List W → Sto → Res W := mFn 2 m_law_pick
def m_law_classes_right : MS :=
  mSeq (mSet 0 (mLst (mCons (mExc 46 ["value"] false (mCons (mD (.int 1)) (mNil))) (mCons (mExc 67 ["value"] false (mCons (mD (.int 1)) (mNil))) (mCons (mExc 88 ["at"] false (mCons (mD (.int 1)) (mNil))) (mCons (mExc 109 ["part"] false (mCons (mD (.int 1)) (mNil))) (mCons (mExc 130 ["value"] false (mCons (mD (.int 1)) (mNil))) (mCons (mExc 151 ["at"] false (mCons (mD (.int 1)) (mNil))) (mCons (mExc 172 ["word"] false (mCons (mD (.int 1)) (mNil))) (mCons (mExc 193 ["word"] false (mCons (mD (.int 1)) (mNil))) (mCons (mExc 214 ["pairs"] false (mCons (mD (.int 1)) (mNil))) (mCons (mExc 235 [] false mNil) (mCons (mExc 256 ["part"] false (mCons (mD (.int 1)) (mNil))) (mCons (mExc 277 ["word"] false (mCons (mD (.int 1)) (mNil))) (mCons (mExc 298 ["at"] false (mCons (mD (.int 1)) (mNil))) (mCons (mExc 319 ["part"] false (mCons (mD (.int 1)) (mNil))) (mCons (mExc 340 ["value"] false (mCons (mD (.int 1)) (mNil))) (mCons (mExc 361 ["value"] false (mCons (mD (.int 1)) (mNil))) (mCons (mExc 382 [] false mNil) (mCons (mExc 403 ["what", "most"] false (mCons (mD (.int 1)) (mCons (mD (.int 2)) (mNil)))) (mCons (mExc 424 ["line", "word"] false (mCons (mD (.int 1)) (mCons (mD (.int 2)) (mNil)))) (mCons (mExc 445 ["word"] false (mCons (mD (.int 1)) (mNil))) (mNil)))))))))))))))))))))))
    (mSeq (mSet 1 (mLstM (mNil)))
    (mSeq (mExpr (mBM "list" gAppend (mVar 1) (mCons (mLc mkL (miRange (mCons (mD (.int 20)) (mNil))) (tName 2) (mTru (mCB (bIsi kn) (mCons (mBin opIdx (mVar 0) (mVar 2)) (mCons (mD (.st 46)) (mNil))))) (mVar 2) [2]) (mNil))))
    (mSeq (mExpr (mBM "list" gAppend (mVar 1) (mCons (mLc mkL (miRange (mCons (mD (.int 20)) (mNil))) (tName 2) (mTru (mCB (bIsi kn) (mCons (mBin opIdx (mVar 0) (mVar 2)) (mCons (mD (.st 67)) (mNil))))) (mVar 2) [2]) (mNil))))
    (mSeq (mExpr (mBM "list" gAppend (mVar 1) (mCons (mLc mkL (miRange (mCons (mD (.int 20)) (mNil))) (tName 2) (mTru (mCB (bIsi kn) (mCons (mBin opIdx (mVar 0) (mVar 2)) (mCons (mD (.st 88)) (mNil))))) (mVar 2) [2]) (mNil))))
    (mSeq (mExpr (mBM "list" gAppend (mVar 1) (mCons (mLc mkL (miRange (mCons (mD (.int 20)) (mNil))) (tName 2) (mTru (mCB (bIsi kn) (mCons (mBin opIdx (mVar 0) (mVar 2)) (mCons (mD (.st 109)) (mNil))))) (mVar 2) [2]) (mNil))))
    (mSeq (mExpr (mBM "list" gAppend (mVar 1) (mCons (mLc mkL (miRange (mCons (mD (.int 20)) (mNil))) (tName 2) (mTru (mCB (bIsi kn) (mCons (mBin opIdx (mVar 0) (mVar 2)) (mCons (mD (.st 130)) (mNil))))) (mVar 2) [2]) (mNil))))
    (mSeq (mExpr (mBM "list" gAppend (mVar 1) (mCons (mLc mkL (miRange (mCons (mD (.int 20)) (mNil))) (tName 2) (mTru (mCB (bIsi kn) (mCons (mBin opIdx (mVar 0) (mVar 2)) (mCons (mD (.st 151)) (mNil))))) (mVar 2) [2]) (mNil))))
    (mSeq (mExpr (mBM "list" gAppend (mVar 1) (mCons (mLc mkL (miRange (mCons (mD (.int 20)) (mNil))) (tName 2) (mTru (mCB (bIsi kn) (mCons (mBin opIdx (mVar 0) (mVar 2)) (mCons (mD (.st 172)) (mNil))))) (mVar 2) [2]) (mNil))))
    (mSeq (mExpr (mBM "list" gAppend (mVar 1) (mCons (mLc mkL (miRange (mCons (mD (.int 20)) (mNil))) (tName 2) (mTru (mCB (bIsi kn) (mCons (mBin opIdx (mVar 0) (mVar 2)) (mCons (mD (.st 193)) (mNil))))) (mVar 2) [2]) (mNil))))
    (mSeq (mExpr (mBM "list" gAppend (mVar 1) (mCons (mLc mkL (miRange (mCons (mD (.int 20)) (mNil))) (tName 2) (mTru (mCB (bIsi kn) (mCons (mBin opIdx (mVar 0) (mVar 2)) (mCons (mD (.st 214)) (mNil))))) (mVar 2) [2]) (mNil))))
    (mSeq (mExpr (mBM "list" gAppend (mVar 1) (mCons (mLc mkL (miRange (mCons (mD (.int 20)) (mNil))) (tName 2) (mTru (mCB (bIsi kn) (mCons (mBin opIdx (mVar 0) (mVar 2)) (mCons (mD (.st 235)) (mNil))))) (mVar 2) [2]) (mNil))))
    (mSeq (mExpr (mBM "list" gAppend (mVar 1) (mCons (mLc mkL (miRange (mCons (mD (.int 20)) (mNil))) (tName 2) (mTru (mCB (bIsi kn) (mCons (mBin opIdx (mVar 0) (mVar 2)) (mCons (mD (.st 256)) (mNil))))) (mVar 2) [2]) (mNil))))
    (mSeq (mExpr (mBM "list" gAppend (mVar 1) (mCons (mLc mkL (miRange (mCons (mD (.int 20)) (mNil))) (tName 2) (mTru (mCB (bIsi kn) (mCons (mBin opIdx (mVar 0) (mVar 2)) (mCons (mD (.st 277)) (mNil))))) (mVar 2) [2]) (mNil))))
    (mSeq (mExpr (mBM "list" gAppend (mVar 1) (mCons (mLc mkL (miRange (mCons (mD (.int 20)) (mNil))) (tName 2) (mTru (mCB (bIsi kn) (mCons (mBin opIdx (mVar 0) (mVar 2)) (mCons (mD (.st 298)) (mNil))))) (mVar 2) [2]) (mNil))))
    (mSeq (mExpr (mBM "list" gAppend (mVar 1) (mCons (mLc mkL (miRange (mCons (mD (.int 20)) (mNil))) (tName 2) (mTru (mCB (bIsi kn) (mCons (mBin opIdx (mVar 0) (mVar 2)) (mCons (mD (.st 319)) (mNil))))) (mVar 2) [2]) (mNil))))
    (mSeq (mExpr (mBM "list" gAppend (mVar 1) (mCons (mLc mkL (miRange (mCons (mD (.int 20)) (mNil))) (tName 2) (mTru (mCB (bIsi kn) (mCons (mBin opIdx (mVar 0) (mVar 2)) (mCons (mD (.st 340)) (mNil))))) (mVar 2) [2]) (mNil))))
    (mSeq (mExpr (mBM "list" gAppend (mVar 1) (mCons (mLc mkL (miRange (mCons (mD (.int 20)) (mNil))) (tName 2) (mTru (mCB (bIsi kn) (mCons (mBin opIdx (mVar 0) (mVar 2)) (mCons (mD (.st 361)) (mNil))))) (mVar 2) [2]) (mNil))))
    (mSeq (mExpr (mBM "list" gAppend (mVar 1) (mCons (mLc mkL (miRange (mCons (mD (.int 20)) (mNil))) (tName 2) (mTru (mCB (bIsi kn) (mCons (mBin opIdx (mVar 0) (mVar 2)) (mCons (mD (.st 382)) (mNil))))) (mVar 2) [2]) (mNil))))
    (mSeq (mExpr (mBM "list" gAppend (mVar 1) (mCons (mLc mkL (miRange (mCons (mD (.int 20)) (mNil))) (tName 2) (mTru (mCB (bIsi kn) (mCons (mBin opIdx (mVar 0) (mVar 2)) (mCons (mD (.st 403)) (mNil))))) (mVar 2) [2]) (mNil))))
    (mSeq (mExpr (mBM "list" gAppend (mVar 1) (mCons (mLc mkL (miRange (mCons (mD (.int 20)) (mNil))) (tName 2) (mTru (mCB (bIsi kn) (mCons (mBin opIdx (mVar 0) (mVar 2)) (mCons (mD (.st 424)) (mNil))))) (mVar 2) [2]) (mNil))))
    (mSeq (mExpr (mBM "list" gAppend (mVar 1) (mCons (mLc mkL (miRange (mCons (mD (.int 20)) (mNil))) (tName 2) (mTru (mCB (bIsi kn) (mCons (mBin opIdx (mVar 0) (mVar 2)) (mCons (mD (.st 445)) (mNil))))) (mVar 2) [2]) (mNil))))
    (mSeq (mIf (mTst (mBin opNe (mVar 1) (mLc mkL (miRange (mCons (mD (.int 20)) (mNil))) (tName 2) (mYes) (mLst (mCons (mVar 2) (mNil))) [2]))) (mRet (mD (.bl false))) (mSkip))
    (mRet (mBin opEq (mLc mkL (miSeq (mVar 0)) (tName 2) (mOrB (mNotB (mTru (mCB (bIsi kn) (mCons (mVar 2) (mCons (mD (.st 24)) (mNil)))))) (mNotB (mTru (mCB (bIsi kn) (mCons (mVar 2) (mCons (mD (.ty "ValueError")) (mNil))))))) (mVar 2) [2]) (mLst (mNil))))))))))))))))))))))))))
def f_law_classes_right : List W → Sto → Res W := mFn 3 m_law_classes_right
def m_law_kept_right : MS :=
  mSeq (mSet 1 (mLst (mCons (mAtt kn "value" (mExc 46 ["value"] false (mCons (mVar 0) (mNil)))) (mCons (mAtt kn "value" (mExc 46 ["value"] false (mCons (mVar 0) (mNil)))) (mCons (mAtt kn "value" (mExc 67 ["value"] false (mCons (mVar 0) (mNil)))) (mCons (mAtt kn "value" (mExc 67 ["value"] false (mCons (mVar 0) (mNil)))) (mNil)))))))
    (mSeq (mSet 1 (mBin opAdd (mVar 1) (mLst (mCons (mAtt kn "at" (mExc 88 ["at"] false (mCons (mVar 0) (mNil)))) (mCons (mAtt kn "at" (mExc 88 ["at"] false (mCons (mVar 0) (mNil)))) (mCons (mAtt kn "part" (mExc 109 ["part"] false (mCons (mVar 0) (mNil)))) (mCons (mAtt kn "part" (mExc 109 ["part"] false (mCons (mVar 0) (mNil)))) (mNil))))))))
    (mSeq (mSet 1 (mBin opAdd (mVar 1) (mLst (mCons (mAtt kn "value" (mExc 130 ["value"] false (mCons (mVar 0) (mNil)))) (mCons (mAtt kn "value" (mExc 130 ["value"] false (mCons (mVar 0) (mNil)))) (mCons (mAtt kn "at" (mExc 151 ["at"] false (mCons (mVar 0) (mNil)))) (mCons (mAtt kn "at" (mExc 151 ["at"] false (mCons (mVar 0) (mNil)))) (mNil))))))))
    (mSeq (mSet 1 (mBin opAdd (mVar 1) (mLst (mCons (mAtt kn "word" (mExc 172 ["word"] false (mCons (mVar 0) (mNil)))) (mCons (mAtt kn "word" (mExc 172 ["word"] false (mCons (mVar 0) (mNil)))) (mCons (mAtt kn "word" (mExc 193 ["word"] false (mCons (mVar 0) (mNil)))) (mCons (mAtt kn "word" (mExc 193 ["word"] false (mCons (mVar 0) (mNil)))) (mNil))))))))
    (mSeq (mSet 1 (mBin opAdd (mVar 1) (mLst (mCons (mAtt kn "pairs" (mExc 214 ["pairs"] false (mCons (mVar 0) (mNil)))) (mCons (mAtt kn "pairs" (mExc 214 ["pairs"] false (mCons (mVar 0) (mNil)))) (mCons (mAtt kn "part" (mExc 256 ["part"] false (mCons (mVar 0) (mNil)))) (mCons (mAtt kn "part" (mExc 256 ["part"] false (mCons (mVar 0) (mNil)))) (mNil))))))))
    (mSeq (mSet 1 (mBin opAdd (mVar 1) (mLst (mCons (mAtt kn "word" (mExc 277 ["word"] false (mCons (mVar 0) (mNil)))) (mCons (mAtt kn "word" (mExc 277 ["word"] false (mCons (mVar 0) (mNil)))) (mCons (mAtt kn "at" (mExc 298 ["at"] false (mCons (mVar 0) (mNil)))) (mCons (mAtt kn "at" (mExc 298 ["at"] false (mCons (mVar 0) (mNil)))) (mNil))))))))
    (mSeq (mSet 1 (mBin opAdd (mVar 1) (mLst (mCons (mAtt kn "part" (mExc 319 ["part"] false (mCons (mVar 0) (mNil)))) (mCons (mAtt kn "part" (mExc 319 ["part"] false (mCons (mVar 0) (mNil)))) (mCons (mAtt kn "value" (mExc 340 ["value"] false (mCons (mVar 0) (mNil)))) (mCons (mAtt kn "value" (mExc 340 ["value"] false (mCons (mVar 0) (mNil)))) (mNil))))))))
    (mSeq (mSet 1 (mBin opAdd (mVar 1) (mLst (mCons (mAtt kn "value" (mExc 361 ["value"] false (mCons (mVar 0) (mNil)))) (mCons (mAtt kn "value" (mExc 361 ["value"] false (mCons (mVar 0) (mNil)))) (mCons (mAtt kn "word" (mExc 445 ["word"] false (mCons (mVar 0) (mNil)))) (mCons (mAtt kn "word" (mExc 445 ["word"] false (mCons (mVar 0) (mNil)))) (mNil))))))))
    (mSeq (mSet 1 (mBin opAdd (mVar 1) (mLst (mCons (mAtt kn "what" (mExc 403 ["what", "most"] false (mCons (mVar 0) (mCons (mD (.int 1)) (mNil))))) (mCons (mAtt kn "most" (mExc 403 ["what", "most"] true (mCons (mVar 0) (mCons (mD (.int 1)) (mNil))))) (mCons (mAtt kn "most" (mExc 403 ["what", "most"] false (mCons (mD (.int 1)) (mCons (mVar 0) (mNil))))) (mNil)))))))
    (mSeq (mSet 1 (mBin opAdd (mVar 1) (mLst (mCons (mAtt kn "line" (mExc 424 ["line", "word"] false (mCons (mVar 0) (mCons (mD (.int 1)) (mNil))))) (mCons (mAtt kn "word" (mExc 424 ["line", "word"] true (mCons (mVar 0) (mCons (mD (.int 1)) (mNil))))) (mCons (mAtt kn "word" (mExc 424 ["line", "word"] false (mCons (mD (.int 1)) (mCons (mVar 0) (mNil))))) (mNil)))))))
    (mRet (mBin opEq (mLc mkL (miSeq (mVar 1)) (tName 2) (mTst (mBin opNe (mCB bRepr (mCons (mVar 2) (mNil))) (mCB bRepr (mCons (mVar 0) (mNil))))) (mVar 2) [2]) (mLst (mNil)))))))))))))
def f_law_kept_right : List W → Sto → Res W := mFn 3 m_law_kept_right
def mlaw : MS :=
  mSeq (mSet 1 (mCallN 1 f_law_pen (mCons (mVar 0) (mNil))))
    (mSeq (mSet 2 (mLst (mCons (mD .non) (mCons (mD (.int 0)) (mCons (mD (.bl true)) (mCons (mD (.str "make a")) (mCons (mTup (mCons (mD (.int 1)) (mCons (mD (.str "a")) (mNil)))) (mCons (mLst (mNil)) (mCons (mDict0) (mCons (mUn negW (mD (.int 7))) (mCons (mBin opPow (mD (.int 10)) (mD (.int 39))) (mCons (mTup (mCons (mD (.str "a")) (mCons (mD .non) (mNil)))) (mCons (mLst (mCons (mLst (mCons (mD (.str "a")) (mNil))) (mNil))) (mCons (mD (.str "")) (mNil)))))))))))))))
    (mSeq (mFor (miRange (mCons (mD (.int 4)) (mNil))) (tName 3) (mIf (mNotB (mTru (mCallN 1 f_law_kept_right (mCons (mCallN 2 f_law_pick (mCons (mVar 1) (mCons (mVar 2) (mNil)))) (mNil))))) (mRet (mD (.bl false))) (mSkip)))
    (mRet (mCallN 0 f_law_classes_right mNil))))
def flaw : List W → Sto → Res W := mFn 4 mlaw
theorem sc_law_pen : FnScope ["_law_script"] ["_law_script"] (defScope s_law_pen) := ⟨rfl, rfl, rfl, by decide +kernel, rfl, by decide +kernel, by decide +kernel⟩
theorem ok_law_pen {w : World} {K : PySem.W.Frag} {mg : Str → Option Value} {base : Heap} {fd : FuncData} (hy : Hy K mg) (F : FunD K "_law_pen" "_law_pen" (defArgs s_law_pen) (defBody s_law_pen) (defScope s_law_pen) [] [] 454 fd)  : FnM PP w K mg base 1 454 1 f_law_pen := by
  refine (fnx_mM F sc_law_pen fun cdv A outer s H E hgs hr => ?_).all (bindsE F fun _ _ _ _ _ _ us hl => match us, hl with | [_], _ => rfl)
  have g := Gd.fn (P := PP) (w := w) (K := K) (mg := mg) (base := base) (outer := outer) (H := H) (E := E) hr sc_law_pen.nd hgs
  exact rs_one (rs_ret (re_lstM (ra_cons (re_cty (c_list mkL_ok) (hy.free_list) (ra_cons (re_sl mkL_ok (re_var 0) (ro_none) (ro_some (re_int))) (ra_nil))) (ra_cons (re_int) (ra_cons (re_int) (ra_nil))))))
theorem sc_law_draw : FnScope ["_law_pen_here", "_law_many", "_law_turn", "_law_cell", "_law_mixed", "_law_digit", "_law_great"] ["_law_pen_here", "_law_many"] (defScope s_law_draw) := ⟨rfl, rfl, rfl, by decide +kernel, rfl, by decide +kernel, by decide +kernel⟩
theorem ok_law_draw {w : World} {K : PySem.W.Frag} {mg : Str → Option Value} {base : Heap} {fd : FuncData} (hy : Hy K mg) (F : FunD K "_law_draw" "_law_draw" (defArgs s_law_draw) (defBody s_law_draw) (defScope s_law_draw) [] [] 461 fd)  : FnM PP w K mg base 1 461 2 f_law_draw := by
  refine (fnx_m F sc_law_draw fun cdv A outer s H E hgs hr => ?_).all (bindsE F fun _ _ _ _ _ _ us hl => match us, hl with | [_, _], _ => rfl)
  have g := Gd.fn (P := PP) (w := w) (K := K) (mg := mg) (base := base) (outer := outer) (H := H) (E := E) hr sc_law_draw.nd hgs
  exact rs_cons (rs_if (rt_cmp (o_gt) (re_idx (re_var 0) (re_int)) (re_int) (by rfl)) (rs_cons (rs_set 5 g.nd (re_bin (o_mod) (re_cty c_int (hy.free_int) (ra_cons (re_idx (re_var 0) (re_int)) (ra_nil))) (re_var 1)))
    (rs_cons (rs_setI (re_var 0) (re_int) (re_bin (o_fdv) (re_cty c_int (hy.free_int) (ra_cons (re_idx (re_var 0) (re_int)) (ra_nil))) (re_var 1)))
    (rs_one (rs_ret (re_var 5))))) (rs_nil))
    (rs_cons (rs_set 2 g.nd (re_idx (re_var 0) (re_int)))
    (rs_cons (rs_setI (re_var 0) (re_int) (re_bin (o_add mkL_ok) (re_var 2) (re_int)))
    (rs_cons (rs_set 3 g.nd (re_bin (o_add mkL_ok) (re_bin (o_mul mkL_ok) (re_int) (re_var 2)) (re_int)))
    (rs_cons (rs_if (rt_cmp (o_ne g.units) (re_idx (re_var 0) (re_int)) (re_lst (ra_nil)) (by rfl)) (rs_one (rs_set 3 g.nd (re_idx (re_idx (re_var 0) (re_int)) (re_bin (o_mod) (re_cty c_int (hy.free_int) (ra_cons (re_var 2) (ra_nil))) (re_cb c_len (hy.free_len) (ra_cons (re_idx (re_var 0) (re_int)) (ra_nil))))))) (rs_nil))
    (rs_cons (rs_if ((rw_and (rt_cmp (o_lt) (re_var 2) (re_cb c_len (hy.free_len) (ra_cons (re_idx (re_var 0) (re_int)) (ra_nil))) (by rfl)) (rw_one (rt_cmp (o_ge) (re_cb c_abs (hy.free_abs) (ra_cons (re_var 3) (ra_nil))) (re_bin (o_pow) (re_int) (re_int)) (by rfl)) (by first | exact Or.inl rfl | exact Or.inr rfl))).pt) (rs_cons (rs_set 6 g.nd (re_bin (o_add mkL_ok) (re_bin (o_mul mkL_ok) (re_int) (re_bin (o_sub) (re_cb c_abs (hy.free_abs) (ra_cons (re_var 3) (ra_nil))) (re_bin (o_pow) (re_int) (re_int)))) (re_cty c_int (hy.free_int) (ra_cons (re_cmp (o_lt) (re_var 3) (re_int) (by rfl)) (ra_nil)))))
    (rs_cons (rs_setI (re_var 0) (re_int) (re_bin (o_fdv) (re_cty c_int (hy.free_int) (ra_cons (re_var 6) (ra_nil))) (re_var 1)))
    (rs_one (rs_ret (re_bin (o_mod) (re_cty c_int (hy.free_int) (ra_cons (re_var 6) (ra_nil))) (re_var 1)))))) (rs_nil))
    (rs_cons (rs_set 4 g.nd (re_bin (o_mod) (re_cty c_int (hy.free_int) (ra_cons (re_bin (o_pow) (re_bin (o_add mkL_ok) (re_bin (o_add mkL_ok) (re_bin (o_mod) (re_cty c_int (hy.free_int) (ra_cons (re_var 3) (ra_nil))) (re_int)) (re_bin (o_mul mkL_ok) (re_int) (re_var 2))) (re_int)) (re_int)) (ra_nil))) (re_int)))
    (rs_cons (rs_set 4 g.nd (re_bin (o_mod) (re_cty c_int (hy.free_int) (ra_cons (re_bin (o_pow) (re_bin (o_add mkL_ok) (re_bin (o_add mkL_ok) (re_bin (o_mul mkL_ok) (re_var 4) (re_bin (o_add mkL_ok) (re_bin (o_mul mkL_ok) (re_int) (re_var 2)) (re_int))) (re_bin (o_mul mkL_ok) (re_bin (o_mul mkL_ok) (re_int) (re_var 2)) (re_var 2))) (re_int)) (re_int)) (ra_nil))) (re_int)))
    (rs_one (rs_ret (re_bin (o_mod) (re_cty c_int (hy.free_int) (ra_cons (re_bin (o_fdv) (re_var 4) (re_int)) (ra_nil))) (re_var 1)))))))))))
theorem sc_law_pick : FnScope ["_law_pen_here", "_law_some"] ["_law_pen_here", "_law_some"] (defScope s_law_pick) := ⟨rfl, rfl, rfl, by decide +kernel, rfl, by decide +kernel, by decide +kernel⟩
theorem ok_law_pick {w : World} {K : PySem.W.Frag} {mg : Str → Option Value} {base : Heap} {fd : FuncData} (hy : Hy K mg) (F : FunD K "_law_pick" "_law_pick" (defArgs s_law_pick) (defBody s_law_pick) (defScope s_law_pick) [] [] 468 fd) (c_law_draw : Cal w K mg base "_law_draw" 461 1 2 f_law_draw) : FnM PP w K mg base 2 468 2 f_law_pick := by
  refine (fnx_m F sc_law_pick fun cdv A outer s H E hgs hr => ?_).all (bindsE F fun _ _ _ _ _ _ us hl => match us, hl with | [_, _], _ => rfl)
  have g := Gd.fn (P := PP) (w := w) (K := K) (mg := mg) (base := base) (outer := outer) (H := H) (E := E) hr sc_law_pick.nd hgs
  exact rs_one (rs_ret (re_idx (re_var 1) (re_call g c_law_draw.F (by decide) c_law_draw.hm c_law_draw.hk (ra_cons (re_var 0) (ra_cons (re_cb c_len (hy.free_len) (ra_cons (re_var 1) (ra_nil))) (ra_nil))))))
theorem sc_law_classes_right : FnScope ["_law_some", "_law_told", "_law_one"] [] (defScope s_law_classes_right) := ⟨rfl, rfl, rfl, by decide +kernel, rfl, by decide +kernel, by decide +kernel⟩
theorem ok_law_classes_right {w : World} {K : PySem.W.Frag} {mg : Str → Option Value} {base : Heap} {fd : FuncData} (hy : Hy K mg) (F : FunD K "_law_classes_right" "_law_classes_right" (defArgs s_law_classes_right) (defBody s_law_classes_right) (defScope s_law_classes_right) [] [] 473 fd)  : FnM PP w K mg base 2 473 0 f_law_classes_right := by
  refine (fnx_m F sc_law_classes_right fun cdv A outer s H E hgs hr => ?_).all (bindsE F fun _ _ _ _ _ _ us hl => match us, hl with | [], _ => rfl)
  have g := Gd.fn (P := PP) (w := w) (K := K) (mg := mg) (base := base) (outer := outer) (H := H) (E := E) hr sc_law_classes_right.nd hgs
  exact rs_cons (rs_set 0 g.nd (re_lst (ra_cons (re_exc (ps := ["value"]) (rv := false) g hy.xc_BadStages (by decide) (hy.free_super) (hy.glo_BadStages) (by decide) (ra_cons (re_int) (ra_nil)) rfl (fun _ _ _ _ _ _ _ _ _ _ _ _ _ us hp hl => match us, hl with | [_], _ => bind_1 hp rfl)) (ra_cons (re_exc (ps := ["value"]) (rv := false) g hy.xc_BadStage (by decide) (hy.free_super) (hy.glo_BadStage) (by decide) (ra_cons (re_int) (ra_nil)) rfl (fun _ _ _ _ _ _ _ _ _ _ _ _ _ us hp hl => match us, hl with | [_], _ => bind_1 hp rfl)) (ra_cons (re_exc (ps := ["at"]) (rv := false) g hy.xc_BadLot (by decide) (hy.free_super) (hy.glo_BadLot) (by decide) (ra_cons (re_int) (ra_nil)) rfl (fun _ _ _ _ _ _ _ _ _ _ _ _ _ us hp hl => match us, hl with | [_], _ => bind_1 hp rfl)) (ra_cons (re_exc (ps := ["part"]) (rv := false) g hy.xc_NoPart (by decide) (hy.free_super) (hy.glo_NoPart) (by decide) (ra_cons (re_int) (ra_nil)) rfl (fun _ _ _ _ _ _ _ _ _ _ _ _ _ us hp hl => match us, hl with | [_], _ => bind_1 hp rfl)) (ra_cons (re_exc (ps := ["value"]) (rv := false) g hy.xc_NoPlace (by decide) (hy.free_super) (hy.glo_NoPlace) (by decide) (ra_cons (re_int) (ra_nil)) rfl (fun _ _ _ _ _ _ _ _ _ _ _ _ _ us hp hl => match us, hl with | [_], _ => bind_1 hp rfl)) (ra_cons (re_exc (ps := ["at"]) (rv := false) g hy.xc_BadDeed (by decide) (hy.free_super) (hy.glo_BadDeed) (by decide) (ra_cons (re_int) (ra_nil)) rfl (fun _ _ _ _ _ _ _ _ _ _ _ _ _ us hp hl => match us, hl with | [_], _ => bind_1 hp rfl)) (ra_cons (re_exc (ps := ["word"]) (rv := false) g hy.xc_Cannot (by decide) (hy.free_super) (hy.glo_Cannot) (by decide) (ra_cons (re_int) (ra_nil)) rfl (fun _ _ _ _ _ _ _ _ _ _ _ _ _ us hp hl => match us, hl with | [_], _ => bind_1 hp rfl)) (ra_cons (re_exc (ps := ["word"]) (rv := false) g hy.xc_Refused (by decide) (hy.free_super) (hy.glo_Refused) (by decide) (ra_cons (re_int) (ra_nil)) rfl (fun _ _ _ _ _ _ _ _ _ _ _ _ _ us hp hl => match us, hl with | [_], _ => bind_1 hp rfl)) (ra_cons (re_exc (ps := ["pairs"]) (rv := false) g hy.xc_Untried (by decide) (hy.free_super) (hy.glo_Untried) (by decide) (ra_cons (re_int) (ra_nil)) rfl (fun _ _ _ _ _ _ _ _ _ _ _ _ _ us hp hl => match us, hl with | [_], _ => bind_1 hp rfl)) (ra_cons (re_exc0 g hy.xc_Nothing (by decide) (hy.free_super) (hy.glo_Nothing) (fun _ _ _ _ _ _ _ _ _ _ _ _ _ hp => bind_0 hp)) (ra_cons (re_exc (ps := ["part"]) (rv := false) g hy.xc_BadRule (by decide) (hy.free_super) (hy.glo_BadRule) (by decide) (ra_cons (re_int) (ra_nil)) rfl (fun _ _ _ _ _ _ _ _ _ _ _ _ _ us hp hl => match us, hl with | [_], _ => bind_1 hp rfl)) (ra_cons (re_exc (ps := ["word"]) (rv := false) g hy.xc_Twice (by decide) (hy.free_super) (hy.glo_Twice) (by decide) (ra_cons (re_int) (ra_nil)) rfl (fun _ _ _ _ _ _ _ _ _ _ _ _ _ us hp hl => match us, hl with | [_], _ => bind_1 hp rfl)) (ra_cons (re_exc (ps := ["at"]) (rv := false) g hy.xc_BadGate (by decide) (hy.free_super) (hy.glo_BadGate) (by decide) (ra_cons (re_int) (ra_nil)) rfl (fun _ _ _ _ _ _ _ _ _ _ _ _ _ us hp hl => match us, hl with | [_], _ => bind_1 hp rfl)) (ra_cons (re_exc (ps := ["part"]) (rv := false) g hy.xc_BadWish (by decide) (hy.free_super) (hy.glo_BadWish) (by decide) (ra_cons (re_int) (ra_nil)) rfl (fun _ _ _ _ _ _ _ _ _ _ _ _ _ us hp hl => match us, hl with | [_], _ => bind_1 hp rfl)) (ra_cons (re_exc (ps := ["value"]) (rv := false) g hy.xc_BadCount (by decide) (hy.free_super) (hy.glo_BadCount) (by decide) (ra_cons (re_int) (ra_nil)) rfl (fun _ _ _ _ _ _ _ _ _ _ _ _ _ us hp hl => match us, hl with | [_], _ => bind_1 hp rfl)) (ra_cons (re_exc (ps := ["value"]) (rv := false) g hy.xc_BadLength (by decide) (hy.free_super) (hy.glo_BadLength) (by decide) (ra_cons (re_int) (ra_nil)) rfl (fun _ _ _ _ _ _ _ _ _ _ _ _ _ us hp hl => match us, hl with | [_], _ => bind_1 hp rfl)) (ra_cons (re_exc0 g hy.xc_BadMenu (by decide) (hy.free_super) (hy.glo_BadMenu) (fun _ _ _ _ _ _ _ _ _ _ _ _ _ hp => bind_0 hp)) (ra_cons (re_exc (ps := ["what", "most"]) (rv := false) g hy.xc_TooMany (by decide) (hy.free_super) (hy.glo_TooMany) (by decide) (ra_cons (re_int) (ra_cons (re_int) (ra_nil))) rfl (fun _ _ _ _ _ _ _ _ _ _ _ _ _ us hp hl => match us, hl with | [_, _], _ => bind_2 hp rfl rfl rfl)) (ra_cons (re_exc (ps := ["line", "word"]) (rv := false) g hy.xc_BadText (by decide) (hy.free_super) (hy.glo_BadText) (by decide) (ra_cons (re_int) (ra_cons (re_int) (ra_nil))) rfl (fun _ _ _ _ _ _ _ _ _ _ _ _ _ us hp hl => match us, hl with | [_, _], _ => bind_2 hp rfl rfl rfl)) (ra_cons (re_exc (ps := ["word"]) (rv := false) g hy.xc_BadLine (by decide) (hy.free_super) (hy.glo_BadLine) (by decide) (ra_cons (re_int) (ra_nil)) rfl (fun _ _ _ _ _ _ _ _ _ _ _ _ _ us hp hl => match us, hl with | [_], _ => bind_1 hp rfl)) (ra_nil)))))))))))))))))))))))
    (rs_cons (rs_set 1 g.nd (re_lstM (ra_nil)))
    (rs_cons (rs_expr (re_bm PySem.F.plainAttrs_list PySem.F.slot_list_append PySem.F.type_list_append m_append (re_var 1) (ra_cons (re_lc (fp := [2]) (own := [("_law_one", 2)]) g mkL_at (ri_range1 (hy.free_range) (ra_cons (re_int) (ra_nil))) (blkOk_by (by rfl)) (fun _ _ _ _ _ => rg_name 2 g.nd (by rfl) (by first | exact Or.inl rfl | exact Or.inr rfl) (by decide)) (fun _ _ _ _ _ g1 => rts_one (rt_tru (re_cb (c_isi hy.ok) (hy.free_isinstance) (ra_cons (re_idx (re_var 0) (re_var 2)) (ra_cons (re_glob (v := .ref 46) (y := .st 46) (hy.glo_BadStages) rfl fun _ _ => rfl) (ra_nil)))))) (fun _ _ _ _ _ g1 => re_var 2) (by decide)) (ra_nil))))
    (rs_cons (rs_expr (re_bm PySem.F.plainAttrs_list PySem.F.slot_list_append PySem.F.type_list_append m_append (re_var 1) (ra_cons (re_lc (fp := [2]) (own := [("_law_one", 2)]) g mkL_at (ri_range1 (hy.free_range) (ra_cons (re_int) (ra_nil))) (blkOk_by (by rfl)) (fun _ _ _ _ _ => rg_name 2 g.nd (by rfl) (by first | exact Or.inl rfl | exact Or.inr rfl) (by decide)) (fun _ _ _ _ _ g2 => rts_one (rt_tru (re_cb (c_isi hy.ok) (hy.free_isinstance) (ra_cons (re_idx (re_var 0) (re_var 2)) (ra_cons (re_glob (v := .ref 67) (y := .st 67) (hy.glo_BadStage) rfl fun _ _ => rfl) (ra_nil)))))) (fun _ _ _ _ _ g2 => re_var 2) (by decide)) (ra_nil))))
    (rs_cons (rs_expr (re_bm PySem.F.plainAttrs_list PySem.F.slot_list_append PySem.F.type_list_append m_append (re_var 1) (ra_cons (re_lc (fp := [2]) (own := [("_law_one", 2)]) g mkL_at (ri_range1 (hy.free_range) (ra_cons (re_int) (ra_nil))) (blkOk_by (by rfl)) (fun _ _ _ _ _ => rg_name 2 g.nd (by rfl) (by first | exact Or.inl rfl | exact Or.inr rfl) (by decide)) (fun _ _ _ _ _ g3 => rts_one (rt_tru (re_cb (c_isi hy.ok) (hy.free_isinstance) (ra_cons (re_idx (re_var 0) (re_var 2)) (ra_cons (re_glob (v := .ref 88) (y := .st 88) (hy.glo_BadLot) rfl fun _ _ => rfl) (ra_nil)))))) (fun _ _ _ _ _ g3 => re_var 2) (by decide)) (ra_nil))))
    (rs_cons (rs_expr (re_bm PySem.F.plainAttrs_list PySem.F.slot_list_append PySem.F.type_list_append m_append (re_var 1) (ra_cons (re_lc (fp := [2]) (own := [("_law_one", 2)]) g mkL_at (ri_range1 (hy.free_range) (ra_cons (re_int) (ra_nil))) (blkOk_by (by rfl)) (fun _ _ _ _ _ => rg_name 2 g.nd (by rfl) (by first | exact Or.inl rfl | exact Or.inr rfl) (by decide)) (fun _ _ _ _ _ g4 => rts_one (rt_tru (re_cb (c_isi hy.ok) (hy.free_isinstance) (ra_cons (re_idx (re_var 0) (re_var 2)) (ra_cons (re_glob (v := .ref 109) (y := .st 109) (hy.glo_NoPart) rfl fun _ _ => rfl) (ra_nil)))))) (fun _ _ _ _ _ g4 => re_var 2) (by decide)) (ra_nil))))
    (rs_cons (rs_expr (re_bm PySem.F.plainAttrs_list PySem.F.slot_list_append PySem.F.type_list_append m_append (re_var 1) (ra_cons (re_lc (fp := [2]) (own := [("_law_one", 2)]) g mkL_at (ri_range1 (hy.free_range) (ra_cons (re_int) (ra_nil))) (blkOk_by (by rfl)) (fun _ _ _ _ _ => rg_name 2 g.nd (by rfl) (by first | exact Or.inl rfl | exact Or.inr rfl) (by decide)) (fun _ _ _ _ _ g5 => rts_one (rt_tru (re_cb (c_isi hy.ok) (hy.free_isinstance) (ra_cons (re_idx (re_var 0) (re_var 2)) (ra_cons (re_glob (v := .ref 130) (y := .st 130) (hy.glo_NoPlace) rfl fun _ _ => rfl) (ra_nil)))))) (fun _ _ _ _ _ g5 => re_var 2) (by decide)) (ra_nil))))
    (rs_cons (rs_expr (re_bm PySem.F.plainAttrs_list PySem.F.slot_list_append PySem.F.type_list_append m_append (re_var 1) (ra_cons (re_lc (fp := [2]) (own := [("_law_one", 2)]) g mkL_at (ri_range1 (hy.free_range) (ra_cons (re_int) (ra_nil))) (blkOk_by (by rfl)) (fun _ _ _ _ _ => rg_name 2 g.nd (by rfl) (by first | exact Or.inl rfl | exact Or.inr rfl) (by decide)) (fun _ _ _ _ _ g6 => rts_one (rt_tru (re_cb (c_isi hy.ok) (hy.free_isinstance) (ra_cons (re_idx (re_var 0) (re_var 2)) (ra_cons (re_glob (v := .ref 151) (y := .st 151) (hy.glo_BadDeed) rfl fun _ _ => rfl) (ra_nil)))))) (fun _ _ _ _ _ g6 => re_var 2) (by decide)) (ra_nil))))
    (rs_cons (rs_expr (re_bm PySem.F.plainAttrs_list PySem.F.slot_list_append PySem.F.type_list_append m_append (re_var 1) (ra_cons (re_lc (fp := [2]) (own := [("_law_one", 2)]) g mkL_at (ri_range1 (hy.free_range) (ra_cons (re_int) (ra_nil))) (blkOk_by (by rfl)) (fun _ _ _ _ _ => rg_name 2 g.nd (by rfl) (by first | exact Or.inl rfl | exact Or.inr rfl) (by decide)) (fun _ _ _ _ _ g7 => rts_one (rt_tru (re_cb (c_isi hy.ok) (hy.free_isinstance) (ra_cons (re_idx (re_var 0) (re_var 2)) (ra_cons (re_glob (v := .ref 172) (y := .st 172) (hy.glo_Cannot) rfl fun _ _ => rfl) (ra_nil)))))) (fun _ _ _ _ _ g7 => re_var 2) (by decide)) (ra_nil))))
    (rs_cons (rs_expr (re_bm PySem.F.plainAttrs_list PySem.F.slot_list_append PySem.F.type_list_append m_append (re_var 1) (ra_cons (re_lc (fp := [2]) (own := [("_law_one", 2)]) g mkL_at (ri_range1 (hy.free_range) (ra_cons (re_int) (ra_nil))) (blkOk_by (by rfl)) (fun _ _ _ _ _ => rg_name 2 g.nd (by rfl) (by first | exact Or.inl rfl | exact Or.inr rfl) (by decide)) (fun _ _ _ _ _ g8 => rts_one (rt_tru (re_cb (c_isi hy.ok) (hy.free_isinstance) (ra_cons (re_idx (re_var 0) (re_var 2)) (ra_cons (re_glob (v := .ref 193) (y := .st 193) (hy.glo_Refused) rfl fun _ _ => rfl) (ra_nil)))))) (fun _ _ _ _ _ g8 => re_var 2) (by decide)) (ra_nil))))
    (rs_cons (rs_expr (re_bm PySem.F.plainAttrs_list PySem.F.slot_list_append PySem.F.type_list_append m_append (re_var 1) (ra_cons (re_lc (fp := [2]) (own := [("_law_one", 2)]) g mkL_at (ri_range1 (hy.free_range) (ra_cons (re_int) (ra_nil))) (blkOk_by (by rfl)) (fun _ _ _ _ _ => rg_name 2 g.nd (by rfl) (by first | exact Or.inl rfl | exact Or.inr rfl) (by decide)) (fun _ _ _ _ _ g9 => rts_one (rt_tru (re_cb (c_isi hy.ok) (hy.free_isinstance) (ra_cons (re_idx (re_var 0) (re_var 2)) (ra_cons (re_glob (v := .ref 214) (y := .st 214) (hy.glo_Untried) rfl fun _ _ => rfl) (ra_nil)))))) (fun _ _ _ _ _ g9 => re_var 2) (by decide)) (ra_nil))))
    (rs_cons (rs_expr (re_bm PySem.F.plainAttrs_list PySem.F.slot_list_append PySem.F.type_list_append m_append (re_var 1) (ra_cons (re_lc (fp := [2]) (own := [("_law_one", 2)]) g mkL_at (ri_range1 (hy.free_range) (ra_cons (re_int) (ra_nil))) (blkOk_by (by rfl)) (fun _ _ _ _ _ => rg_name 2 g.nd (by rfl) (by first | exact Or.inl rfl | exact Or.inr rfl) (by decide)) (fun _ _ _ _ _ g10 => rts_one (rt_tru (re_cb (c_isi hy.ok) (hy.free_isinstance) (ra_cons (re_idx (re_var 0) (re_var 2)) (ra_cons (re_glob (v := .ref 235) (y := .st 235) (hy.glo_Nothing) rfl fun _ _ => rfl) (ra_nil)))))) (fun _ _ _ _ _ g10 => re_var 2) (by decide)) (ra_nil))))
    (rs_cons (rs_expr (re_bm PySem.F.plainAttrs_list PySem.F.slot_list_append PySem.F.type_list_append m_append (re_var 1) (ra_cons (re_lc (fp := [2]) (own := [("_law_one", 2)]) g mkL_at (ri_range1 (hy.free_range) (ra_cons (re_int) (ra_nil))) (blkOk_by (by rfl)) (fun _ _ _ _ _ => rg_name 2 g.nd (by rfl) (by first | exact Or.inl rfl | exact Or.inr rfl) (by decide)) (fun _ _ _ _ _ g11 => rts_one (rt_tru (re_cb (c_isi hy.ok) (hy.free_isinstance) (ra_cons (re_idx (re_var 0) (re_var 2)) (ra_cons (re_glob (v := .ref 256) (y := .st 256) (hy.glo_BadRule) rfl fun _ _ => rfl) (ra_nil)))))) (fun _ _ _ _ _ g11 => re_var 2) (by decide)) (ra_nil))))
    (rs_cons (rs_expr (re_bm PySem.F.plainAttrs_list PySem.F.slot_list_append PySem.F.type_list_append m_append (re_var 1) (ra_cons (re_lc (fp := [2]) (own := [("_law_one", 2)]) g mkL_at (ri_range1 (hy.free_range) (ra_cons (re_int) (ra_nil))) (blkOk_by (by rfl)) (fun _ _ _ _ _ => rg_name 2 g.nd (by rfl) (by first | exact Or.inl rfl | exact Or.inr rfl) (by decide)) (fun _ _ _ _ _ g12 => rts_one (rt_tru (re_cb (c_isi hy.ok) (hy.free_isinstance) (ra_cons (re_idx (re_var 0) (re_var 2)) (ra_cons (re_glob (v := .ref 277) (y := .st 277) (hy.glo_Twice) rfl fun _ _ => rfl) (ra_nil)))))) (fun _ _ _ _ _ g12 => re_var 2) (by decide)) (ra_nil))))
    (rs_cons (rs_expr (re_bm PySem.F.plainAttrs_list PySem.F.slot_list_append PySem.F.type_list_append m_append (re_var 1) (ra_cons (re_lc (fp := [2]) (own := [("_law_one", 2)]) g mkL_at (ri_range1 (hy.free_range) (ra_cons (re_int) (ra_nil))) (blkOk_by (by rfl)) (fun _ _ _ _ _ => rg_name 2 g.nd (by rfl) (by first | exact Or.inl rfl | exact Or.inr rfl) (by decide)) (fun _ _ _ _ _ g13 => rts_one (rt_tru (re_cb (c_isi hy.ok) (hy.free_isinstance) (ra_cons (re_idx (re_var 0) (re_var 2)) (ra_cons (re_glob (v := .ref 298) (y := .st 298) (hy.glo_BadGate) rfl fun _ _ => rfl) (ra_nil)))))) (fun _ _ _ _ _ g13 => re_var 2) (by decide)) (ra_nil))))
    (rs_cons (rs_expr (re_bm PySem.F.plainAttrs_list PySem.F.slot_list_append PySem.F.type_list_append m_append (re_var 1) (ra_cons (re_lc (fp := [2]) (own := [("_law_one", 2)]) g mkL_at (ri_range1 (hy.free_range) (ra_cons (re_int) (ra_nil))) (blkOk_by (by rfl)) (fun _ _ _ _ _ => rg_name 2 g.nd (by rfl) (by first | exact Or.inl rfl | exact Or.inr rfl) (by decide)) (fun _ _ _ _ _ g14 => rts_one (rt_tru (re_cb (c_isi hy.ok) (hy.free_isinstance) (ra_cons (re_idx (re_var 0) (re_var 2)) (ra_cons (re_glob (v := .ref 319) (y := .st 319) (hy.glo_BadWish) rfl fun _ _ => rfl) (ra_nil)))))) (fun _ _ _ _ _ g14 => re_var 2) (by decide)) (ra_nil))))
    (rs_cons (rs_expr (re_bm PySem.F.plainAttrs_list PySem.F.slot_list_append PySem.F.type_list_append m_append (re_var 1) (ra_cons (re_lc (fp := [2]) (own := [("_law_one", 2)]) g mkL_at (ri_range1 (hy.free_range) (ra_cons (re_int) (ra_nil))) (blkOk_by (by rfl)) (fun _ _ _ _ _ => rg_name 2 g.nd (by rfl) (by first | exact Or.inl rfl | exact Or.inr rfl) (by decide)) (fun _ _ _ _ _ g15 => rts_one (rt_tru (re_cb (c_isi hy.ok) (hy.free_isinstance) (ra_cons (re_idx (re_var 0) (re_var 2)) (ra_cons (re_glob (v := .ref 340) (y := .st 340) (hy.glo_BadCount) rfl fun _ _ => rfl) (ra_nil)))))) (fun _ _ _ _ _ g15 => re_var 2) (by decide)) (ra_nil))))
    (rs_cons (rs_expr (re_bm PySem.F.plainAttrs_list PySem.F.slot_list_append PySem.F.type_list_append m_append (re_var 1) (ra_cons (re_lc (fp := [2]) (own := [("_law_one", 2)]) g mkL_at (ri_range1 (hy.free_range) (ra_cons (re_int) (ra_nil))) (blkOk_by (by rfl)) (fun _ _ _ _ _ => rg_name 2 g.nd (by rfl) (by first | exact Or.inl rfl | exact Or.inr rfl) (by decide)) (fun _ _ _ _ _ g16 => rts_one (rt_tru (re_cb (c_isi hy.ok) (hy.free_isinstance) (ra_cons (re_idx (re_var 0) (re_var 2)) (ra_cons (re_glob (v := .ref 361) (y := .st 361) (hy.glo_BadLength) rfl fun _ _ => rfl) (ra_nil)))))) (fun _ _ _ _ _ g16 => re_var 2) (by decide)) (ra_nil))))
    (rs_cons (rs_expr (re_bm PySem.F.plainAttrs_list PySem.F.slot_list_append PySem.F.type_list_append m_append (re_var 1) (ra_cons (re_lc (fp := [2]) (own := [("_law_one", 2)]) g mkL_at (ri_range1 (hy.free_range) (ra_cons (re_int) (ra_nil))) (blkOk_by (by rfl)) (fun _ _ _ _ _ => rg_name 2 g.nd (by rfl) (by first | exact Or.inl rfl | exact Or.inr rfl) (by decide)) (fun _ _ _ _ _ g17 => rts_one (rt_tru (re_cb (c_isi hy.ok) (hy.free_isinstance) (ra_cons (re_idx (re_var 0) (re_var 2)) (ra_cons (re_glob (v := .ref 382) (y := .st 382) (hy.glo_BadMenu) rfl fun _ _ => rfl) (ra_nil)))))) (fun _ _ _ _ _ g17 => re_var 2) (by decide)) (ra_nil))))
    (rs_cons (rs_expr (re_bm PySem.F.plainAttrs_list PySem.F.slot_list_append PySem.F.type_list_append m_append (re_var 1) (ra_cons (re_lc (fp := [2]) (own := [("_law_one", 2)]) g mkL_at (ri_range1 (hy.free_range) (ra_cons (re_int) (ra_nil))) (blkOk_by (by rfl)) (fun _ _ _ _ _ => rg_name 2 g.nd (by rfl) (by first | exact Or.inl rfl | exact Or.inr rfl) (by decide)) (fun _ _ _ _ _ g18 => rts_one (rt_tru (re_cb (c_isi hy.ok) (hy.free_isinstance) (ra_cons (re_idx (re_var 0) (re_var 2)) (ra_cons (re_glob (v := .ref 403) (y := .st 403) (hy.glo_TooMany) rfl fun _ _ => rfl) (ra_nil)))))) (fun _ _ _ _ _ g18 => re_var 2) (by decide)) (ra_nil))))
    (rs_cons (rs_expr (re_bm PySem.F.plainAttrs_list PySem.F.slot_list_append PySem.F.type_list_append m_append (re_var 1) (ra_cons (re_lc (fp := [2]) (own := [("_law_one", 2)]) g mkL_at (ri_range1 (hy.free_range) (ra_cons (re_int) (ra_nil))) (blkOk_by (by rfl)) (fun _ _ _ _ _ => rg_name 2 g.nd (by rfl) (by first | exact Or.inl rfl | exact Or.inr rfl) (by decide)) (fun _ _ _ _ _ g19 => rts_one (rt_tru (re_cb (c_isi hy.ok) (hy.free_isinstance) (ra_cons (re_idx (re_var 0) (re_var 2)) (ra_cons (re_glob (v := .ref 424) (y := .st 424) (hy.glo_BadText) rfl fun _ _ => rfl) (ra_nil)))))) (fun _ _ _ _ _ g19 => re_var 2) (by decide)) (ra_nil))))
    (rs_cons (rs_expr (re_bm PySem.F.plainAttrs_list PySem.F.slot_list_append PySem.F.type_list_append m_append (re_var 1) (ra_cons (re_lc (fp := [2]) (own := [("_law_one", 2)]) g mkL_at (ri_range1 (hy.free_range) (ra_cons (re_int) (ra_nil))) (blkOk_by (by rfl)) (fun _ _ _ _ _ => rg_name 2 g.nd (by rfl) (by first | exact Or.inl rfl | exact Or.inr rfl) (by decide)) (fun _ _ _ _ _ g20 => rts_one (rt_tru (re_cb (c_isi hy.ok) (hy.free_isinstance) (ra_cons (re_idx (re_var 0) (re_var 2)) (ra_cons (re_glob (v := .ref 445) (y := .st 445) (hy.glo_BadLine) rfl fun _ _ => rfl) (ra_nil)))))) (fun _ _ _ _ _ g20 => re_var 2) (by decide)) (ra_nil))))
    (rs_cons (rs_if (rt_cmp (o_ne g.units) (re_var 1) (re_lc (fp := [2]) (own := [("_law_one", 2)]) g mkL_at (ri_range1 (hy.free_range) (ra_cons (re_int) (ra_nil))) (blkOk_by (by rfl)) (fun _ _ _ _ _ => rg_name 2 g.nd (by rfl) (by first | exact Or.inl rfl | exact Or.inr rfl) (by decide)) (fun _ _ _ _ _ g21 => rts_nil) (fun _ _ _ _ _ g21 => re_lst (ra_cons (re_var 2) (ra_nil))) (by decide)) (by rfl)) (rs_one (rs_ret (re_bl))) (rs_nil))
    (rs_one (rs_ret (re_cmp (o_eq g.units) (re_lc (fp := [2]) (own := [("_law_one", 2)]) g mkL_at (ri_seq (re_var 0)) (blkOk_by (by rfl)) (fun _ _ _ _ _ => rg_name 2 g.nd (by rfl) (by first | exact Or.inl rfl | exact Or.inr rfl) (by decide)) (fun _ _ _ _ _ g22 => rts_one ((rw_or (rt_not (rt_tru (re_cb (c_isi hy.ok) (hy.free_isinstance) (ra_cons (re_var 2) (ra_cons (re_glob (v := .ref 24) (y := .st 24) (hy.glo_WorksError) rfl fun _ _ => rfl) (ra_nil)))))) (rw_one (rt_not (rt_tru (re_cb (c_isi hy.ok) (hy.free_isinstance) (ra_cons (re_var 2) (ra_cons (re_bltn (v := .ty "ValueError") (y := .ty "ValueError") (hy.free_ValueError) (by decide +kernel) rfl fun _ _ => rfl) (ra_nil)))))) (by first | exact Or.inl rfl | exact Or.inr rfl))).pt)) (fun _ _ _ _ _ g22 => re_var 2) (by decide)) (re_lst (ra_nil)) (by rfl))))))))))))))))))))))))))
theorem sc_law_kept_right : FnScope ["_law_odd", "_law_told", "_law_one"] ["_law_odd"] (defScope s_law_kept_right) := ⟨rfl, rfl, rfl, by decide +kernel, rfl, by decide +kernel, by decide +kernel⟩
theorem ok_law_kept_right {w : World} {K : PySem.W.Frag} {mg : Str → Option Value} {base : Heap} {fd : FuncData} (hy : Hy K mg) (F : FunD K "_law_kept_right" "_law_kept_right" (defArgs s_law_kept_right) (defBody s_law_kept_right) (defScope s_law_kept_right) [] [] 478 fd)  : FnM PP w K mg base 2 478 1 f_law_kept_right := by
  refine (fnx_m F sc_law_kept_right fun cdv A outer s H E hgs hr => ?_).all (bindsE F fun _ _ _ _ _ _ us hl => match us, hl with | [_], _ => rfl)
  have g := Gd.fn (P := PP) (w := w) (K := K) (mg := mg) (base := base) (outer := outer) (H := H) (E := E) hr sc_law_kept_right.nd hgs
  exact rs_cons (rs_set 1 g.nd (re_lst (ra_cons (re_att hy.ok (re_exc (ps := ["value"]) (rv := false) g hy.xc_BadStages (by decide) (hy.free_super) (hy.glo_BadStages) (by decide) (ra_cons (re_var 0) (ra_nil)) rfl (fun _ _ _ _ _ _ _ _ _ _ _ _ _ us hp hl => match us, hl with | [_], _ => bind_1 hp rfl))) (ra_cons (re_att hy.ok (re_excK (ps := ["value"]) (rv := false) g hy.xc_BadStages (by decide) (hy.free_super) (hy.glo_BadStages) (by decide) (rk_cons (re_var 0) (rk_nil)) (hb := fun _ _ _ _ _ _ _ _ _ _ _ _ _ ws hp hl => match ws, hl with | [_], _ => bind_k1 hp rfl))) (ra_cons (re_att hy.ok (re_exc (ps := ["value"]) (rv := false) g hy.xc_BadStage (by decide) (hy.free_super) (hy.glo_BadStage) (by decide) (ra_cons (re_var 0) (ra_nil)) rfl (fun _ _ _ _ _ _ _ _ _ _ _ _ _ us hp hl => match us, hl with | [_], _ => bind_1 hp rfl))) (ra_cons (re_att hy.ok (re_excK (ps := ["value"]) (rv := false) g hy.xc_BadStage (by decide) (hy.free_super) (hy.glo_BadStage) (by decide) (rk_cons (re_var 0) (rk_nil)) (hb := fun _ _ _ _ _ _ _ _ _ _ _ _ _ ws hp hl => match ws, hl with | [_], _ => bind_k1 hp rfl))) (ra_nil)))))))
    (rs_cons (rs_set 1 g.nd (re_bin (o_add mkL_ok) (re_var 1) (re_lst (ra_cons (re_att hy.ok (re_exc (ps := ["at"]) (rv := false) g hy.xc_BadLot (by decide) (hy.free_super) (hy.glo_BadLot) (by decide) (ra_cons (re_var 0) (ra_nil)) rfl (fun _ _ _ _ _ _ _ _ _ _ _ _ _ us hp hl => match us, hl with | [_], _ => bind_1 hp rfl))) (ra_cons (re_att hy.ok (re_excK (ps := ["at"]) (rv := false) g hy.xc_BadLot (by decide) (hy.free_super) (hy.glo_BadLot) (by decide) (rk_cons (re_var 0) (rk_nil)) (hb := fun _ _ _ _ _ _ _ _ _ _ _ _ _ ws hp hl => match ws, hl with | [_], _ => bind_k1 hp rfl))) (ra_cons (re_att hy.ok (re_exc (ps := ["part"]) (rv := false) g hy.xc_NoPart (by decide) (hy.free_super) (hy.glo_NoPart) (by decide) (ra_cons (re_var 0) (ra_nil)) rfl (fun _ _ _ _ _ _ _ _ _ _ _ _ _ us hp hl => match us, hl with | [_], _ => bind_1 hp rfl))) (ra_cons (re_att hy.ok (re_excK (ps := ["part"]) (rv := false) g hy.xc_NoPart (by decide) (hy.free_super) (hy.glo_NoPart) (by decide) (rk_cons (re_var 0) (rk_nil)) (hb := fun _ _ _ _ _ _ _ _ _ _ _ _ _ ws hp hl => match ws, hl with | [_], _ => bind_k1 hp rfl))) (ra_nil))))))))
    (rs_cons (rs_set 1 g.nd (re_bin (o_add mkL_ok) (re_var 1) (re_lst (ra_cons (re_att hy.ok (re_exc (ps := ["value"]) (rv := false) g hy.xc_NoPlace (by decide) (hy.free_super) (hy.glo_NoPlace) (by decide) (ra_cons (re_var 0) (ra_nil)) rfl (fun _ _ _ _ _ _ _ _ _ _ _ _ _ us hp hl => match us, hl with | [_], _ => bind_1 hp rfl))) (ra_cons (re_att hy.ok (re_excK (ps := ["value"]) (rv := false) g hy.xc_NoPlace (by decide) (hy.free_super) (hy.glo_NoPlace) (by decide) (rk_cons (re_var 0) (rk_nil)) (hb := fun _ _ _ _ _ _ _ _ _ _ _ _ _ ws hp hl => match ws, hl with | [_], _ => bind_k1 hp rfl))) (ra_cons (re_att hy.ok (re_exc (ps := ["at"]) (rv := false) g hy.xc_BadDeed (by decide) (hy.free_super) (hy.glo_BadDeed) (by decide) (ra_cons (re_var 0) (ra_nil)) rfl (fun _ _ _ _ _ _ _ _ _ _ _ _ _ us hp hl => match us, hl with | [_], _ => bind_1 hp rfl))) (ra_cons (re_att hy.ok (re_excK (ps := ["at"]) (rv := false) g hy.xc_BadDeed (by decide) (hy.free_super) (hy.glo_BadDeed) (by decide) (rk_cons (re_var 0) (rk_nil)) (hb := fun _ _ _ _ _ _ _ _ _ _ _ _ _ ws hp hl => match ws, hl with | [_], _ => bind_k1 hp rfl))) (ra_nil))))))))
    (rs_cons (rs_set 1 g.nd (re_bin (o_add mkL_ok) (re_var 1) (re_lst (ra_cons (re_att hy.ok (re_exc (ps := ["word"]) (rv := false) g hy.xc_Cannot (by decide) (hy.free_super) (hy.glo_Cannot) (by decide) (ra_cons (re_var 0) (ra_nil)) rfl (fun _ _ _ _ _ _ _ _ _ _ _ _ _ us hp hl => match us, hl with | [_], _ => bind_1 hp rfl))) (ra_cons (re_att hy.ok (re_excK (ps := ["word"]) (rv := false) g hy.xc_Cannot (by decide) (hy.free_super) (hy.glo_Cannot) (by decide) (rk_cons (re_var 0) (rk_nil)) (hb := fun _ _ _ _ _ _ _ _ _ _ _ _ _ ws hp hl => match ws, hl with | [_], _ => bind_k1 hp rfl))) (ra_cons (re_att hy.ok (re_exc (ps := ["word"]) (rv := false) g hy.xc_Refused (by decide) (hy.free_super) (hy.glo_Refused) (by decide) (ra_cons (re_var 0) (ra_nil)) rfl (fun _ _ _ _ _ _ _ _ _ _ _ _ _ us hp hl => match us, hl with | [_], _ => bind_1 hp rfl))) (ra_cons (re_att hy.ok (re_excK (ps := ["word"]) (rv := false) g hy.xc_Refused (by decide) (hy.free_super) (hy.glo_Refused) (by decide) (rk_cons (re_var 0) (rk_nil)) (hb := fun _ _ _ _ _ _ _ _ _ _ _ _ _ ws hp hl => match ws, hl with | [_], _ => bind_k1 hp rfl))) (ra_nil))))))))
    (rs_cons (rs_set 1 g.nd (re_bin (o_add mkL_ok) (re_var 1) (re_lst (ra_cons (re_att hy.ok (re_exc (ps := ["pairs"]) (rv := false) g hy.xc_Untried (by decide) (hy.free_super) (hy.glo_Untried) (by decide) (ra_cons (re_var 0) (ra_nil)) rfl (fun _ _ _ _ _ _ _ _ _ _ _ _ _ us hp hl => match us, hl with | [_], _ => bind_1 hp rfl))) (ra_cons (re_att hy.ok (re_excK (ps := ["pairs"]) (rv := false) g hy.xc_Untried (by decide) (hy.free_super) (hy.glo_Untried) (by decide) (rk_cons (re_var 0) (rk_nil)) (hb := fun _ _ _ _ _ _ _ _ _ _ _ _ _ ws hp hl => match ws, hl with | [_], _ => bind_k1 hp rfl))) (ra_cons (re_att hy.ok (re_exc (ps := ["part"]) (rv := false) g hy.xc_BadRule (by decide) (hy.free_super) (hy.glo_BadRule) (by decide) (ra_cons (re_var 0) (ra_nil)) rfl (fun _ _ _ _ _ _ _ _ _ _ _ _ _ us hp hl => match us, hl with | [_], _ => bind_1 hp rfl))) (ra_cons (re_att hy.ok (re_excK (ps := ["part"]) (rv := false) g hy.xc_BadRule (by decide) (hy.free_super) (hy.glo_BadRule) (by decide) (rk_cons (re_var 0) (rk_nil)) (hb := fun _ _ _ _ _ _ _ _ _ _ _ _ _ ws hp hl => match ws, hl with | [_], _ => bind_k1 hp rfl))) (ra_nil))))))))
    (rs_cons (rs_set 1 g.nd (re_bin (o_add mkL_ok) (re_var 1) (re_lst (ra_cons (re_att hy.ok (re_exc (ps := ["word"]) (rv := false) g hy.xc_Twice (by decide) (hy.free_super) (hy.glo_Twice) (by decide) (ra_cons (re_var 0) (ra_nil)) rfl (fun _ _ _ _ _ _ _ _ _ _ _ _ _ us hp hl => match us, hl with | [_], _ => bind_1 hp rfl))) (ra_cons (re_att hy.ok (re_excK (ps := ["word"]) (rv := false) g hy.xc_Twice (by decide) (hy.free_super) (hy.glo_Twice) (by decide) (rk_cons (re_var 0) (rk_nil)) (hb := fun _ _ _ _ _ _ _ _ _ _ _ _ _ ws hp hl => match ws, hl with | [_], _ => bind_k1 hp rfl))) (ra_cons (re_att hy.ok (re_exc (ps := ["at"]) (rv := false) g hy.xc_BadGate (by decide) (hy.free_super) (hy.glo_BadGate) (by decide) (ra_cons (re_var 0) (ra_nil)) rfl (fun _ _ _ _ _ _ _ _ _ _ _ _ _ us hp hl => match us, hl with | [_], _ => bind_1 hp rfl))) (ra_cons (re_att hy.ok (re_excK (ps := ["at"]) (rv := false) g hy.xc_BadGate (by decide) (hy.free_super) (hy.glo_BadGate) (by decide) (rk_cons (re_var 0) (rk_nil)) (hb := fun _ _ _ _ _ _ _ _ _ _ _ _ _ ws hp hl => match ws, hl with | [_], _ => bind_k1 hp rfl))) (ra_nil))))))))
    (rs_cons (rs_set 1 g.nd (re_bin (o_add mkL_ok) (re_var 1) (re_lst (ra_cons (re_att hy.ok (re_exc (ps := ["part"]) (rv := false) g hy.xc_BadWish (by decide) (hy.free_super) (hy.glo_BadWish) (by decide) (ra_cons (re_var 0) (ra_nil)) rfl (fun _ _ _ _ _ _ _ _ _ _ _ _ _ us hp hl => match us, hl with | [_], _ => bind_1 hp rfl))) (ra_cons (re_att hy.ok (re_excK (ps := ["part"]) (rv := false) g hy.xc_BadWish (by decide) (hy.free_super) (hy.glo_BadWish) (by decide) (rk_cons (re_var 0) (rk_nil)) (hb := fun _ _ _ _ _ _ _ _ _ _ _ _ _ ws hp hl => match ws, hl with | [_], _ => bind_k1 hp rfl))) (ra_cons (re_att hy.ok (re_exc (ps := ["value"]) (rv := false) g hy.xc_BadCount (by decide) (hy.free_super) (hy.glo_BadCount) (by decide) (ra_cons (re_var 0) (ra_nil)) rfl (fun _ _ _ _ _ _ _ _ _ _ _ _ _ us hp hl => match us, hl with | [_], _ => bind_1 hp rfl))) (ra_cons (re_att hy.ok (re_excK (ps := ["value"]) (rv := false) g hy.xc_BadCount (by decide) (hy.free_super) (hy.glo_BadCount) (by decide) (rk_cons (re_var 0) (rk_nil)) (hb := fun _ _ _ _ _ _ _ _ _ _ _ _ _ ws hp hl => match ws, hl with | [_], _ => bind_k1 hp rfl))) (ra_nil))))))))
    (rs_cons (rs_set 1 g.nd (re_bin (o_add mkL_ok) (re_var 1) (re_lst (ra_cons (re_att hy.ok (re_exc (ps := ["value"]) (rv := false) g hy.xc_BadLength (by decide) (hy.free_super) (hy.glo_BadLength) (by decide) (ra_cons (re_var 0) (ra_nil)) rfl (fun _ _ _ _ _ _ _ _ _ _ _ _ _ us hp hl => match us, hl with | [_], _ => bind_1 hp rfl))) (ra_cons (re_att hy.ok (re_excK (ps := ["value"]) (rv := false) g hy.xc_BadLength (by decide) (hy.free_super) (hy.glo_BadLength) (by decide) (rk_cons (re_var 0) (rk_nil)) (hb := fun _ _ _ _ _ _ _ _ _ _ _ _ _ ws hp hl => match ws, hl with | [_], _ => bind_k1 hp rfl))) (ra_cons (re_att hy.ok (re_exc (ps := ["word"]) (rv := false) g hy.xc_BadLine (by decide) (hy.free_super) (hy.glo_BadLine) (by decide) (ra_cons (re_var 0) (ra_nil)) rfl (fun _ _ _ _ _ _ _ _ _ _ _ _ _ us hp hl => match us, hl with | [_], _ => bind_1 hp rfl))) (ra_cons (re_att hy.ok (re_excK (ps := ["word"]) (rv := false) g hy.xc_BadLine (by decide) (hy.free_super) (hy.glo_BadLine) (by decide) (rk_cons (re_var 0) (rk_nil)) (hb := fun _ _ _ _ _ _ _ _ _ _ _ _ _ ws hp hl => match ws, hl with | [_], _ => bind_k1 hp rfl))) (ra_nil))))))))
    (rs_cons (rs_set 1 g.nd (re_bin (o_add mkL_ok) (re_var 1) (re_lst (ra_cons (re_att hy.ok (re_exc (ps := ["what", "most"]) (rv := false) g hy.xc_TooMany (by decide) (hy.free_super) (hy.glo_TooMany) (by decide) (ra_cons (re_var 0) (ra_cons (re_int) (ra_nil))) rfl (fun _ _ _ _ _ _ _ _ _ _ _ _ _ us hp hl => match us, hl with | [_, _], _ => bind_2 hp rfl rfl rfl))) (ra_cons (re_att hy.ok (re_excK (ps := ["what", "most"]) (rv := true) g hy.xc_TooMany (by decide) (hy.free_super) (hy.glo_TooMany) (by decide) (rk_cons (re_var 0) (rk_cons (re_int) (rk_nil))) (hb := fun _ _ _ _ _ _ _ _ _ _ _ _ _ ws hp hl => match ws, hl with | [_, _], _ => bind_r2 hp rfl rfl rfl rfl))) (ra_cons (re_att hy.ok (re_exc (ps := ["what", "most"]) (rv := false) g hy.xc_TooMany (by decide) (hy.free_super) (hy.glo_TooMany) (by decide) (ra_cons (re_int) (ra_cons (re_var 0) (ra_nil))) rfl (fun _ _ _ _ _ _ _ _ _ _ _ _ _ us hp hl => match us, hl with | [_, _], _ => bind_2 hp rfl rfl rfl))) (ra_nil)))))))
    (rs_cons (rs_set 1 g.nd (re_bin (o_add mkL_ok) (re_var 1) (re_lst (ra_cons (re_att hy.ok (re_exc (ps := ["line", "word"]) (rv := false) g hy.xc_BadText (by decide) (hy.free_super) (hy.glo_BadText) (by decide) (ra_cons (re_var 0) (ra_cons (re_int) (ra_nil))) rfl (fun _ _ _ _ _ _ _ _ _ _ _ _ _ us hp hl => match us, hl with | [_, _], _ => bind_2 hp rfl rfl rfl))) (ra_cons (re_att hy.ok (re_excK (ps := ["line", "word"]) (rv := true) g hy.xc_BadText (by decide) (hy.free_super) (hy.glo_BadText) (by decide) (rk_cons (re_var 0) (rk_cons (re_int) (rk_nil))) (hb := fun _ _ _ _ _ _ _ _ _ _ _ _ _ ws hp hl => match ws, hl with | [_, _], _ => bind_r2 hp rfl rfl rfl rfl))) (ra_cons (re_att hy.ok (re_exc (ps := ["line", "word"]) (rv := false) g hy.xc_BadText (by decide) (hy.free_super) (hy.glo_BadText) (by decide) (ra_cons (re_int) (ra_cons (re_var 0) (ra_nil))) rfl (fun _ _ _ _ _ _ _ _ _ _ _ _ _ us hp hl => match us, hl with | [_, _], _ => bind_2 hp rfl rfl rfl))) (ra_nil)))))))
    (rs_one (rs_ret (re_cmp (o_eq g.units) (re_lc (fp := [2]) (own := [("_law_one", 2)]) g mkL_at (ri_seq (re_var 1)) (blkOk_by (by rfl)) (fun _ _ _ _ _ => rg_name 2 g.nd (by rfl) (by first | exact Or.inl rfl | exact Or.inr rfl) (by decide)) (fun _ _ _ _ _ g1 => rts_one (rt_cmp (o_ne g1.units) (re_cb (c_repr g1) (hy.free_repr) (ra_cons (re_var 2) (ra_nil))) (re_cb (c_repr g1) (hy.free_repr) (ra_cons (re_var 0) (ra_nil))) (by rfl))) (fun _ _ _ _ _ g1 => re_var 2) (by decide)) (re_lst (ra_nil)) (by rfl)))))))))))))
theorem sclaw : FnScope ["_law_script", "_law_pen_here", "_law_some", "_law_turn"] ["_law_script"] (defScope slaw) := ⟨rfl, rfl, rfl, by decide +kernel, rfl, by decide +kernel, by decide +kernel⟩
theorem oklaw {w : World} {K : PySem.W.Frag} {mg : Str → Option Value} {base : Heap} {fd : FuncData} (hy : Hy K mg) (F : FunD K "law" "law" (defArgs slaw) (defBody slaw) (defScope slaw) [] [] 485 fd) (c_law_classes_right : Cal w K mg base "_law_classes_right" 473 2 0 f_law_classes_right) (c_law_kept_right : Cal w K mg base "_law_kept_right" 478 2 1 f_law_kept_right) (c_law_pen : Cal w K mg base "_law_pen" 454 1 1 f_law_pen) (c_law_pick : Cal w K mg base "_law_pick" 468 2 2 f_law_pick) : FnM PP w K mg base 3 485 1 flaw := by
  refine (fnx_m F sclaw fun cdv A outer s H E hgs hr => ?_).all (bindsE F fun _ _ _ _ _ _ us hl => match us, hl with | [_], _ => rfl)
  have g := Gd.fn (P := PP) (w := w) (K := K) (mg := mg) (base := base) (outer := outer) (H := H) (E := E) hr sclaw.nd hgs
  exact rs_cons (rs_set 1 g.nd (re_call g c_law_pen.F (by decide) c_law_pen.hm c_law_pen.hk (ra_cons (re_var 0) (ra_nil))))
    (rs_cons (rs_set 2 g.nd (re_lst (ra_cons (re_non) (ra_cons (re_int) (ra_cons (re_bl) (ra_cons (re_str) (ra_cons (re_tup (ra_cons (re_int) (ra_cons (re_str) (ra_nil)))) (ra_cons (re_lst (ra_nil)) (ra_cons (re_dict0) (ra_cons (re_neg (re_int)) (ra_cons (re_bin (o_pow) (re_int) (re_int)) (ra_cons (re_tup (ra_cons (re_str) (ra_cons (re_non) (ra_nil)))) (ra_cons (re_lst (ra_cons (re_lst (ra_cons (re_str) (ra_nil))) (ra_nil))) (ra_cons (re_str) (ra_nil)))))))))))))))
    (rs_cons (rs_for (fp := [3]) g (ri_range1 (hy.free_range) (ra_cons (re_int) (ra_nil))) (rg_name 3 g.nd (by rfl) (by first | exact Or.inl rfl | exact Or.inr rfl) (by decide)) (rs_one (rs_if (rt_not (rt_tru (re_call g c_law_kept_right.F (by decide) c_law_kept_right.hm c_law_kept_right.hk (ra_cons (re_call g c_law_pick.F (by decide) c_law_pick.hm c_law_pick.hk (ra_cons (re_var 1) (ra_cons (re_var 2) (ra_nil)))) (ra_nil))))) (rs_one (rs_ret (re_bl))) (rs_nil))))
    (rs_one (rs_ret (re_call0 g c_law_classes_right.F (by decide) c_law_classes_right.hm c_law_classes_right.hk)))))
def d_law_pen : He.DefD := ⟨("_law_pen", none), "_law_pen", "_law_pen", defArgs s_law_pen, defBody s_law_pen, defScope s_law_pen, [], []⟩
def d_law_draw : He.DefD := ⟨("_law_draw", none), "_law_draw", "_law_draw", defArgs s_law_draw, defBody s_law_draw, defScope s_law_draw, [], []⟩
def d_law_pick : He.DefD := ⟨("_law_pick", none), "_law_pick", "_law_pick", defArgs s_law_pick, defBody s_law_pick, defScope s_law_pick, [], []⟩
def d_law_classes_right : He.DefD := ⟨("_law_classes_right", none), "_law_classes_right", "_law_classes_right", defArgs s_law_classes_right, defBody s_law_classes_right, defScope s_law_classes_right, [], []⟩
def d_law_kept_right : He.DefD := ⟨("_law_kept_right", none), "_law_kept_right", "_law_kept_right", defArgs s_law_kept_right, defBody s_law_kept_right, defScope s_law_kept_right, [], []⟩
def dlaw : He.DefD := ⟨("law", none), "law", "law", defArgs slaw, defBody slaw, defScope slaw, [], []⟩
def fnl : List He.DefD := [d_law_pen, d_law_draw, d_law_pick, d_law_classes_right, d_law_kept_right, dlaw]
abbrev R : PySem.W.OpenRow := PySem.W.OpenLaw.row PySem.Challenge.rw_untriedpairs_k01_errors_made
abbrev hk : PySem.W.Hook := hookY 8 fnl ex
def ob (s : PySem.W.SharedT) : AlY := obsY 8 fnl ex (HandSHeadRun.getT s)
theorem ob_eq (s : PySem.W.SharedT) : ob s = hk.obs s.abs := obsY_eq (HandSHeadRun.getT_eq s)
def names_0 : List PySem.Str := ["WorksError", "BadStages", "BadStage", "BadLot", "NoPart", "NoPlace", "BadDeed", "Cannot", "Refused", "Untried", "Nothing", "BadRule", "Twice", "BadGate", "BadWish", "BadCount", "BadLength", "BadMenu", "TooMany", "BadText", "BadLine", "_law_pen", "_law_draw", "_law_pick", "_law_classes_right", "_law_kept_right"]
def names : List PySem.Str := names_0
theorem run (w : World) : HandSHeadRun.RunEq R (PySem.W.view R.prog [28]) hk ob 12000 names w := by
  intro os
  kernel_rfl
theorem defs_of {K : PySem.W.Frag} {h : Heap} {mg : Str → Option Value} (X : K.In h) (G : h.Ns mainGlobals mg) (c : SaysY fnl ex K) :
    Hy K mg ∧ (∃ fd, FunD K "_law_pen" "_law_pen" (defArgs s_law_pen) (defBody s_law_pen) (defScope s_law_pen) [] [] 454 fd) ∧
    (∃ fd, FunD K "_law_draw" "_law_draw" (defArgs s_law_draw) (defBody s_law_draw) (defScope s_law_draw) [] [] 461 fd) ∧
    (∃ fd, FunD K "_law_pick" "_law_pick" (defArgs s_law_pick) (defBody s_law_pick) (defScope s_law_pick) [] [] 468 fd) ∧
    (∃ fd, FunD K "_law_classes_right" "_law_classes_right" (defArgs s_law_classes_right) (defBody s_law_classes_right) (defScope s_law_classes_right) [] [] 473 fd) ∧
    (∃ fd, FunD K "_law_kept_right" "_law_kept_right" (defArgs s_law_kept_right) (defBody s_law_kept_right) (defScope s_law_kept_right) [] [] 478 fd) ∧
    (∃ fd, FunD K "law" "law" (defArgs slaw) (defBody slaw) (defScope slaw) [] [] 485 fd) := by
  have hy := hy_of X G c.more
  refine ⟨hy, ?_, ?_, ?_, ?_, ?_, ?_⟩
  · have e : He.fAd K d_law_pen.at_ = 454 := by
      show He.ga K "_law_pen" = 454
      unfold He.ga
      rw [of_decide_eq_true (ex_at c.more 34 rfl)]
    have z := c.d.defs (d := d_law_pen) (by simp [fnl])
    rw [e] at z
    exact z
  · have e : He.fAd K d_law_draw.at_ = 461 := by
      show He.ga K "_law_draw" = 461
      unfold He.ga
      rw [of_decide_eq_true (ex_at c.more 32 rfl)]
    have z := c.d.defs (d := d_law_draw) (by simp [fnl])
    rw [e] at z
    exact z
  · have e : He.fAd K d_law_pick.at_ = 468 := by
      show He.ga K "_law_pick" = 468
      unfold He.ga
      rw [of_decide_eq_true (ex_at c.more 35 rfl)]
    have z := c.d.defs (d := d_law_pick) (by simp [fnl])
    rw [e] at z
    exact z
  · have e : He.fAd K d_law_classes_right.at_ = 473 := by
      show He.ga K "_law_classes_right" = 473
      unfold He.ga
      rw [of_decide_eq_true (ex_at c.more 31 rfl)]
    have z := c.d.defs (d := d_law_classes_right) (by simp [fnl])
    rw [e] at z
    exact z
  · have e : He.fAd K d_law_kept_right.at_ = 478 := by
      show He.ga K "_law_kept_right" = 478
      unfold He.ga
      rw [of_decide_eq_true (ex_at c.more 33 rfl)]
    have z := c.d.defs (d := d_law_kept_right) (by simp [fnl])
    rw [e] at z
    exact z
  · have e : He.fAd K dlaw.at_ = 485 := by
      show He.ga K "law" = 485
      unfold He.ga
      rw [of_decide_eq_true (ex_at c.more 36 rfl)]
    have z := c.d.defs (d := dlaw) (by simp [fnl])
    rw [e] at z
    exact z
theorem whole {w : World} {K : PySem.W.Frag} {h : Heap} {mg : Str → Option Value} (X : K.In h) (G : h.Ns mainGlobals mg) (c : SaysY fnl ex K) (base : Heap) : FnM PP w K mg base 3 485 1 flaw := by
  obtain ⟨hy, ⟨fd_law_pen, F_law_pen⟩, ⟨fd_law_draw, F_law_draw⟩, ⟨fd_law_pick, F_law_pick⟩, ⟨fd_law_classes_right, F_law_classes_right⟩, ⟨fd_law_kept_right, F_law_kept_right⟩, ⟨fdlaw, Flaw⟩⟩ := defs_of X G c
  have C_law_pen : Cal w K mg base "_law_pen" 454 1 1 f_law_pen := ⟨ok_law_pen hy F_law_pen , hy.glo__law_pen, F_law_pen.kp⟩
  have C_law_draw : Cal w K mg base "_law_draw" 461 1 2 f_law_draw := ⟨ok_law_draw hy F_law_draw , hy.glo__law_draw, F_law_draw.kp⟩
  have C_law_pick : Cal w K mg base "_law_pick" 468 2 2 f_law_pick := ⟨ok_law_pick hy F_law_pick C_law_draw, hy.glo__law_pick, F_law_pick.kp⟩
  have C_law_classes_right : Cal w K mg base "_law_classes_right" 473 2 0 f_law_classes_right := ⟨ok_law_classes_right hy F_law_classes_right , hy.glo__law_classes_right, F_law_classes_right.kp⟩
  have C_law_kept_right : Cal w K mg base "_law_kept_right" 478 2 1 f_law_kept_right := ⟨ok_law_kept_right hy F_law_kept_right , hy.glo__law_kept_right, F_law_kept_right.kp⟩
  exact oklaw hy Flaw C_law_classes_right C_law_kept_right C_law_pen C_law_pick
end K

set_option Elab.async false
set_option linter.all false
set_option maxRecDepth 100000
set_option maxHeartbeats 4000000
namespace K
open PySem PySem.Spec PyProof.Rows L2 L3
def c01 : DrawC := ⟨57822, 3233, 2147483489, 76119, 1721, 5, 2147483549, 439, 45473, 649, 3, 2147483563, 32⟩
theorem c01_ok : c01.Ok := ⟨by decide, by decide, by decide, by decide, by decide, by decide, by decide, by decide, by decide, by decide, by decide, by decide, by decide⟩
theorem draw_eq (ws : List W) (S : Sto) : f_law_draw ws S = mFn 7 (mDraw c01) ws S := rfl
def odds : List D := [.non, .int 0, .bl true, .str "make a", .tup [.int 1, .str "a"], .lst [], .dct [] [], .int (-7), .int 1000000000000000000000000000000000000000, .tup [.str "a", .non], .lst [.lst [.str "a"]], .str ""]
theorem classes_ok (x : Option SO) : f_law_classes_right [] [x] = .ok (.d (.bl true)) [x] := by kernel_rfl
theorem kept_ok (x : Option SO) : ∀ o ∈ odds, f_law_kept_right [.d o] [x] = .ok (.d (.bl true)) [x] := by
  intro o ho
  simp only [odds, List.mem_cons, List.not_mem_nil, or_false] at ho
  rcases ho with rfl | rfl | rfl | rfl | rfl | rfl | rfl | rfl | rfl | rfl | rfl | rfl <;> kernel_rfl
theorem odd_at {S : Sto} {d : Int} (h0 : 0 ≤ d) (h1 : d < 12) : ∃ o ∈ odds, opIdx (.d (.lst odds)) (.d (.int d)) S = .ok (.d o) S := by
  have h : d = 0 ∨ d = 1 ∨ d = 2 ∨ d = 3 ∨ d = 4 ∨ d = 5 ∨ d = 6 ∨ d = 7 ∨ d = 8 ∨ d = 9 ∨ d = 10 ∨ d = 11 := by omega
  rcases h with rfl | rfl | rfl | rfl | rfl | rfl | rfl | rfl | rfl | rfl | rfl | rfl <;> exact ⟨_, by simp [odds], rfl⟩
theorem pick_ok {cells : List Int} {t g : Int} (hl : cells.length ≤ 63) (ht : 0 ≤ t ∧ t < 1000) (hg : 0 ≤ g) : ∃ o ∈ odds, ∃ t' g', t ≤ t' ∧ t' ≤ t + 1 ∧ 0 ≤ g' ∧ f_law_pick [.ref 0, .d (.lst odds)] [penO cells t g] = .ok (.d o) [penO cells t' g'] := by
  obtain ⟨d, t', g', d0, d1, t0, t1, g0, hd⟩ := draw_ok c01_ok (S := [penO cells t g]) (i := 0) (cells := cells) (t := t) (g := g) (many := 12) rfl (by decide) ⟨ht.1, by omega⟩ hg hl
  obtain ⟨o, ho, e⟩ := odd_at (S := [penO cells t' g']) d0 d1
  refine ⟨o, ho, t', g', t0, t1, g0, ?_⟩
  have hd2 : f_law_draw [.ref 0, .d (.int 12)] [penO cells t g] = .ok (.d (.int d)) [penO cells t' g'] := hd
  have el : odds.length = 12 := rfl
  simp [f_law_pick, m_law_pick, mFn, mRet, mBin, mVar, mCallN, mCons, mNil, mCB, bLen, lenOf, el, Res.bind, Res.quiet, Res.then_, hd2, e, fin]
def bodyL : MS := mIf (mNotB (mTru (mCallN 1 f_law_kept_right (mCons (mCallN 2 f_law_pick (mCons (mVar 1) (mCons (mVar 2) (mNil)))) (mNil))))) (mRet (mD (.bl false))) (mSkip)
theorem turn_ok {cells : List Int} {t g : Int} {s x : Option W} (hl : cells.length ≤ 63) (ht : 0 ≤ t ∧ t < 1000) (hg : 0 ≤ g) : ∃ t' g', t ≤ t' ∧ t' ≤ t + 1 ∧ 0 ≤ g' ∧ bodyL [s, some (.ref 0), some (.d (.lst odds)), x] [penO cells t g] = .ok (.nx [s, some (.ref 0), some (.d (.lst odds)), x]) [penO cells t' g'] := by
  obtain ⟨o, ho, t', g', t0, t1, g0, hp⟩ := pick_ok hl ht hg
  refine ⟨t', g', t0, t1, g0, ?_⟩
  have hk := kept_ok (penO cells t' g') o ho
  simp [bodyL, mIf, mNotB, mTru, mCallN, mCons, mNil, mVar, Res.bind, Res.then_, hp, hk, truOf, mSkip]
theorem pen_ok (ns : List Int) (hn : ns.length ≤ 63) : f_law_pen [.d (.fzl (ns.map D.int))] [] = .ok (.ref 0) [penO ns 0 0] := by
  have e : L3.cutD (ns.map D.int) none (some 63) = ns.map D.int := by
    unfold L3.cutD
    have e1 : HT.sIx (ns.map D.int).length (ns.map D.int).length (some 63) = ns.length := by
      have := HT.sIx_nat (ns.map D.int).length (ns.map D.int).length 63
      rw [show ((63 : Nat) : Int) = 63 from rfl] at this
      rw [this, List.length_map]
      omega
    rw [e1]
    simp [HT.sIx]
    exact List.take_of_length_le (by simp)
  simp [f_law_pen, m_law_pen, mFnM, mRet, mLstM, mCons, mNil, mCB, mSl, mVar, mD, moNone, moSome, bList, mkL, slW, itemsOf, e, Res.bind, Res.quiet, Res.then_, dats, dat, penO]
theorem odds_ok (τ : Tau) (S : Sto) : mLst (mCons (mD .non) (mCons (mD (.int 0)) (mCons (mD (.bl true)) (mCons (mD (.str "make a")) (mCons (mTup (mCons (mD (.int 1)) (mCons (mD (.str "a")) (mNil)))) (mCons (mLst (mNil)) (mCons (mDict0) (mCons (mUn negW (mD (.int 7))) (mCons (mBin opPow (mD (.int 10)) (mD (.int 39))) (mCons (mTup (mCons (mD (.str "a")) (mCons (mD .non) (mNil)))) (mCons (mLst (mCons (mLst (mCons (mD (.str "a")) (mNil))) (mNil))) (mCons (mD (.str "")) (mNil))))))))))))) τ S = .ok (.d (.lst odds)) S := by kernel_rfl
def preL : MS := mSet 2 (mLst (mCons (mD .non) (mCons (mD (.int 0)) (mCons (mD (.bl true)) (mCons (mD (.str "make a")) (mCons (mTup (mCons (mD (.int 1)) (mCons (mD (.str "a")) (mNil)))) (mCons (mLst (mNil)) (mCons (mDict0) (mCons (mUn negW (mD (.int 7))) (mCons (mBin opPow (mD (.int 10)) (mD (.int 39))) (mCons (mTup (mCons (mD (.str "a")) (mCons (mD .non) (mNil)))) (mCons (mLst (mCons (mLst (mCons (mD (.str "a")) (mNil))) (mNil))) (mCons (mD (.str "")) (mNil))))))))))))))
theorem law_ok (ns : List Int) (hn : ns.length ≤ 63) : ∃ S', flaw [.d (.fzl (ns.map D.int))] [] = .ok (.d (.bl true)) S' := by
  have hp := pen_ok ns hn
  obtain ⟨t1, g1, a1, b1, c1, e1⟩ := turn_ok (cells := ns) (t := 0) (g := 0) (s := some (.d (.fzl (ns.map D.int)))) (x := some (.d (.int 0))) hn (by decide) (by decide)
  obtain ⟨t2, g2, a2, b2, c2, e2⟩ := turn_ok (cells := ns) (t := t1) (g := g1) (s := some (.d (.fzl (ns.map D.int)))) (x := some (.d (.int 1))) hn (by omega) c1
  obtain ⟨t3, g3, a3, b3, c3, e3⟩ := turn_ok (cells := ns) (t := t2) (g := g2) (s := some (.d (.fzl (ns.map D.int)))) (x := some (.d (.int 2))) hn (by omega) c2
  obtain ⟨t4, g4, a4, b4, c4, e4⟩ := turn_ok (cells := ns) (t := t3) (g := g3) (s := some (.d (.fzl (ns.map D.int)))) (x := some (.d (.int 3))) hn (by omega) c3
  have ee : mlaw = mSeq (mSet 1 (mCallN 1 f_law_pen (mCons (mVar 0) (mNil)))) (mSeq preL (mSeq (mFor (miRange (mCons (mD (.int 4)) (mNil))) (tName 3) bodyL) (mRet (mCallN 0 f_law_classes_right mNil)))) := rfl
  have r1 : mSet 1 (mCallN 1 f_law_pen (mCons (mVar 0) (mNil))) [some (.d (.fzl (ns.map D.int))), none, none, none] [] = .ok (.nx [some (.d (.fzl (ns.map D.int))), some (.ref 0), none, none]) [penO ns 0 0] := by
    simp [mSet, mCallN, mCons, mNil, mVar, Res.bind, Res.then_, hp]
  have r2 : preL [some (.d (.fzl (ns.map D.int))), some (.ref 0), none, none] [penO ns 0 0] = .ok (.nx [some (.d (.fzl (ns.map D.int))), some (.ref 0), some (.d (.lst odds)), none]) [penO ns 0 0] := by
    unfold preL mSet
    rw [odds_ok]
    rfl
  have r3 : mFor (miRange (mCons (mD (.int 4)) (mNil))) (tName 3) bodyL [some (.d (.fzl (ns.map D.int))), some (.ref 0), some (.d (.lst odds)), none] [penO ns 0 0] = .ok (.nx [some (.d (.fzl (ns.map D.int))), some (.ref 0), some (.d (.lst odds)), some (.d (.int 3))]) [penO ns t4 g4] := by
    have hi : miRange (mCons (mD (.int 4)) (mNil)) [some (.d (.fzl (ns.map D.int))), some (.ref 0), some (.d (.lst odds)), none] [penO ns 0 0] = .ok [.int 0, .int 1, .int 2, .int 3] [penO ns 0 0] := by kernel_rfl
    unfold mFor
    rw [hi]
    simp [Res.then_, forD, tName, e1, e2, e3, e4]
  have r4 : mRet (mCallN 0 f_law_classes_right mNil) [some (.d (.fzl (ns.map D.int))), some (.ref 0), some (.d (.lst odds)), some (.d (.int 3))] [penO ns t4 g4] = .ok (.rt (.d (.bl true))) [penO ns t4 g4] := by
    have hc := classes_ok (penO ns t4 g4)
    simp [mRet, mCallN, mNil, Res.bind, Res.then_, hc]
  have run : mlaw [some (.d (.fzl (ns.map D.int))), none, none, none] [] = .ok (.rt (.d (.bl true))) [penO ns t4 g4] := by
    rw [ee, seq_nx r1, seq_nx r2, seq_nx r3, r4]
  have run' : mlaw (([.d (.fzl (ns.map D.int))] : List W).map some ++ List.replicate (4 - ([.d (.fzl (ns.map D.int))] : List W).length) none) [] = .ok (.rt (.d (.bl true))) [penO ns t4 g4] := run
  refine ⟨[], ?_⟩
  unfold flaw mFn
  rw [run']
  rfl
end K
open PySem PySem.W PySem.Calls PyProof.Rows
theorem PySem.Challenge.cw_untriedpairs_k01_errors_made_holds : PySem.Challenge.rw_untriedpairs_k01_errors_made.Holds := by
  w_on; o_law
  refine HandSHeadRun.head_any (r := OpenLaw.row PySem.Challenge.rw_untriedpairs_k01_errors_made) (q := view (OpenLaw.row PySem.Challenge.rw_untriedpairs_k01_errors_made).prog [28]) (H := K.hk) (ob := K.ob) (M := 12000) (loose := K.names) (d := HandSHeadRun.topDef (OpenLaw.row PySem.Challenge.rw_untriedpairs_k01_errors_made).prog 28) (kwd := []) K.ob_eq
    (by kernel_rfl) (fun s => by kernel_rfl) K.run (by kernel_rfl) (by kernel_rfl) (by kernel_rfl) (by rfl) (by first | assumption | decide +kernel) (by decide +kernel) ⟨rfl, rfl, rfl, rfl, rfl, by decide +kernel⟩ ?hw ?hc
  case hw => w_witness2
  case hc =>
    refine L3.walk_m (l := PySem.Challenge.rw_untriedpairs_k01_errors_made) (n := 63) (k := 3) (m := K.flaw) rfl (by decide) (by kernel_rfl) ⟨rfl, by decide, by decide⟩ ?F K.law_ok
    intro w mg fa h Y G hmg0
    obtain ⟨K0, KX, c⟩ := Y
    have hmg : mg ("law" : PySem.Str) = some (.ref fa) := by
      have e : (HandSHeadRun.topDef (OpenLaw.row PySem.Challenge.rw_untriedpairs_k01_errors_made).prog 28).name = ("law" : PySem.Str) := by kernel_rfl
      rw [← e]
      exact hmg0
    have hg := (K.hy_of KX G c.more).glo_law
    rw [hmg] at hg
    cases hg
    exact ⟨K0, KX, fun base _ _ => K.whole KX G c base⟩

