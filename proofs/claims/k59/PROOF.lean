import PyProof.Rows.All
import Wide.All
import OpenK.AllK
import Wide.FinOn
import HandS.Base
import HandS.Call
import HandS.Exc
import HandS.Comp
import HandS.Lambda
import HandS.Words
import HandS.List
import HandS.Text
import HandS.Wide
import HandS.WideBits
import HandS.TupAny
import HandS.TupMul
import HandS.TupLe
import HandS.Deep
import HandS.IsInst
import KE.DataMinMax
import KE.SortData
import HandS.Iter
import HandS.Property
import KE.KExcIs
import HandS.ExcField
import HandS.ExcOwn
import HandS.More
import HandS.TryOnly
import HandS.Flow
import HandS.Star
import HandS.RaiseMore
import HandS.Ends
import HandS.ExcInit
import HandS.ExcValue
import HandS.OwnEq
import KE.DatumOrd
import ObjForm.LawKit
import HandS.EndTab
import HandS.NestedK
import HandS.StrMore
import HandS.FStr
import HandS.Zip
import KE.KIntText
import KE.DataCmp
import HandS.Small
import HandS.DictComp
import PyProof.Rows.TupDisplay
import HandS.Conv
import KE.KItemsList
import HandS.ListItems
import HandS.DeepEq
import PySem.Challenge.RW_barscribe_k59_notes_at_moments
set_option Elab.async false
set_option linter.all false
set_option maxRecDepth 100000
set_option maxHeartbeats 1000000
/-! a functional reading over the hand layer: values D with the immutable ones inline, a small store for what is written, computations as plain functions -/
namespace Fe
open PySem PySem.Spec PyProof.Rows L2

/-- pure data: tuples, finished lists, dicts and objects inline -/
inductive P where
  | non
  | bl (b : Bool)
  | int (i : Int)
  | str (x : Str)
  | tup (xs : List P)
  | lst (xs : List P)
  | fz (xs : List P)
  | dct (ks vs : List P)
  | obj (c : Nat) (ns : List Str) (vs : List P)
  | exc (c : Nat) (ns : List Str) (vs : List P)
  deriving Inhabited
/-- a value: pure, a place of the store, or a function made by a lambda: its address, its code object's, that one's name, the maker's slots -/
inductive D where
  | p (x : P)
  | ref (i : Nat)
  | fn (a c : Addr) (q : Str) (es : List (Option (P ⊕ Nat))) (σ : List (Option V))
  deriving Inhabited
def cap : Option D → Option (P ⊕ Nat)
  | some (.p x) => some (.inl x)
  | some (.ref i) => some (.inr i)
  | _ => none
def uncap : Option (P ⊕ Nat) → Option D
  | some (.inl x) => some (.p x)
  | some (.inr i) => some (.ref i)
  | none => none

/-- what stands in the store -/
inductive SO where
  | dead
  | lst (xs : List P)
  | dct (ks vs : List P)
  | ins (c : Nat) (ns : List Str) (vs : List P)
abbrev Sto := List SO
def SO.live : SO → Bool
  | .dead => false
  | _ => true

/-- a computation's end -/
inductive R (α : Type) where
  | ok (a : α) (S : Sto)
  | exc (c : Nat) (ns : List Str) (vs : List P) (S : Sto)
  | bad
def R.bind {α β : Type} : R α → (α → Sto → R β) → R β
  | .ok a S, k => k a S
  | .exc c ns vs S, _ => .exc c ns vs S
  | .bad, _ => .bad
@[simp] theorem R.bind_ok {α β : Type} (a : α) (S : Sto) (k : α → Sto → R β) : (R.ok a S).bind k = k a S := (rfl)
@[simp] theorem R.bind_exc {α β : Type} (c : Nat) (ns : List Str) (vs : List P) (S : Sto) (k : α → Sto → R β) : (R.exc c ns vs S : R α).bind k = .exc c ns vs S := (rfl)
@[simp] theorem R.bind_bad {α β : Type} (k : α → Sto → R β) : (R.bad : R α).bind k = .bad := (rfl)
def R.ofO {α : Type} (S : Sto) : Option α → R α
  | some a => .ok a S
  | none => .bad
@[simp] theorem R.ofO_some {α : Type} (S : Sto) (a : α) : R.ofO S (some a) = .ok a S := (rfl)
@[simp] theorem R.ofO_none {α : Type} (S : Sto) : R.ofO S (none : Option α) = .bad := (rfl)

abbrev DEnv := List (Option D)
/-- a statement's end -/
inductive RS where
  | nx (env : DEnv) (S : Sto)
  | rt (d : D) (S : Sto)
  | bk (env : DEnv) (S : Sto)
  | ct (env : DEnv) (S : Sto)
  | exc (c : Nat) (ns : List Str) (vs : List P) (env : DEnv) (S : Sto)
  | bad

abbrev CE' := DEnv → Sto → R D
abbrev CT := DEnv → Sto → R Bool
abbrev CA := DEnv → Sto → R (List D)
abbrev CS := DEnv → Sto → RS

/-- the world: the abstract heap, the addresses that may be written, where the store's places lie -/
structure Wd where
  H : Hp
  U : Addr → Prop
  ρ : Nat → Addr
  n : Nat

/-- the constants of a proof: the written part, the classes' addresses -/
structure Gc where
  K : PySem.W.Frag
  cl : Nat → Addr
  T : List (Addr × Str)

/-- a caught exception -/
def XObj (cls : Value) (dx : Option Addr) (a : Addr) : HO := .ext fun h => ∃ (oe : Obj) (vs : Array Value), h.get? a = some oe ∧ Zc cls dx oe ∧ oe.data = .fields vs
section
variable (G : Gc) (W : Wd)
def TupAt (a : Addr) (vs : List V) : Prop :=
  (¬ W.U a ∧ Rd W.H a (.tup vs)) ∨
    ∃ (o : Obj) (its : Array Value) (n : Nat), G.K.lookup a = some o ∧ o.cls = .type "tuple" ∧ o.data = .seq its n ∧ its.size ≤ sizeLine ∧ Vals vs its.toList
def LstAt (a : Addr) (vs : List V) : Prop := ¬ W.U a ∧ W.H a = some (.lst vs)
/-- a list that is known and never written: the script, the module's own -/
def FzAt (a : Addr) (vs : List V) : Prop :=
  (¬ W.U a ∧ ∃ o, W.H a = some (.frz o (.lst vs))) ∨
    ∃ (o : Obj) (its : Array Value) (n : Nat), G.K.lookup a = some o ∧ o.cls = .type "list" ∧ o.dict = none ∧ o.data = .seq its n ∧ its.size ≤ sizeLine ∧ Vals vs its.toList
/-- keys -/
def keyD : P → Option Key
  | .int i => some (.inl i)
  | .str x => some (.inr x)
  | _ => none
def keysD : List P → Option (List Key)
  | [] => some []
  | d :: ds => match keyD d, keysD ds with
    | some k, some ks => some (k :: ks)
    | _, _ => none
def tkeysD : List P → Option (List (List Key))
  | [] => some []
  | .tup xs :: ds => match keysD xs, tkeysD ds with
    | some k, some ks => some (k :: ks)
    | _, _ => none
  | _ :: _ => none
def DctAt (a : Addr) (ks : List P) (vs : List V) : Prop :=
  (¬ W.U a ∧ ∃ kk, keysD ks = some kk ∧ kk.length = vs.length ∧ Rd W.H a (.dK (kk.zip vs))) ∨
  (¬ W.U a ∧ ∃ kk, tkeysD ks = some kk ∧ kk.length = vs.length ∧ Rd W.H a (.dT (kk.zip vs)))

mutual
def Rep : P → V → Prop
  | .non, v => v = .non
  | .bl b, v => v = .bl b
  | .int i, v => v = .int i
  | .str x, v => v = .str x
  | .tup ds, v => ∃ a vs, v = .ref a ∧ TupAt G W a vs ∧ Reps ds vs
  | .lst ds, v => ∃ a vs, v = .ref a ∧ LstAt W a vs ∧ Reps ds vs
  | .fz ds, v => ∃ a vs, v = .ref a ∧ FzAt G W a vs ∧ Reps ds vs
  | .dct ks ds, v => ∃ a vs, v = .ref a ∧ DctAt W a ks vs ∧ Reps ds vs
  | .obj c ns ds, v => ∃ a dx vs, v = .ref a ∧ ¬ W.U a ∧ W.H a = some (.ins (G.cl c) dx (ns.zip vs)) ∧ ns.length = vs.length ∧ Reps ds vs
  | .exc c ns ds, v => ∃ a dx, v = .ref a ∧ ¬ W.U a ∧ W.H a = some (XObj (.ref (G.cl c)) dx a) ∧ ((ns = [] ∧ ds = [] ∧ dx = none) ∨ ∃ d0 vs, dx = some d0 ∧ W.H d0 = some (.xd (ns.zip vs)) ∧ ¬ W.U d0 ∧ ns.length = vs.length ∧ Reps ds vs)
def Reps : List P → List V → Prop
  | [], [] => True
  | d :: ds, v :: vs => Rep d v ∧ Reps ds vs
  | _, _ => False
end
theorem Reps.length : ∀ {ds : List P} {vs : List V}, Reps G W ds vs → ds.length = vs.length
  | [], [], _ => rfl
  | [], _ :: _, h => by simp [Reps] at h
  | _ :: _, [], h => by simp [Reps] at h
  | d :: ds, v :: vs, h => by
    simp only [Reps] at h
    simp [Reps.length h.2]
theorem Reps.get : ∀ {ds : List P} {vs : List V} {i : Nat} {d : P}, Reps G W ds vs → ds[i]? = some d → ∃ v, vs[i]? = some v ∧ Rep G W d v
  | [], _, i, d, _, e => by simp at e
  | _ :: _, [], _, _, h, _ => by simp [Reps] at h
  | x :: ds, v :: vs, 0, d, h, e => by
    simp only [Reps] at h
    simp at e; subst e
    exact ⟨v, rfl, h.1⟩
  | x :: ds, v :: vs, i + 1, d, h, e => by
    simp only [Reps] at h
    obtain ⟨u, h1, h2⟩ := Reps.get (i := i) h.2 (by simpa using e)
    exact ⟨u, by simpa using h1, h2⟩
theorem Reps.append : ∀ {ds es : List P} {vs us : List V}, Reps G W ds vs → Reps G W es us → Reps G W (ds ++ es) (vs ++ us)
  | [], _, [], _, _, h => h
  | [], _, _ :: _, _, h, _ => by simp [Reps] at h
  | _ :: _, _, [], _, h, _ => by simp [Reps] at h
  | d :: ds, es, v :: vs, us, h, h' => by
    simp only [Reps] at h
    simp only [List.cons_append, Reps]
    exact ⟨h.1, Reps.append h.2 h'⟩
theorem Reps.take : ∀ {ds : List P} {vs : List V} (n : Nat), Reps G W ds vs → Reps G W (ds.take n) (vs.take n)
  | _, _, 0, _ => by simp [Reps]
  | [], [], n + 1, _ => by simp [Reps]
  | [], _ :: _, _ + 1, h => by simp [Reps] at h
  | _ :: _, [], _ + 1, h => by simp [Reps] at h
  | d :: ds, v :: vs, n + 1, h => by
    simp only [Reps] at h
    simp only [List.take_succ_cons, Reps]
    exact ⟨h.1, Reps.take n h.2⟩
theorem Reps.drop : ∀ {ds : List P} {vs : List V} (n : Nat), Reps G W ds vs → Reps G W (ds.drop n) (vs.drop n)
  | _, _, 0, h => by simpa using h
  | [], [], n + 1, _ => by simp [Reps]
  | [], _ :: _, _ + 1, h => by simp [Reps] at h
  | _ :: _, [], _ + 1, h => by simp [Reps] at h
  | d :: ds, v :: vs, n + 1, h => by
    simp only [Reps] at h
    simp only [List.drop_succ_cons]
    exact Reps.drop n h.2
theorem Reps.set : ∀ {ds : List P} {vs : List V} {d : P} {v : V} (i : Nat), Reps G W ds vs → Rep G W d v → Reps G W (ds.set i d) (vs.set i v)
  | [], [], _, _, i, _, _ => by simp [Reps]
  | [], _ :: _, _, _, _, h, _ => by simp [Reps] at h
  | _ :: _, [], _, _, _, h, _ => by simp [Reps] at h
  | x :: ds, u :: vs, d, v, 0, h, h' => by
    simp only [Reps] at h
    simp only [List.set_cons_zero, Reps]
    exact ⟨h', h.2⟩
  | x :: ds, u :: vs, d, v, i + 1, h, h' => by
    simp only [Reps] at h
    simp only [List.set_cons_succ, Reps]
    exact ⟨h.1, Reps.set i h.2 h'⟩

/-- no table and no code object -/
structure NC (o : HO) : Prop where
  tb : ∀ ps, o ≠ .tbl ps
  co : ∀ c q, o ≠ LamX.CodeO c q
  tp : ∀ xs, o ≠ .tup xs
/-- an object of the store as it lies -/
def ObjR (a : Addr) : SO → Prop
  | .dead => True
  | .lst ds => ∃ vs, W.H a = some (.lst vs) ∧ Reps G W ds vs
  | .dct ks ds => ∃ vs, Reps G W ds vs ∧ ((∃ kk, keysD ks = some kk ∧ kk.length = vs.length ∧ W.H a = some (.dK (kk.zip vs))) ∨ (ks ≠ [] ∧ ∃ kk, tkeysD ks = some kk ∧ kk.length = vs.length ∧ W.H a = some (.dT (kk.zip vs))))
  | .ins c ns ds => ∃ dx vs, W.H a = some (.ins (G.cl c) dx (ns.zip vs)) ∧ ns.length = vs.length ∧ Reps G W ds vs
structure StRep (Z : Addr → Prop) (S : Sto) : Prop where
  tab : LamX.Tabs G.T W.H
  len : W.n = S.length
  zu : ∀ a, Z a → W.U a
  ut : ∀ a, W.U a → ∃ o, W.H a = some o ∧ NC o
  obj : ∀ i so, S[i]? = some so → so.live = true → W.U (W.ρ i) ∧ ¬ Z (W.ρ i) ∧ ObjR G W (W.ρ i) so
  inj : ∀ i j so so', S[i]? = some so → S[j]? = some so' → so.live = true → so'.live = true → W.ρ i = W.ρ j → i = j
  back : ∀ a, W.U a → Z a ∨ ∃ i so, S[i]? = some so ∧ so.live = true ∧ W.ρ i = a
end

/-- no table of code objects -/
def NT (o : HO) : Prop := ∀ ps, o ≠ .tbl ps
/-- what is pure stays -/
structure Kp (W W' : Wd) : Prop where
  kp : ∀ a o, NT o → W.H a = some o → ¬ W.U a → W'.H a = some o ∧ ¬ W'.U a
theorem Kp.keep {W W' : Wd} (x : Kp W W') (a : Addr) (o : HO) (h : W.H a = some o) (u : ¬ W.U a) (n : NT o := by intro _ h; first | cases h | (unfold XObj at h; cases h) | (unfold LamX.CodeO at h; cases h)) : W'.H a = some o ∧ ¬ W'.U a := x.kp a o n h u
/-- the tables stay -/
theorem tabs_ext {T : List (Addr × Str)} {H H' : Hp} (t : LamX.Tabs T H) (e : ∀ b ps, H b = some (.tbl ps) → H' b = some (.tbl ps)) (e2 : ∀ b q, H b = some (LamX.CodeO b q) → H' b = some (LamX.CodeO b q)) : LamX.Tabs T H' := fun p hp => by
  obtain ⟨ps, h1, h2, h3⟩ := t p hp
  refine ⟨ps, e _ _ h1, h2, fun pos cv hc => ?_⟩
  obtain ⟨c, z1, z2⟩ := h3 pos cv hc
  exact ⟨c, z1, e2 _ _ z2⟩
/-- an object of the store is no table and no code object -/
theorem nc_lst (xs : List V) : NC (.lst xs) := ⟨(fun _ e => nomatch e), (fun c q e => by unfold LamX.CodeO at e; cases e), fun _ e => nomatch e⟩
theorem nc_ins (C dx : Addr) (fs : List (Str × V)) : NC (.ins C dx fs) := ⟨(fun _ e => nomatch e), (fun c q e => by unfold LamX.CodeO at e; cases e), fun _ e => nomatch e⟩
theorem obj_tc {G : Gc} {W : Wd} {a : Addr} {so : SO} (l : so.live = true) (h : ObjR G W a so) : (∀ ps, W.H a ≠ some (.tbl ps)) ∧ ∀ c q, W.H a ≠ some (LamX.CodeO c q) := by
  have z : ∀ {o : HO}, W.H a = some o → (∀ ps, o ≠ .tbl ps) → (∀ c q, o ≠ LamX.CodeO c q) → (∀ ps, W.H a ≠ some (.tbl ps)) ∧ ∀ c q, W.H a ≠ some (LamX.CodeO c q) := fun h n1 n2 => ⟨fun ps e => n1 ps (Option.some.inj (h.symm.trans e)), fun c q e => n2 c q (Option.some.inj (h.symm.trans e))⟩
  cases so with
  | dead => cases l
  | lst ds => obtain ⟨vs, a1, _⟩ := h; exact z a1 (fun _ e => nomatch e) fun c q e => by unfold LamX.CodeO at e; cases e
  | dct ks ds =>
    obtain ⟨vs, _, ⟨kk, _, _, a1⟩ | ⟨_, kk, _, _, a1⟩⟩ := h
    · exact z a1 (fun _ e => nomatch e) fun c q e => by unfold LamX.CodeO at e; cases e
    · exact z a1 (fun _ e => nomatch e) fun c q e => by unfold LamX.CodeO at e; cases e
  | ins c ns ds => obtain ⟨dx, vs, a1, _⟩ := h; exact z a1 (fun _ e => nomatch e) fun c q e => by unfold LamX.CodeO at e; cases e
/-- what stays from one world to a later one -/
structure Ext (W W' : Wd) : Prop extends Kp W W' where
  rho : ∀ i, i < W.n → W'.ρ i = W.ρ i
  le : W.n ≤ W'.n
theorem obj_tp {G : Gc} {W : Wd} {a : Addr} {so : SO} (l : so.live = true) (h : ObjR G W a so) : ∀ xs, W.H a ≠ some (.tup xs) := by
  have z : ∀ {o : HO}, W.H a = some o → (∀ xs, o ≠ .tup xs) → ∀ xs, W.H a ≠ some (.tup xs) := fun h n xs e => n xs (Option.some.inj (h.symm.trans e))
  cases so with
  | dead => cases l
  | lst ds => obtain ⟨vs, a1, _⟩ := h; exact z a1 fun _ e => nomatch e
  | dct ks ds =>
    obtain ⟨vs, _, ⟨kk, _, _, a1⟩ | ⟨_, kk, _, _, a1⟩⟩ := h
    · exact z a1 fun _ e => nomatch e
    · exact z a1 fun _ e => nomatch e
  | ins c ns ds => obtain ⟨dx, vs, a1, _⟩ := h; exact z a1 fun _ e => nomatch e
theorem obj_nc {G : Gc} {W : Wd} {a : Addr} {so : SO} {o : HO} (l : so.live = true) (h : ObjR G W a so) (e : W.H a = some o) : NC o := ⟨fun ps z => (obj_tc l h).1 ps (z ▸ e), fun c q z => (obj_tc l h).2 c q (z ▸ e), fun xs z => obj_tp l h xs (z ▸ e)⟩
theorem Ext.refl (W : Wd) : Ext W W := ⟨⟨fun _ _ _ h u => ⟨h, u⟩⟩, fun _ _ => rfl, Nat.le_refl _⟩
theorem Ext.trans {W W1 W2 : Wd} (a : Ext W W1) (b : Ext W1 W2) : Ext W W2 :=
  ⟨⟨fun p o n h u => let ⟨h1, u1⟩ := a.kp p o n h u; b.kp p o n h1 u1⟩, fun i hi => (b.rho i (Nat.lt_of_lt_of_le hi a.le)).trans (a.rho i hi), Nat.le_trans a.le b.le⟩
theorem Rd.kp {W W' : Wd} (x : Kp W W') {a : Addr} {u : HO} (hu : ¬ W.U a) (h : Rd W.H a u) (n : NT u := by intro _ h; cases h) : ¬ W'.U a ∧ Rd W'.H a u := by
  rcases h with h | ⟨o, h⟩
  · exact ⟨(x.kp a _ n h hu).2, .inl (x.kp a _ n h hu).1⟩
  · exact ⟨(x.keep a _ h hu).2, .inr ⟨o, (x.keep a _ h hu).1⟩⟩
theorem TupAt.kp {G : Gc} {W W' : Wd} (x : Kp W W') {a : Addr} {vs : List V} (h : TupAt G W a vs) : TupAt G W' a vs := by
  rcases h with ⟨u, h⟩ | h
  · exact .inl (Rd.kp x u h)
  · exact .inr h
theorem LstAt.kp {W W' : Wd} (x : Kp W W') {a : Addr} {vs : List V} (h : LstAt W a vs) : LstAt W' a vs := ⟨(x.keep a _ h.2 h.1).2, (x.keep a _ h.2 h.1).1⟩
theorem FzAt.kp {G : Gc} {W W' : Wd} (x : Kp W W') {a : Addr} {vs : List V} (h : FzAt G W a vs) : FzAt G W' a vs := by
  rcases h with ⟨u, o, h⟩ | h
  · exact .inl ⟨(x.keep a _ h u).2, o, (x.keep a _ h u).1⟩
  · exact .inr h
theorem DctAt.kp {W W' : Wd} (x : Kp W W') {a : Addr} {ks : List P} {vs : List V} (h : DctAt W a ks vs) : DctAt W' a ks vs := by
  rcases h with ⟨u, kk, h1, h2, h⟩ | ⟨u, kk, h1, h2, h⟩
  · exact .inl ⟨(Rd.kp x u h).1, kk, h1, h2, (Rd.kp x u h).2⟩
  · exact .inr ⟨(Rd.kp x u h).1, kk, h1, h2, (Rd.kp x u h).2⟩
mutual
theorem Rep.kp {G : Gc} {W W' : Wd} (x : Kp W W') : ∀ (d : P) {v : V}, Rep G W d v → Rep G W' d v
  | .non, v, h => by simpa only [Rep] using h
  | .bl b, v, h => by simpa only [Rep] using h
  | .int i, v, h => by simpa only [Rep] using h
  | .str s, v, h => by simpa only [Rep] using h
  | .tup ds, v, h => by
    simp only [Rep] at h ⊢
    obtain ⟨a, vs, e, t, r⟩ := h
    exact ⟨a, vs, e, t.kp x, Reps.kp x ds r⟩
  | .lst ds, v, h => by
    simp only [Rep] at h ⊢
    obtain ⟨a, vs, e, t, r⟩ := h
    exact ⟨a, vs, e, t.kp x, Reps.kp x ds r⟩
  | .fz ds, v, h => by
    simp only [Rep] at h ⊢
    obtain ⟨a, vs, e, t, r⟩ := h
    exact ⟨a, vs, e, t.kp x, Reps.kp x ds r⟩
  | .dct ks ds, v, h => by
    simp only [Rep] at h ⊢
    obtain ⟨a, vs, e, t, r⟩ := h
    exact ⟨a, vs, e, t.kp x, Reps.kp x ds r⟩
  | .obj c ns ds, v, h => by
    simp only [Rep] at h ⊢
    obtain ⟨a, dx, vs, e, u, h1, l, r⟩ := h
    exact ⟨a, dx, vs, e, (x.keep a _ h1 u).2, (x.keep a _ h1 u).1, l, Reps.kp x ds r⟩
  | .exc c ns ds, v, h => by
    simp only [Rep] at h ⊢
    obtain ⟨a, dx, e, u, h1, h2⟩ := h
    refine ⟨a, dx, e, (x.keep a _ h1 u).2, (x.keep a _ h1 u).1, ?_⟩
    rcases h2 with h2 | ⟨d0, vs, e, h3, u3, l, r⟩
    · exact .inl h2
    · exact .inr ⟨d0, vs, e, (x.keep d0 _ h3 u3).1, (x.keep d0 _ h3 u3).2, l, Reps.kp x ds r⟩
theorem Reps.kp {G : Gc} {W W' : Wd} (x : Kp W W') : ∀ (ds : List P) {vs : List V}, Reps G W ds vs → Reps G W' ds vs
  | [], [], _ => by simp only [Reps]
  | [], _ :: _, h => by simp only [Reps] at h
  | _ :: _, [], h => by simp only [Reps] at h
  | d :: ds, v :: vs, h => by
    simp only [Reps] at h ⊢
    exact ⟨Rep.kp x d h.1, Reps.kp x ds h.2⟩
end

theorem Rep.ext {G : Gc} {W W' : Wd} (x : Ext W W') (d : P) {v : V} (h : Rep G W d v) : Rep G W' d v := Rep.kp x.toKp d h
theorem Reps.ext {G : Gc} {W W' : Wd} (x : Ext W W') (ds : List P) {vs : List V} (h : Reps G W ds vs) : Reps G W' ds vs := Reps.kp x.toKp ds h
theorem TupAt.ext {G : Gc} {W W' : Wd} (x : Ext W W') {a : Addr} {vs : List V} (h : TupAt G W a vs) : TupAt G W' a vs := TupAt.kp x.toKp h
theorem LstAt.ext {W W' : Wd} (x : Ext W W') {a : Addr} {vs : List V} (h : LstAt W a vs) : LstAt W' a vs := LstAt.kp x.toKp h
theorem FzAt.ext {G : Gc} {W W' : Wd} (x : Ext W W') {a : Addr} {vs : List V} (h : FzAt G W a vs) : FzAt G W' a vs := FzAt.kp x.toKp h

/-- a captured value as it lies -/
def RepC (G : Gc) (W : Wd) : P ⊕ Nat → V → Prop
  | .inl x, u => Rep G W x u
  | .inr j, u => j < W.n ∧ u = .ref (W.ρ j)
theorem RepC.ext {G : Gc} {W W' : Wd} (x : Ext W W') : ∀ {d : P ⊕ Nat} {v : V}, RepC G W d v → RepC G W' d v
  | .inl d, v, h => Rep.ext x d h
  | .inr i, v, h => ⟨Nat.lt_of_lt_of_le h.1 x.le, by rw [x.rho i h.1]; exact h.2⟩
/-- a value as it lies -/
def RepD (G : Gc) (W : Wd) : D → V → Prop
  | .p x, v => Rep G W x v
  | .ref i, v => i < W.n ∧ v = .ref (W.ρ i)
  | .fn a c q es σ, v => v = .ref a ∧ (¬ W.U c ∧ W.H c = some (LamX.CodeO c q)) ∧ es.length = σ.length ∧ ∀ (i : Nat) (d : P ⊕ Nat), es[i]? = some (some d) → ∃ u, σ[i]? = some (some u) ∧ RepC G W d u
def RepDs (G : Gc) (W : Wd) : List D → List V → Prop
  | [], [] => True
  | d :: ds, v :: vs => RepD G W d v ∧ RepDs G W ds vs
  | _, _ => False
theorem RepD.ext {G : Gc} {W W' : Wd} (x : Ext W W') : ∀ {d : D} {v : V}, RepD G W d v → RepD G W' d v
  | .p d, v, h => Rep.ext x d h
  | .ref i, v, h => ⟨Nat.lt_of_lt_of_le h.1 x.le, by rw [x.rho i h.1]; exact h.2⟩
  | .fn a c q es σ, v, h => by
    obtain ⟨h1, ⟨h2, h3⟩, h4, h5⟩ := h
    have z := x.keep c _ h3 h2
    refine ⟨h1, ⟨z.2, z.1⟩, h4, fun i d e => ?_⟩
    obtain ⟨u, k1, k2⟩ := h5 i d e
    exact ⟨u, k1, k2.ext x⟩
theorem RepDs.ext {G : Gc} {W W' : Wd} (x : Ext W W') : ∀ {ds : List D} {vs : List V}, RepDs G W ds vs → RepDs G W' ds vs
  | [], [], _ => True.intro
  | [], _ :: _, h => h.elim
  | _ :: _, [], h => h.elim
  | d :: ds, v :: vs, h => ⟨RepD.ext x h.1, RepDs.ext x h.2⟩
theorem RepDs.length {G : Gc} {W : Wd} : ∀ {ds : List D} {vs : List V}, RepDs G W ds vs → ds.length = vs.length
  | [], [], _ => rfl
  | [], _ :: _, h => h.elim
  | _ :: _, [], h => h.elim
  | d :: ds, v :: vs, h => by simp [RepDs.length h.2]

/-- from a state to a later one: Z is left as it is -/
structure Go (Z : Addr → Prop) (W W' : Wd) : Prop extends Ext W W' where
  z : ∀ a, Z a → W'.H a = W.H a
theorem Go.refl (Z : Addr → Prop) (W : Wd) : Go Z W W := ⟨Ext.refl W, fun _ _ => rfl⟩
theorem Go.trans {Z : Addr → Prop} {W W1 W2 : Wd} (a : Go Z W W1) (b : Go Z W1 W2) : Go Z W W2 := ⟨a.toExt.trans b.toExt, fun p h => (b.z p h).trans (a.z p h)⟩

/-- the frame's slots -/
def EnvR (G : Gc) (W : Wd) (env : DEnv) (σ : List (Option V)) : Prop := env.length = σ.length ∧ ∀ (i : Nat) (d : D), env[i]? = some (some d) → ∃ v, σ[i]? = some (some v) ∧ RepD G W d v
theorem EnvR.ext {G : Gc} {W W' : Wd} {env : DEnv} {σ : L2.St} (h : EnvR G W env σ) (x : Ext W W') : EnvR G W' env σ :=
  ⟨h.1, fun i d e => let ⟨v, h1, h2⟩ := h.2 i d e; ⟨v, h1, h2.ext x⟩⟩
theorem EnvR.set {G : Gc} {W : Wd} {env : DEnv} {σ : L2.St} (h : EnvR G W env σ) {d : D} {v : V} (r : RepD G W d v) (i : Nat) : EnvR G W (env.set i (some d)) (σ.set i (some v)) := by
  refine ⟨by simp [h.1], fun j e hj => ?_⟩
  by_cases hij : i = j
  · subst hij
    by_cases hl : i < env.length
    · rw [List.getElem?_set_self hl] at hj
      cases hj
      exact ⟨v, by rw [List.getElem?_set_self (by rw [← h.1]; exact hl)], r⟩
    · rw [List.getElem?_eq_none (by simpa using hl)] at hj
      cases hj
  · rw [List.getElem?_set_ne hij] at hj
    obtain ⟨u, h1, h2⟩ := h.2 j e hj
    exact ⟨u, by rw [List.getElem?_set_ne hij]; exact h1, h2⟩

/-- an exception's class and fields as they lie -/
def ExcR (G : Gc) (W : Wd) (c : Nat) (ns : List Str) (ds : List P) (cls : Value) (dx : Option Addr) : Prop :=
  cls = .ref (G.cl c) ∧ ((ns = [] ∧ ds = [] ∧ dx = none) ∨ ∃ d0 vs, dx = some d0 ∧ W.H d0 = some (.xd (ns.zip vs)) ∧ ¬ W.U d0 ∧ ns.length = vs.length ∧ Reps G W ds vs)

section
variable (G : Gc) (Wx : WX)
def PostE (Z : Addr → Prop) (W : Wd) (σ : L2.St) (Q : VK) : R D → Prop
  | .ok d S' => ∀ v W', Go Z W W' → StRep G W' Z S' → RepD G W' d v → Q v W'.H
  | .exc c ns ds S' => ∀ cls dx W', Go Z W W' → StRep G W' Z S' → ExcR G W' c ns ds cls dx → Wx cls dx σ W'.H
  | .bad => False
def PostT (Z : Addr → Prop) (W : Wd) (σ : L2.St) (Q : Bool → Hp → Prop) : R Bool → Prop
  | .ok b S' => ∀ W', Go Z W W' → StRep G W' Z S' → Q b W'.H
  | .exc c ns ds S' => ∀ cls dx W', Go Z W W' → StRep G W' Z S' → ExcR G W' c ns ds cls dx → Wx cls dx σ W'.H
  | .bad => False
def PostA (Z : Addr → Prop) (W : Wd) (σ : L2.St) (Q : List V → Hp → Prop) : R (List D) → Prop
  | .ok ds S' => ∀ vs W', Go Z W W' → StRep G W' Z S' → RepDs G W' ds vs → Q vs W'.H
  | .exc c ns ds S' => ∀ cls dx W', Go Z W W' → StRep G W' Z S' → ExcR G W' c ns ds cls dx → Wx cls dx σ W'.H
  | .bad => False
def PostS (Z : Addr → Prop) (W : Wd) (En : Ends) : RS → Prop
  | .nx env S' => ∀ σ' W', Go Z W W' → StRep G W' Z S' → EnvR G W' env σ' → En.nx σ' W'.H
  | .rt d S' => ∀ v W', Go Z W W' → StRep G W' Z S' → RepD G W' d v → En.rt v W'.H
  | .bk env S' => ∀ σ' W', Go Z W W' → StRep G W' Z S' → EnvR G W' env σ' → En.bk σ' W'.H
  | .ct env S' => ∀ σ' W', Go Z W W' → StRep G W' Z S' → EnvR G W' env σ' → En.ct σ' W'.H
  | .exc c ns ds env S' => ∀ σ' cls dx W', Go Z W W' → StRep G W' Z S' → EnvR G W' env σ' → ExcR G W' c ns ds cls dx → Wx cls dx σ' W'.H
  | .bad => False
def tM (f : CE') : TE := fun σ H Q => ∃ Z S W env, W.H = H ∧ StRep G W Z S ∧ EnvR G W env σ ∧ PostE G Wx Z W σ Q (f env S)
def tMT (f : CT) : TT := fun σ H Q => ∃ Z S W env, W.H = H ∧ StRep G W Z S ∧ EnvR G W env σ ∧ PostT G Wx Z W σ Q (f env S)
def tMA (f : CA) : TA := fun σ H Q => ∃ Z S W env, W.H = H ∧ StRep G W Z S ∧ EnvR G W env σ ∧ PostA G Wx Z W σ Q (f env S)
def tMS (f : CS) : TS := fun En σ H => ∃ Z S W env, W.H = H ∧ StRep G W Z S ∧ EnvR G W env σ ∧ PostS G Wx Z W En (f env S)
end

/-- the context of a derivation: G's written part is the context's, exceptions are taken by Wx, nothing is handled, no guard -/
structure CtxG (G : Gc) (X : Cx) (k : Nat) : Prop where
  kk : X.K = G.K
  calm : X.calm = true
  room : Room k X.A
  grd : X.A.guards = some []
  nd : X.N.Nodup
def PF (G : Gc) (X : Cx) (e : Expr) (f : CE') : Prop := ∀ Wx, Takes X Wx → PE X e (tM G Wx f)
def PFT (G : Gc) (X : Cx) (e : Expr) (f : CT) : Prop := ∀ Wx, Takes X Wx → PT X e (tMT G Wx f)
def PFW (G : Gc) (X : Cx) (e : Expr) (f : CT) : Prop := ∀ Wx, Takes X Wx → PW X e (tMT G Wx f)
def PFA (G : Gc) (X : Cx) (es : List Expr) (f : CA) : Prop := ∀ Wx, Takes X Wx → PA X es (tMA G Wx f)
def PFS (G : Gc) (X : Cx) (st : Stmt) (f : CS) : Prop := ∀ Wx, Takes X Wx → PS X st (tMS G Wx f)
def PFSs (G : Gc) (X : Cx) (st : List Stmt) (f : CS) : Prop := ∀ Wx, Takes X Wx → PSs X st (tMS G Wx f)
theorem PE.imp {X : Cx} {e : Expr} {t t' : TE} (h : PE X e t) (i : ∀ σ H Q, t' σ H Q → t σ H Q) : PE X e t' := ⟨fun pins s σ H Q I q => h.run pins s σ H Q I (i _ _ _ q)⟩
theorem PT.imp {X : Cx} {e : Expr} {t t' : TT} (h : PT X e t) (i : ∀ σ H Q, t' σ H Q → t σ H Q) : PT X e t' := ⟨fun pins s σ H Q I q => h.run pins s σ H Q I (i _ _ _ q)⟩
theorem PW.imp {X : Cx} {e : Expr} {t t' : TT} (h : PW X e t) (i : ∀ σ H Q, t' σ H Q → t σ H Q) : PW X e t' := ⟨fun wh pins s σ H Q I q => h.run wh pins s σ H Q I (i _ _ _ q)⟩
theorem PA.imp {X : Cx} {e : List Expr} {t t' : TA} (h : PA X e t) (i : ∀ σ H Q, t' σ H Q → t σ H Q) : PA X e t' := ⟨fun pos pins s σ H Q I q => h.run pos pins s σ H Q I (i _ _ _ q)⟩
theorem PS.imp {X : Cx} {e : Stmt} {t t' : TS} (h : PS X e t) (i : ∀ En σ H, t' En σ H → t En σ H) : PS X e t' := ⟨fun pins s σ H En I q => h.run pins s σ H En I (i _ _ _ q)⟩
theorem PSs.imp {X : Cx} {e : List Stmt} {t t' : TS} (h : PSs X e t) (i : ∀ En σ H, t' En σ H → t En σ H) : PSs X e t' := ⟨fun pins s σ H En I q => h.run pins s σ H En I (i _ _ _ q)⟩

end Fe

set_option Elab.async false
set_option linter.all false
set_option maxRecDepth 100000
set_option maxHeartbeats 1000000
namespace Fe
open PySem PySem.Spec PyProof.Rows L2

section
variable {G : Gc} {Wx : WX} {Z : Addr → Prop} {W : Wd} {σ : L2.St}
theorem PostE.mono {Q Q' : VK} {r : R D} (h : PostE G Wx Z W σ Q r) (i : ∀ v H, Q v H → Q' v H) : PostE G Wx Z W σ Q' r := by
  cases r with
  | bad => exact h
  | ok d S' => exact fun v W' g s r => i _ _ (h v W' g s r)
  | exc c ns ds S' => exact h
theorem PostT.mono {Q Q' : Bool → Hp → Prop} {r : R Bool} (h : PostT G Wx Z W σ Q r) (i : ∀ v H, Q v H → Q' v H) : PostT G Wx Z W σ Q' r := by
  cases r with
  | bad => exact h
  | ok d S' => exact fun W' g s => i _ _ (h W' g s)
  | exc c ns ds S' => exact h
theorem PostA.mono {Q Q' : List V → Hp → Prop} {r : R (List D)} (h : PostA G Wx Z W σ Q r) (i : ∀ v H, Q v H → Q' v H) : PostA G Wx Z W σ Q' r := by
  cases r with
  | bad => exact h
  | ok d S' => exact fun v W' g s r => i _ _ (h v W' g s r)
  | exc c ns ds S' => exact h
theorem PostE.shift {Q : VK} {W1 : Wd} (go : Go Z W W1) {r : R D} (h : PostE G Wx Z W σ Q r) : PostE G Wx Z W1 σ Q r := by
  cases r with
  | bad => exact h
  | ok d S2 => exact fun v2 W2 g2 s2 r2 => h v2 W2 (go.trans g2) s2 r2
  | exc c ns ds S2 => exact fun a b W2 g2 s2 r2 => h a b W2 (go.trans g2) s2 r2
theorem PostT.shift {Q : Bool → Hp → Prop} {W1 : Wd} (go : Go Z W W1) {r : R Bool} (h : PostT G Wx Z W σ Q r) : PostT G Wx Z W1 σ Q r := by
  cases r with
  | bad => exact h
  | ok d S2 => exact fun W2 g2 s2 => h W2 (go.trans g2) s2
  | exc c ns ds S2 => exact fun a b W2 g2 s2 r2 => h a b W2 (go.trans g2) s2 r2
theorem PostA.shift {Q : List V → Hp → Prop} {W1 : Wd} (go : Go Z W W1) {r : R (List D)} (h : PostA G Wx Z W σ Q r) : PostA G Wx Z W1 σ Q r := by
  cases r with
  | bad => exact h
  | ok d S2 => exact fun v2 W2 g2 s2 r2 => h v2 W2 (go.trans g2) s2 r2
  | exc c ns ds S2 => exact fun a b W2 g2 s2 r2 => h a b W2 (go.trans g2) s2 r2
theorem PostS.shift {En : Ends} {W1 : Wd} (go : Go Z W W1) {r : RS} (h : PostS G Wx Z W En r) : PostS G Wx Z W1 En r := by
  cases r with
  | bad => exact h
  | nx e S2 => exact fun v2 W2 g2 s2 r2 => h v2 W2 (go.trans g2) s2 r2
  | rt e S2 => exact fun v2 W2 g2 s2 r2 => h v2 W2 (go.trans g2) s2 r2
  | bk e S2 => exact fun v2 W2 g2 s2 r2 => h v2 W2 (go.trans g2) s2 r2
  | ct e S2 => exact fun v2 W2 g2 s2 r2 => h v2 W2 (go.trans g2) s2 r2
  | exc c ns ds e S2 => exact fun v2 a b W2 g2 s2 r2 r3 => h v2 a b W2 (go.trans g2) s2 r2 r3
/-- behind a computation of a value -/
def ThenE (G : Gc) (Z : Addr → Prop) (W : Wd) (C : D → Sto → Wd → Prop) : VK := fun v H1 => ∃ d S1 W1, W1.H = H1 ∧ Go Z W W1 ∧ StRep G W1 Z S1 ∧ RepD G W1 d v ∧ C d S1 W1
theorem seqEE {Q : VK} {r : R D} {k : D → Sto → R D} (h : PostE G Wx Z W σ Q (r.bind k)) : PostE G Wx Z W σ (ThenE G Z W fun d S1 W1 => PostE G Wx Z W1 σ Q (k d S1)) r := by
  cases r with
  | bad => exact h
  | exc c ns ds S' => exact h
  | ok d S' => exact fun v W1 go st r => ⟨d, S', W1, rfl, go, st, r, PostE.shift go h⟩
theorem seqET {Q : Bool → Hp → Prop} {r : R D} {k : D → Sto → R Bool} (h : PostT G Wx Z W σ Q (r.bind k)) : PostE G Wx Z W σ (ThenE G Z W fun d S1 W1 => PostT G Wx Z W1 σ Q (k d S1)) r := by
  cases r with
  | bad => exact h
  | exc c ns ds S' => exact h
  | ok d S' => exact fun v W1 go st r => ⟨d, S', W1, rfl, go, st, r, PostT.shift go h⟩
theorem seqEA {Q : List V → Hp → Prop} {r : R D} {k : D → Sto → R (List D)} (h : PostA G Wx Z W σ Q (r.bind k)) : PostE G Wx Z W σ (ThenE G Z W fun d S1 W1 => PostA G Wx Z W1 σ Q (k d S1)) r := by
  cases r with
  | bad => exact h
  | exc c ns ds S' => exact h
  | ok d S' => exact fun v W1 go st r => ⟨d, S', W1, rfl, go, st, r, PostA.shift go h⟩
def ThenT (G : Gc) (Z : Addr → Prop) (W : Wd) (C : Bool → Sto → Wd → Prop) : Bool → Hp → Prop := fun b H1 => ∃ S1 W1, W1.H = H1 ∧ Go Z W W1 ∧ StRep G W1 Z S1 ∧ C b S1 W1
theorem seqTE {Q : VK} {r : R Bool} {k : Bool → Sto → R D} (h : PostE G Wx Z W σ Q (r.bind k)) : PostT G Wx Z W σ (ThenT G Z W fun d S1 W1 => PostE G Wx Z W1 σ Q (k d S1)) r := by
  cases r with
  | bad => exact h
  | exc c ns ds S' => exact h
  | ok d S' => exact fun W1 go st => ⟨S', W1, rfl, go, st, PostE.shift go h⟩
theorem seqTT {Q : Bool → Hp → Prop} {r : R Bool} {k : Bool → Sto → R Bool} (h : PostT G Wx Z W σ Q (r.bind k)) : PostT G Wx Z W σ (ThenT G Z W fun d S1 W1 => PostT G Wx Z W1 σ Q (k d S1)) r := by
  cases r with
  | bad => exact h
  | exc c ns ds S' => exact h
  | ok d S' => exact fun W1 go st => ⟨S', W1, rfl, go, st, PostT.shift go h⟩
def ThenA (G : Gc) (Z : Addr → Prop) (W : Wd) (C : List D → Sto → Wd → Prop) : List V → Hp → Prop := fun vs H1 => ∃ ds S1 W1, W1.H = H1 ∧ Go Z W W1 ∧ StRep G W1 Z S1 ∧ RepDs G W1 ds vs ∧ C ds S1 W1
theorem seqAE {Q : VK} {r : R (List D)} {k : List D → Sto → R D} (h : PostE G Wx Z W σ Q (r.bind k)) : PostA G Wx Z W σ (ThenA G Z W fun d S1 W1 => PostE G Wx Z W1 σ Q (k d S1)) r := by
  cases r with
  | bad => exact h
  | exc c ns ds S' => exact h
  | ok d S' => exact fun v W1 go st r => ⟨d, S', W1, rfl, go, st, r, PostE.shift go h⟩
theorem seqAA {Q : List V → Hp → Prop} {r : R (List D)} {k : List D → Sto → R (List D)} (h : PostA G Wx Z W σ Q (r.bind k)) : PostA G Wx Z W σ (ThenA G Z W fun d S1 W1 => PostA G Wx Z W1 σ Q (k d S1)) r := by
  cases r with
  | bad => exact h
  | exc c ns ds S' => exact h
  | ok d S' => exact fun v W1 go st r => ⟨d, S', W1, rfl, go, st, r, PostA.shift go h⟩

/-- the world with one object more -/
def Wd.put (W : Wd) (p : Addr) (o : HO) : Wd := { W with H := upd W.H p o }
theorem put_go (st : StRep G W Z S) {p : Addr} (np : W.H p = none) (o : HO) : Go Z W (W.put p o) := by
  have ne : ∀ a, W.U a → a ≠ p := fun a u e => by
    obtain ⟨q, h, _⟩ := st.ut a u
    rw [e, np] at h; cases h
  refine ⟨⟨⟨fun a q _ h u => ⟨?_, u⟩⟩, fun _ _ => rfl, Nat.le_refl _⟩, fun a z => ?_⟩
  · show upd W.H p o a = _
    rw [upd_ne (ne_of_none h np)]; exact h
  · show upd W.H p o a = _
    rw [upd_ne (ne a (st.zu a z))]
theorem put_nu (st : StRep G W Z S) {p : Addr} (np : W.H p = none) : ¬ W.U p := fun u => by
  obtain ⟨q, h, _⟩ := st.ut p u
  rw [np] at h; cases h
theorem ObjR.ext {W W' : Wd} (x : Ext W W') {a : Addr} : ∀ {so : SO}, W'.H a = W.H a → ObjR G W a so → ObjR G W' a so
  | .dead, _, _ => True.intro
  | .lst ds, e, h => by
    obtain ⟨vs, h1, h2⟩ := h
    exact ⟨vs, e.trans h1, Reps.ext x ds h2⟩
  | .dct ks ds, e, h => by
    obtain ⟨vs, h1, h2⟩ := h
    refine ⟨vs, Reps.ext x ds h1, ?_⟩
    rcases h2 with ⟨kk, a1, a2, a3⟩ | ⟨a0, kk, a1, a2, a3⟩
    · exact .inl ⟨kk, a1, a2, e.trans a3⟩
    · exact .inr ⟨a0, kk, a1, a2, e.trans a3⟩
  | .ins c ns ds, e, h => by
    obtain ⟨dx, vs, h1, h2, h3⟩ := h
    exact ⟨dx, vs, e.trans h1, h2, Reps.ext x ds h3⟩
theorem tab_upd {H : Hp} {T : List (Addr × Str)} (t : LamX.Tabs T H) {p : Addr} (np : H p = none) (o : HO) : LamX.Tabs T (upd H p o) := t.ext fun b u h => by rw [upd_ne (ne_of_none h np)]; exact h
theorem put_st (st : StRep G W Z S) {p : Addr} (np : W.H p = none) (o : HO) : StRep G (W.put p o) Z S := by
  have go := put_go st np o
  have ne : ∀ a, W.U a → a ≠ p := fun a u e => put_nu st np (e ▸ u)
  refine ⟨tab_upd st.tab np o, st.len, st.zu, fun a u => ?_, fun i so e l => ?_, st.inj, st.back⟩
  · obtain ⟨q, h, n⟩ := st.ut a u
    exact ⟨q, by show upd W.H p o a = _; rw [upd_ne (ne a u)]; exact h, n⟩
  · obtain ⟨h1, h2, h3⟩ := st.obj i so e l
    exact ⟨h1, h2, ObjR.ext go.toExt (by show upd W.H p o (W.ρ i) = W.H (W.ρ i); exact upd_ne (ne _ h1)) h3⟩
theorem put_at {p : Addr} {o : HO} : (W.put p o).H p = some o := upd_same

/-! ### names, constants -/
variable {X : Cx} {k : Nat}
def cVar (i : Nat) : CE' := fun env S => match env[i]? with
  | some (some d) => .ok d S
  | _ => .bad
theorem pf_var (i : Nat) {x : Str} {pos : Pos} (hN : X.N[i]? = some x := by rfl) (hv : Vis X.env.scope x := by first | exact Or.inl rfl | exact Or.inr (Or.inl rfl) | exact Or.inr (Or.inr rfl)) (hd : (x == ("__debug__" : Str)) = false := by decide)
    (hcd : (x == ("__classdict__" : Str)) = false := by decide) : PF G X (.Name x pos) (cVar i) := fun Wx tk => by
  refine PE.imp (pe_var hN hv hd hcd) fun σ H Q h => ?_
  obtain ⟨Z, S, W, env, rfl, st, er, p⟩ := h
  unfold cVar at p
  split at p
  · rename_i d e
    obtain ⟨v, h1, h2⟩ := er.2 i d e
    exact ⟨v, h1, p v W (Go.refl Z W) st h2⟩
  · exact p.elim
def cP (d : P) : CE' := fun _ S => .ok (.p d) S
theorem pf_c {e : Expr} {v : V} {d : P} (h : PE X e (tC v)) (r : ∀ W, Rep G W d v) : PF G X e (cP d) := fun Wx tk => by
  refine PE.imp h fun σ H Q h => ?_
  obtain ⟨Z, S, W, env, rfl, st, er, p⟩ := h
  exact p v W (Go.refl Z W) st (r W)
theorem pf_int {i j pos} : PF G X (.Constant (.int i) j pos) (cP (.int i)) := pf_c pe_int fun _ => by simp only [Rep]
theorem pf_bl {b j pos} : PF G X (.Constant (.bool b) j pos) (cP (.bl b)) := pf_c pe_bl fun _ => by simp only [Rep]
theorem pf_non {j pos} : PF G X (.Constant .none j pos) (cP .non) := pf_c pe_non fun _ => by simp only [Rep]
theorem pf_str {x j pos} : PF G X (.Constant (.str x) j pos) (cP (.str x)) := pf_c pe_str fun _ => by simp only [Rep]
/-- a module's constant -/
theorem pf_glob {x : Str} {d : P} {v : V} {u : Value} {pos : Pos} (hg : Gl X x) (hm : X.mg x = some u) (r : RelV v u) (h : ∀ W, Rep G W d v) (hd : (x == ("__debug__" : Str)) = false := by decide) : PF G X (.Name x pos) (cP d) :=
  pf_c (pe_glob hg hm r hd) h

/-! ### operations on values -/
def v2D (G : Gc) (g : Sto → D → D → Option D) : R2 := fun x y H Q => ∃ Z S W d1 d2 d, W.H = H ∧ StRep G W Z S ∧ RepD G W d1 x ∧ RepD G W d2 y ∧ g S d1 d2 = some d ∧ ∀ v W', Go Z W W' → StRep G W' Z S → RepD G W' d v → Q v W'.H
def v1D (G : Gc) (g : Sto → D → Option D) : V → Hp → VK → Prop := fun x H Q => ∃ Z S W d1 d, W.H = H ∧ StRep G W Z S ∧ RepD G W d1 x ∧ g S d1 = some d ∧ ∀ v W', Go Z W W' → StRep G W' Z S → RepD G W' d v → Q v W'.H
def vsD (G : Gc) (g : Sto → List D → Option D) : List V → Hp → VK → Prop := fun xs H Q => ∃ Z S W ds d, W.H = H ∧ StRep G W Z S ∧ RepDs G W ds xs ∧ g S ds = some d ∧ ∀ v W', Go Z W W' → StRep G W' Z S → RepD G W' d v → Q v W'.H
def cOp (g : Sto → D → D → Option D) (fa fb : CE') : CE' := fun env S => (fa env S).bind fun x S1 => (fb env S1).bind fun y S2 => R.ofO S2 (g S2 x y)
def cUn (g : Sto → D → Option D) (fa : CE') : CE' := fun env S => (fa env S).bind fun x S1 => R.ofO S1 (g S1 x)
theorem ofO_post {S : Sto} {o : Option D} {Q : VK} (h : PostE G Wx Z W σ Q (R.ofO S o)) : ∃ d, o = some d ∧ ∀ v W', Go Z W W' → StRep G W' Z S → RepD G W' d v → Q v W'.H := by
  cases o with
  | none => exact h.elim
  | some d => exact ⟨d, rfl, h⟩
theorem cOp_imp {g : Sto → D → D → Option D} {fa fb : CE'} : ∀ σ H Q, tM G Wx (cOp g fa fb) σ H Q → tOp (v2D G g) (tM G Wx fa) (tM G Wx fb) σ H Q := by
  rintro σ H Q ⟨Z, S, W, env, rfl, st, er, p⟩
  refine ⟨Z, S, W, env, rfl, st, er, (seqEE p).mono fun v H1 h1 => ?_⟩
  obtain ⟨d1, S1, W1, rfl, go1, st1, r1, p1⟩ := h1
  refine ⟨Z, S1, W1, env, rfl, st1, er.ext go1.toExt, (seqEE p1).mono fun v2 H2 h2 => ?_⟩
  obtain ⟨d2, S2, W2, rfl, go2, st2, r2, p2⟩ := h2
  obtain ⟨d, e, q⟩ := ofO_post p2
  exact ⟨Z, S2, W2, d1, d2, d, rfl, st2, RepD.ext go2.toExt r1, r2, e, q⟩
theorem pf_op {op : Operator} {g : Sto → D → D → Option D} {a b : Expr} {fa fb : CE'} {pos : Pos} (ho : OpR X (binaryOp op) (v2D G g)) (ha : PF G X a fa) (hb : PF G X b fb) : PF G X (.BinOp a op b pos) (cOp g fa fb) :=
  fun Wx tk => PE.imp (pe_op ho (ha Wx tk) (hb Wx tk)) cOp_imp
theorem pf_un {op : UnaryOp} {g : Sto → D → Option D} {a : Expr} {fa : CE'} {pos : Pos} (ho : UnR X (unaryOp op) (v1D G g)) (ha : PF G X a fa) : PF G X (.UnaryOp op a pos) (cUn g fa) := fun Wx tk => by
  refine PE.imp (pe_un ho (ha Wx tk)) fun σ H Q h => ?_
  obtain ⟨Z, S, W, env, rfl, st, er, p⟩ := h
  refine ⟨Z, S, W, env, rfl, st, er, (seqEE p).mono fun v H1 h1 => ?_⟩
  obtain ⟨d1, S1, W1, rfl, go1, st1, r1, p1⟩ := h1
  obtain ⟨d, e, q⟩ := ofO_post p1
  exact ⟨Z, S1, W1, d1, d, rfl, st1, r1, e, q⟩
theorem pf_cmp {op : CmpOp} {g : Sto → D → D → Option D} {a b : Expr} {fa fb : CE'} {pos : Pos} (ho : OpR X (compareOp op) (v2D G g)) (ha : PF G X a fa) (hb : PF G X b fb) (hm : behindInMarks op b = false := by first | exact nobehind _ (by decide) (by decide) | with_unfolding_all rfl) :
    PF G X (.Compare a [op] [b] pos) (cOp g fa fb) := fun Wx tk => PE.imp (pe_cmpR ho (ha Wx tk) (hb Wx tk) hm) cOp_imp
/-- a bool as a test -/
def asB : D → Option Bool
  | .p (.bl b) => some b
  | _ => none
def cTB (f : CE') : CT := fun env S => (f env S).bind fun d S1 => R.ofO S1 (asB d)
theorem ofO_postT {S : Sto} {o : Option Bool} {Q : Bool → Hp → Prop} (h : PostT G Wx Z W σ Q (R.ofO S o)) : ∃ b, o = some b ∧ ∀ W', Go Z W W' → StRep G W' Z S → Q b W'.H := by
  cases o with
  | none => exact h.elim
  | some d => exact ⟨d, rfl, h⟩
theorem asB_rep {d : D} {v : V} {b : Bool} (e : asB d = some b) (r : RepD G W d v) : v = .bl b := by
  cases d with
  | ref i => simp [asB] at e
  | fn _ _ _ _ _ => simp [asB] at e
  | p x =>
    cases x <;> simp [asB] at e
    subst e
    simpa only [RepD, Rep] using r
theorem cTB_imp {f : CE'} : ∀ σ H Q, tMT G Wx (cTB f) σ H Q → tTest (tM G Wx f) σ H Q := by
  rintro σ H Q ⟨Z, S, W, env, rfl, st, er, p⟩
  refine ⟨Z, S, W, env, rfl, st, er, (seqET p).mono fun v H1 h1 => ?_⟩
  obtain ⟨d1, S1, W1, rfl, go1, st1, r1, p1⟩ := h1
  obtain ⟨b, e, q⟩ := ofO_postT p1
  exact ⟨b, asB_rep e r1, q W1 (Go.refl _ _) st1⟩
theorem pt_imp2 {X : Cx} {e : Expr} {t : TE} {t' : TT} (h : PT X e (tTest t)) (i : ∀ σ H Q, t' σ H Q → tTest t σ H Q) : PT X e t' := PT.imp h i
theorem tOp_mono {r : R2} {ta tb : TE} (ma : ∀ σ H Q Q', (∀ v H, Q v H → Q' v H) → ta σ H Q → ta σ H Q') (mb : ∀ σ H Q Q', (∀ v H, Q v H → Q' v H) → tb σ H Q → tb σ H Q') : True := trivial
/-- a comparison as a test -/
theorem pft_cmp {op : CmpOp} {g : Sto → D → D → Option D} {a b : Expr} {fa fb : CE'} {pos : Pos} (ho : OpR X (compareOp op) (v2D G g)) (ha : PF G X a fa) (hb : PF G X b fb) (hm : behindInMarks op b = false := by first | exact nobehind _ (by decide) (by decide) | with_unfolding_all rfl) :
    PFT G X (.Compare a [op] [b] pos) (cTB (cOp g fa fb)) := fun Wx tk => by
  refine PT.imp (pt_cmpR ho (ha Wx tk) (hb Wx tk) hm) fun σ H Q h => ?_
  exact cOp_imp σ H _ (cTB_imp σ H Q h)
/-- chains -/
def cChain (g g' : Sto → D → D → Option D) (fa fb fc : CE') : CE' := fun env S => (fa env S).bind fun x S1 => (fb env S1).bind fun y S2 => (R.ofO S2 ((g S2 x y).bind asB)).bind fun c S3 =>
  if c = true then (fc env S3).bind fun z S4 => R.ofO S4 (g' S4 y z) else .ok (.p (.bl false)) S3
theorem cChain_imp {g g' : Sto → D → D → Option D} {fa fb fc : CE'} : ∀ σ H Q, tM G Wx (cChain g g' fa fb fc) σ H Q → tChain (v2D G g) (v2D G g') (tM G Wx fa) (tM G Wx fb) (tM G Wx fc) σ H Q := by
  rintro σ H Q ⟨Z, S, W, env, rfl, st, er, p⟩
  refine ⟨Z, S, W, env, rfl, st, er, (seqEE p).mono fun v H1 h1 => ?_⟩
  obtain ⟨d1, S1, W1, rfl, go1, st1, r1, p1⟩ := h1
  refine ⟨Z, S1, W1, env, rfl, st1, er.ext go1.toExt, (seqEE p1).mono fun v2 H2 h2 => ?_⟩
  obtain ⟨d2, S2, W2, rfl, go2, st2, r2, p2⟩ := h2
  have er2 := (er.ext go1.toExt).ext go2.toExt
  cases hg : g S2 d1 d2 with
  | none => rw [hg] at p2; exact p2.elim
  | some d =>
    cases hb : asB d with
    | none => rw [hg] at p2; simp only [Option.bind_some, hb] at p2; exact p2.elim
    | some c =>
      rw [hg] at p2
      simp only [Option.bind_some, hb, R.ofO_some, R.bind_ok] at p2
      refine ⟨Z, S2, W2, d1, d2, d, rfl, st2, RepD.ext go2.toExt r1, r2, hg, fun v3 W3 go3 st3 r3 => ⟨c, asB_rep hb r3, ?_⟩⟩
      cases c with
      | false =>
        rw [if_neg Bool.false_ne_true] at p2 ⊢
        exact p2 (.bl false) W3 go3 st3 (by simp only [RepD, Rep])
      | true =>
        rw [if_pos rfl] at p2 ⊢
        refine ⟨Z, S2, W3, env, rfl, st3, er2.ext go3.toExt, (seqEE (PostE.shift go3 p2)).mono fun v4 H4 h4 => ?_⟩
        obtain ⟨d4, S4, W4, rfl, go4, st4, r4, p4⟩ := h4
        obtain ⟨d5, e5, q5⟩ := ofO_post p4
        exact ⟨Z, S4, W4, d2, d4, d5, rfl, st4, RepD.ext go4.toExt (RepD.ext go3.toExt r2), r4, e5, q5⟩
theorem pf_chain {op op' : CmpOp} {g g' : Sto → D → D → Option D} {a b c : Expr} {fa fb fc : CE'} {pos : Pos} (ho : OpR X (compareOp op) (v2D G g)) (ho' : OpR X (compareOp op') (v2D G g')) (ha : PF G X a fa) (hb : PF G X b fb) (hc : PF G X c fc)
    (hm : lastMarks [op, op'] [b, c] = false := by with_unfolding_all rfl) : PF G X (.Compare a [op, op'] [b, c] pos) (cChain g g' fa fb fc) := fun Wx tk => PE.imp (pe_chain ho ho' (ha Wx tk) (hb Wx tk) (hc Wx tk) hm) cChain_imp
theorem pft_chain {op op' : CmpOp} {g g' : Sto → D → D → Option D} {a b c : Expr} {fa fb fc : CE'} {pos : Pos} (ho : OpR X (compareOp op) (v2D G g)) (ho' : OpR X (compareOp op') (v2D G g')) (ha : PF G X a fa) (hb : PF G X b fb) (hc : PF G X c fc)
    (hm : lastMarks [op, op'] [b, c] = false := by with_unfolding_all rfl) : PFT G X (.Compare a [op, op'] [b, c] pos) (cTB (cChain g g' fa fb fc)) := fun Wx tk => by
  refine PT.imp (pt_chain ho ho' (ha Wx tk) (hb Wx tk) (hc Wx tk) hm) fun σ H Q h => ?_
  exact cChain_imp σ H _ (cTB_imp σ H Q h)

/-! ### truth -/
def asL (S : Sto) : D → Option (List P)
  | .p (.lst xs) => some xs
  | .p (.fz xs) => some xs
  | .ref i => match S[i]? with
    | some (.lst xs) => some xs
    | _ => none
  | _ => none
def truthP : P → Option Bool
  | .non => some false
  | .bl b => some b
  | .int i => some (i != 0)
  | .str x => if x.length ≤ sizeLine then some ((x.length : Int) != 0) else none
  | .tup xs => some (!xs.isEmpty)
  | .lst xs => some (!xs.isEmpty)
  | .fz xs => some (!xs.isEmpty)
  | _ => none
def truth (S : Sto) : D → Option Bool
  | .p x => truthP x
  | .ref i => match S[i]? with
    | some (.lst xs) => some (!xs.isEmpty)
    | _ => none
  | .fn _ _ _ _ _ => none
theorem TupAt.sq {K : PySem.W.Frag} (hk : K = G.K) {a : Addr} {vs : List V} (h : TupAt G W a vs) : SqT K W.H a vs := by
  subst hk
  rcases h with ⟨_, h⟩ | h
  · exact .inl h
  · exact .inr h
theorem LstAt.sq {K : PySem.W.Frag} {a : Addr} {vs : List V} (h : LstAt W a vs) : SqL K W.H a vs := .inl (.inl h.2)
theorem FzAt.sq {K : PySem.W.Frag} (hk : K = G.K) {a : Addr} {vs : List V} (h : FzAt G W a vs) : SqL K W.H a vs := by
  subst hk
  rcases h with ⟨_, o, h⟩ | h
  · exact .inl (.inr ⟨o, h⟩)
  · exact .inr h
theorem Reps.isEmpty {ds : List P} {vs : List V} (h : Reps G W ds vs) : vs.isEmpty = ds.isEmpty := by
  cases ds <;> cases vs <;> simp [Reps] at h ⊢
/-- a list, by its value or its place -/
theorem asL_rep {K : PySem.W.Frag} (hk : K = G.K) (st : StRep G W Z S) {d : D} {v : V} {ds : List P} (e : asL S d = some ds) (r : RepD G W d v) : ∃ a vs, v = .ref a ∧ SqL K W.H a vs ∧ Reps G W ds vs := by
  cases d with
  | fn _ _ _ _ _ => simp [asL] at e
  | p x =>
    cases x <;> simp [asL] at e
    · subst e
      simp only [RepD, Rep] at r
      obtain ⟨a, vs, e, l, r⟩ := r
      exact ⟨a, vs, e, l.sq, r⟩
    · subst e
      simp only [RepD, Rep] at r
      obtain ⟨a, vs, e, l, r⟩ := r
      exact ⟨a, vs, e, l.sq hk, r⟩
  | ref i =>
    simp only [asL] at e
    split at e
    · rename_i xs hs
      simp only [Option.some.injEq] at e
      subst e
      simp only [RepD] at r
      obtain ⟨_, _, vs, h1, h2⟩ := st.obj i _ hs rfl
      exact ⟨W.ρ i, vs, r.2, .inl (.inl h1), h2⟩
    · cases e
theorem truth_rep {K : PySem.W.Frag} (hk : K = G.K) (st : StRep G W Z S) {d : D} {v : V} {b : Bool} (e : truth S d = some b) (r : RepD G W d v) : TruV K v W.H b := by
  cases d with
  | fn _ _ _ _ _ => simp [truth] at e
  | ref i =>
    simp only [truth] at e
    split at e
    · rename_i xs hs
      simp only [Option.some.injEq] at e
      simp only [RepD] at r
      obtain ⟨_, _, vs, h1, h2⟩ := st.obj i _ hs rfl
      rw [r.2]
      exact .inl ⟨vs, .inl (.inl h1), by rw [Reps.isEmpty h2]; exact e.symm⟩
    · cases e
  | p x =>
  simp only [truth] at e
  simp only [RepD] at r
  cases x with
  | non => simp only [Rep] at r; subst r; simp [truthP] at e; subst e; exact rfl
  | bl c => simp only [Rep] at r; subst r; simp [truthP] at e; subst e; exact rfl
  | int c => simp only [Rep] at r; subst r; simp only [truthP, Option.some.injEq] at e; exact e.symm
  | str c =>
    simp only [Rep] at r; subst r
    simp only [truthP] at e
    split at e
    · simp only [Option.some.injEq] at e
      exact ⟨by assumption, e.symm⟩
    · cases e
  | tup xs =>
    simp only [Rep] at r
    obtain ⟨a, vs, rfl, t, r⟩ := r
    simp only [truthP, Option.some.injEq] at e
    exact .inr (.inl ⟨vs, t.sq hk, by rw [Reps.isEmpty r]; exact e.symm⟩)
  | lst xs =>
    simp only [Rep] at r
    obtain ⟨a, vs, rfl, t, r⟩ := r
    simp only [truthP, Option.some.injEq] at e
    exact .inl ⟨vs, t.sq, by rw [Reps.isEmpty r]; exact e.symm⟩
  | fz xs =>
    simp only [Rep] at r
    obtain ⟨a, vs, rfl, t, r⟩ := r
    simp only [truthP, Option.some.injEq] at e
    exact .inl ⟨vs, t.sq hk, by rw [Reps.isEmpty r]; exact e.symm⟩
  | _ => simp [truthP] at e
/-- an expression as a test by its value's truth -/
def cTr (f : CE') : CT := fun env S => (f env S).bind fun d S1 => R.ofO S1 (truth S1 d)
theorem pft_truth {a : Expr} {fa : CE'} (cg : CtxG G X k) (ha : PF G X a fa) (he : ∀ whole, isTrue a X.env whole = (do let v ← whole; standAt a.pos; holding [v] (truthy v)) := by intro _; rfl) : PFT G X a (cTr fa) := fun Wx tk => by
  refine PT.imp (pt_truth (ha Wx tk) he) fun σ H Q h => ?_
  obtain ⟨Z, S, W, env, rfl, st, er, p⟩ := h
  refine ⟨Z, S, W, env, rfl, st, er, (seqET p).mono fun v H1 h1 => ?_⟩
  obtain ⟨d1, S1, W1, rfl, go1, st1, r1, p1⟩ := h1
  obtain ⟨b, e, q⟩ := ofO_postT p1
  exact ⟨b, truth_rep cg.kk st1 e r1, q W1 (Go.refl _ _) st1⟩

/-! ### and, or, not, if -/
def cAnd (fa fb : CT) : CT := fun env S => (fa env S).bind fun c S1 => if c = true then fb env S1 else .ok false S1
def cOr (fa fb : CT) : CT := fun env S => (fa env S).bind fun c S1 => if c = true then .ok true S1 else fb env S1
def cNot (fa : CT) : CT := fun env S => (fa env S).bind fun c S1 => .ok (!c) S1
def cOfT (fa : CT) : CE' := fun env S => (fa env S).bind fun c S1 => .ok (.p (.bl c)) S1
def cIf (t : CT) (fa fb : CE') : CE' := fun env S => (t env S).bind fun c S1 => if c = true then fa env S1 else fb env S1
theorem pfw_one {op : BoolOp} {a : Expr} {fa : CT} {pos : Pos} (ha : PFT G X a fa) : PFW G X (.BoolOp op [a] pos) fa := fun Wx tk => match op with
  | .And => pw_and1 (ha Wx tk)
  | .Or => pw_or1 (ha Wx tk)
theorem pfw_and {a b : Expr} {rest : List Expr} {fa fb : CT} {pos : Pos} (ha : PFT G X a fa) (hb : PFW G X (.BoolOp .And (b :: rest) pos) fb) : PFW G X (.BoolOp .And (a :: b :: rest) pos) (cAnd fa fb) := fun Wx tk => by
  refine PW.imp (pw_and (ha Wx tk) (hb Wx tk)) fun σ H Q h => ?_
  obtain ⟨Z, S, W, env, rfl, st, er, p⟩ := h
  refine ⟨Z, S, W, env, rfl, st, er, (seqTT p).mono fun c H1 h1 => ?_⟩
  obtain ⟨S1, W1, rfl, go1, st1, p1⟩ := h1
  cases c with
  | true =>
    rw [if_pos rfl] at p1 ⊢
    exact ⟨Z, S1, W1, env, rfl, st1, er.ext go1.toExt, p1⟩
  | false =>
    rw [if_neg Bool.false_ne_true] at p1 ⊢
    exact p1 W1 (Go.refl _ _) st1
theorem pfw_or {a b : Expr} {rest : List Expr} {fa fb : CT} {pos : Pos} (ha : PFT G X a fa) (hb : PFW G X (.BoolOp .Or (b :: rest) pos) fb) : PFW G X (.BoolOp .Or (a :: b :: rest) pos) (cOr fa fb) := fun Wx tk => by
  refine PW.imp (pw_or (ha Wx tk) (hb Wx tk)) fun σ H Q h => ?_
  obtain ⟨Z, S, W, env, rfl, st, er, p⟩ := h
  refine ⟨Z, S, W, env, rfl, st, er, (seqTT p).mono fun c H1 h1 => ?_⟩
  obtain ⟨S1, W1, rfl, go1, st1, p1⟩ := h1
  cases c with
  | true =>
    rw [if_pos rfl] at p1 ⊢
    exact p1 W1 (Go.refl _ _) st1
  | false =>
    rw [if_neg Bool.false_ne_true] at p1 ⊢
    exact ⟨Z, S1, W1, env, rfl, st1, er.ext go1.toExt, p1⟩
theorem pft_w {a : Expr} {fa : CT} (ha : PFW G X a fa) : PFT G X a fa := fun Wx tk => (ha Wx tk).pt
theorem pft_not {a : Expr} {fa : CT} {pos : Pos} (ha : PFT G X a fa) : PFT G X (.UnaryOp .Not a pos) (cNot fa) := fun Wx tk => by
  refine PT.imp (pt_not (ha Wx tk)) fun σ H Q h => ?_
  obtain ⟨Z, S, W, env, rfl, st, er, p⟩ := h
  refine ⟨Z, S, W, env, rfl, st, er, (seqTT p).mono fun c H1 h1 => ?_⟩
  obtain ⟨S1, W1, rfl, go1, st1, p1⟩ := h1
  exact p1 W1 (Go.refl _ _) st1
theorem pf_ifExp {c a b : Expr} {t : CT} {fa fb : CE'} {pos : Pos} (hc : PFT G X c t) (ha : PF G X a fa) (hb : PF G X b fb) : PF G X (.IfExp c a b pos) (cIf t fa fb) := fun Wx tk => by
  refine PE.imp (pe_ifExp (hc Wx tk) (ha Wx tk) (hb Wx tk)) fun σ H Q h => ?_
  obtain ⟨Z, S, W, env, rfl, st, er, p⟩ := h
  refine ⟨Z, S, W, env, rfl, st, er, (seqTE p).mono fun c H1 h1 => ?_⟩
  obtain ⟨S1, W1, rfl, go1, st1, p1⟩ := h1
  cases c with
  | true =>
    rw [if_pos rfl] at p1 ⊢
    exact ⟨Z, S1, W1, env, rfl, st1, er.ext go1.toExt, p1⟩
  | false =>
    rw [if_neg Bool.false_ne_true] at p1 ⊢
    exact ⟨Z, S1, W1, env, rfl, st1, er.ext go1.toExt, p1⟩
/-- and, or, not as values (the parts bools) -/
def cAndV (fa fb : CE') : CE' := fun env S => (cTB fa env S).bind fun c S1 => if c = true then fb env S1 else .ok (.p (.bl false)) S1
def cOrV (fa fb : CE') : CE' := fun env S => (cTB fa env S).bind fun c S1 => if c = true then .ok (.p (.bl true)) S1 else fb env S1
def cNotV (fa : CE') : CE' := fun env S => (cTB fa env S).bind fun c S1 => .ok (.p (.bl (!c))) S1
theorem cTB_seq {fa : CE'} {env : DEnv} {S : Sto} {kk : Bool → Sto → R D} {Q : VK} (er : EnvR G W env σ) (st : StRep G W Z S) (p : PostE G Wx Z W σ Q ((cTB fa env S).bind kk)) :
    tM G Wx fa σ W.H (fun x H1 => ∃ c, x = .bl c ∧ ∃ S1 W1, W1.H = H1 ∧ Go Z W W1 ∧ StRep G W1 Z S1 ∧ PostE G Wx Z W1 σ Q (kk c S1)) := by
  have p' := seqTE p
  refine ⟨Z, S, W, env, rfl, st, er, (seqET p').mono fun v H1 h1 => ?_⟩
  obtain ⟨d1, S1, W1, rfl, go1, st1, r1, p1⟩ := h1
  obtain ⟨b, e, q⟩ := ofO_postT p1
  obtain ⟨S2, W2, e2, go2, st2, p2⟩ := q W1 (Go.refl _ _) st1
  exact ⟨b, asB_rep e r1, S2, W2, e2, go2, st2, p2⟩
theorem pf_one {op : BoolOp} {a : Expr} {fa : CE'} {pos : Pos} (ha : PF G X a fa) : PF G X (.BoolOp op [a] pos) fa := fun Wx tk => pe_one (ha Wx tk)
theorem pf_and {a b : Expr} {rest : List Expr} {fa fb : CE'} {pos : Pos} (ha : PF G X a fa) (hb : PF G X (.BoolOp .And (b :: rest) pos) fb) : PF G X (.BoolOp .And (a :: b :: rest) pos) (cAndV fa fb) := fun Wx tk => by
  refine PE.imp (pe_and (ha Wx tk) (hb Wx tk)) fun σ H Q h => ?_
  obtain ⟨Z, S, W, env, rfl, st, er, p⟩ := h
  obtain ⟨Z', S', W', env', e', st', er', p'⟩ := cTB_seq er st p
  refine ⟨Z', S', W', env', e', st', er', p'.mono fun x H1 h1 => ?_⟩
  obtain ⟨c, rfl, S1, W1, rfl, go1, st1, p1⟩ := h1
  refine ⟨c, rfl, ?_⟩
  cases c with
  | true =>
    rw [if_pos rfl] at p1 ⊢
    exact ⟨Z, S1, W1, env, rfl, st1, er.ext go1.toExt, p1⟩
  | false =>
    rw [if_neg Bool.false_ne_true] at p1 ⊢
    exact p1 _ W1 (Go.refl _ _) st1 (by simp only [RepD, Rep])
theorem pf_or {a b : Expr} {rest : List Expr} {fa fb : CE'} {pos : Pos} (ha : PF G X a fa) (hb : PF G X (.BoolOp .Or (b :: rest) pos) fb) : PF G X (.BoolOp .Or (a :: b :: rest) pos) (cOrV fa fb) := fun Wx tk => by
  refine PE.imp (pe_or (ha Wx tk) (hb Wx tk)) fun σ H Q h => ?_
  obtain ⟨Z, S, W, env, rfl, st, er, p⟩ := h
  obtain ⟨Z', S', W', env', e', st', er', p'⟩ := cTB_seq er st p
  refine ⟨Z', S', W', env', e', st', er', p'.mono fun x H1 h1 => ?_⟩
  obtain ⟨c, rfl, S1, W1, rfl, go1, st1, p1⟩ := h1
  refine ⟨c, rfl, ?_⟩
  cases c with
  | true =>
    rw [if_pos rfl] at p1 ⊢
    exact p1 _ W1 (Go.refl _ _) st1 (by simp only [RepD, Rep])
  | false =>
    rw [if_neg Bool.false_ne_true] at p1 ⊢
    exact ⟨Z, S1, W1, env, rfl, st1, er.ext go1.toExt, p1⟩
theorem pf_not {a : Expr} {fa : CE'} {pos : Pos} (ha : PF G X a fa) : PF G X (.UnaryOp .Not a pos) (cNotV fa) := fun Wx tk => by
  refine PE.imp (pe_not (ha Wx tk)) fun σ H Q h => ?_
  obtain ⟨Z, S, W, env, rfl, st, er, p⟩ := h
  obtain ⟨Z', S', W', env', e', st', er', p'⟩ := cTB_seq er st p
  refine ⟨Z', S', W', env', e', st', er', p'.mono fun x H1 h1 => ?_⟩
  obtain ⟨c, rfl, S1, W1, rfl, go1, st1, p1⟩ := h1
  exact ⟨c, rfl, p1 _ W1 (Go.refl _ _) st1 (by simp only [RepD, Rep])⟩

/-! ### lists of expressions, tuples, lists -/
def cNil : CA := fun _ S => .ok [] S
def cCons (fa : CE') (fr : CA) : CA := fun env S => (fa env S).bind fun x S1 => (fr env S1).bind fun xs S2 => .ok (x :: xs) S2
theorem pfa_nil : PFA G X [] cNil := fun Wx tk => PA.imp pa_nil fun σ H Q h => by
  obtain ⟨Z, S, W, env, rfl, st, er, p⟩ := h
  exact p [] W (Go.refl _ _) st True.intro
theorem pfa_cons {e : Expr} {es : List Expr} {fa : CE'} {fr : CA} (ha : PF G X e fa) (hr : PFA G X es fr) (hs : starEach (e :: es) X.env = (false, eval e X.env) :: starEach es X.env := by rfl) : PFA G X (e :: es) (cCons fa fr) := fun Wx tk => by
  refine PA.imp (pa_cons (ha Wx tk) (hr Wx tk) hs) fun σ H Q h => ?_
  obtain ⟨Z, S, W, env, rfl, st, er, p⟩ := h
  refine ⟨Z, S, W, env, rfl, st, er, (seqEA p).mono fun v H1 h1 => ?_⟩
  obtain ⟨d1, S1, W1, rfl, go1, st1, r1, p1⟩ := h1
  refine ⟨Z, S1, W1, env, rfl, st1, er.ext go1.toExt, (seqAA p1).mono fun vs H2 h2 => ?_⟩
  obtain ⟨ds, S2, W2, rfl, go2, st2, r2, p2⟩ := h2
  exact p2 (v :: vs) W2 (Go.refl _ _) st2 ⟨RepD.ext go2.toExt r1, r2⟩
theorem small_sz (n : Nat) (h : n ≤ 65536) : n ≤ sizeLine := Nat.le_trans h (by rw [sizeLine_eq]; decide)
/-- a value goes into another one: a place of the store is given up -/
def pureD (d : D) (S : Sto) : Option (P × Sto) := match d with
  | .p x => some (x, S)
  | .ref i => match S[i]? with
    | some (.lst xs) => some (.lst xs, S.set i .dead)
    | some (.ins c ns vs) => some (.obj c ns vs, S.set i .dead)
    | some (.dct ks vs) => some (.dct ks vs, S.set i .dead)
    | _ => none
  | .fn _ _ _ _ _ => none
def pureDs : List D → Sto → Option (List P × Sto)
  | [], S => some ([], S)
  | d :: ds, S => match pureD d S with
    | some (x, S1) => match pureDs ds S1 with
      | some (xs, S2) => some (x :: xs, S2)
      | none => none
    | none => none
/-- the world without one place of the store -/
def Wd.free (W : Wd) (a : Addr) : Wd := { W with U := fun b => W.U b ∧ b ≠ a }
theorem free_go (st : StRep G W Z S) {i : Nat} {so : SO} (e : S[i]? = some so) (l : so.live = true) : Go Z W (W.free (W.ρ i)) :=
  ⟨⟨⟨fun a o _ h u => ⟨h, fun z => u z.1⟩⟩, fun _ _ => rfl, Nat.le_refl _⟩, fun _ _ => rfl⟩
theorem free_st (st : StRep G W Z S) {i : Nat} {so : SO} (e : S[i]? = some so) (l : so.live = true) : StRep G (W.free (W.ρ i)) Z (S.set i .dead) := by
  have go := free_go st e l
  have hi : i < S.length := (List.getElem?_eq_some_iff.mp e).1
  have get : ∀ {j so'}, (S.set i .dead)[j]? = some so' → so'.live = true → j ≠ i ∧ S[j]? = some so' := fun {j so'} h l' => by
    by_cases hj : i = j
    · subst hj
      rw [List.getElem?_set_self hi] at h
      cases h; cases l'
    · rw [List.getElem?_set_ne hj] at h
      exact ⟨Ne.symm hj, h⟩
  refine ⟨st.tab, by rw [List.length_set]; exact st.len, fun a z => ⟨st.zu a z, fun e' => (st.obj i so e l).2.1 (e' ▸ z)⟩, fun a u => st.ut a u.1, fun j so' h l' => ?_, fun j j' so1 so2 h1 h2 l1 l2 q => ?_, fun a u => ?_⟩
  · obtain ⟨hj, h⟩ := get h l'
    obtain ⟨h1, h2, h3⟩ := st.obj j so' h l'
    exact ⟨⟨h1, fun q => hj (st.inj j i so' so h e l' l q)⟩, h2, ObjR.ext go.toExt rfl h3⟩
  · exact st.inj j j' so1 so2 (get h1 l1).2 (get h2 l2).2 l1 l2 q
  · rcases st.back a u.1 with z | ⟨j, so', h, l', q⟩
    · exact .inl z
    · have hj : i ≠ j := fun e' => u.2 (by rw [← q, ← e'])
      exact .inr ⟨j, so', by rw [List.getElem?_set_ne hj]; exact h, l', q⟩
theorem pureD_rep (st : StRep G W Z S) {d : D} {v : V} {x : P} {S1 : Sto} (e : pureD d S = some (x, S1)) (r : RepD G W d v) : ∃ W1, W1.H = W.H ∧ Go Z W W1 ∧ StRep G W1 Z S1 ∧ Rep G W1 x v := by
  cases d with
  | fn _ _ _ _ _ => simp [pureD] at e
  | p y =>
    simp only [pureD, Option.some.injEq, Prod.mk.injEq] at e
    obtain ⟨rfl, rfl⟩ := e
    exact ⟨W, rfl, Go.refl _ _, st, r⟩
  | ref i =>
    simp only [pureD] at e
    simp only [RepD] at r
    have nu : ¬ (W.free (W.ρ i)).U (W.ρ i) := fun z => z.2 rfl
    split at e
    · rename_i xs hs
      simp only [Option.some.injEq, Prod.mk.injEq] at e
      obtain ⟨rfl, rfl⟩ := e
      have go := free_go st hs rfl
      obtain ⟨_, _, vs, h1, h2⟩ := st.obj i _ hs rfl
      refine ⟨W.free (W.ρ i), rfl, go, free_st st hs rfl, ?_⟩
      simp only [Rep]
      exact ⟨W.ρ i, vs, r.2, ⟨nu, h1⟩, Reps.ext go.toExt xs h2⟩
    · rename_i c ns ds hs
      simp only [Option.some.injEq, Prod.mk.injEq] at e
      obtain ⟨rfl, rfl⟩ := e
      have go := free_go st hs rfl
      obtain ⟨_, _, dx, vs, h1, h2, h3⟩ := st.obj i _ hs rfl
      refine ⟨W.free (W.ρ i), rfl, go, free_st st hs rfl, ?_⟩
      simp only [Rep]
      exact ⟨W.ρ i, dx, vs, r.2, nu, h1, h2, Reps.ext go.toExt ds h3⟩
    · rename_i ks ds hs
      simp only [Option.some.injEq, Prod.mk.injEq] at e
      obtain ⟨rfl, rfl⟩ := e
      have go := free_go st hs rfl
      obtain ⟨_, _, vs, h1, h2⟩ := st.obj i _ hs rfl
      refine ⟨W.free (W.ρ i), rfl, go, free_st st hs rfl, ?_⟩
      simp only [Rep]
      refine ⟨W.ρ i, vs, r.2, ?_, Reps.ext go.toExt ds h1⟩
      rcases h2 with ⟨kk, a1, a2, a3⟩ | ⟨a0, kk, a1, a2, a3⟩
      · exact .inl ⟨nu, kk, a1, a2, .inl a3⟩
      · exact .inr ⟨nu, kk, a1, a2, .inl a3⟩
    · cases e
theorem pureDs_rep : ∀ {ds : List D} {W : Wd} {S : Sto} {vs : List V} {xs : List P} {S1 : Sto}, StRep G W Z S → pureDs ds S = some (xs, S1) → RepDs G W ds vs → ∃ W1, W1.H = W.H ∧ Go Z W W1 ∧ StRep G W1 Z S1 ∧ Reps G W1 xs vs
  | [], W, S, [], xs, S1, st, e, r => by
    simp only [pureDs, Option.some.injEq, Prod.mk.injEq] at e
    obtain ⟨rfl, rfl⟩ := e
    exact ⟨W, rfl, Go.refl _ _, st, by simp only [Reps]⟩
  | [], _, _, _ :: _, _, _, _, _, r => r.elim
  | _ :: _, _, _, [], _, _, _, _, r => r.elim
  | d :: ds, W, S, v :: vs, xs, S1, st, e, r => by
    simp only [pureDs] at e
    split at e
    · rename_i x S2 h1
      split at e
      · rename_i ys S3 h2
        simp only [Option.some.injEq, Prod.mk.injEq] at e
        obtain ⟨rfl, rfl⟩ := e
        obtain ⟨W1, e1, g1, s1, r1⟩ := pureD_rep st h1 r.1
        obtain ⟨W2, e2, g2, s2, r2⟩ := pureDs_rep s1 h2 (RepDs.ext g1.toExt r.2)
        exact ⟨W2, e2.trans e1, g1.trans g2, s2, by simp only [Reps]; exact ⟨Rep.ext g2.toExt x r1, r2⟩⟩
      · cases e
    · cases e
def mkTup (ds : List D) (S : Sto) : R D := match pureDs ds S with
  | some (xs, S1) => if xs.length ≤ sizeLine then .ok (.p (.tup xs)) S1 else .bad
  | none => .bad
def mkLst (ds : List D) (S : Sto) : R D := match pureDs ds S with
  | some (xs, S1) => if xs.length ≤ sizeLine then .ok (.p (.lst xs)) S1 else .bad
  | none => .bad
/-- a list that is written later -/
def mkRef (ds : List D) (S : Sto) : R D := match pureDs ds S with
  | some (xs, S1) => if xs.length ≤ sizeLine then .ok (.ref S1.length) (S1 ++ [.lst xs]) else .bad
  | none => .bad
def cTup (f : CA) : CE' := fun env S => (f env S).bind mkTup
def cLst (f : CA) : CE' := fun env S => (f env S).bind mkLst
def cRef (f : CA) : CE' := fun env S => (f env S).bind mkRef
theorem new_tup (st : StRep G W Z S) {ds : List P} {vs : List V} (r : Reps G W ds vs) {p : Addr} (np : W.H p = none) : Rep G (W.put p (.tup vs)) (.tup ds) (.ref p) := by
  simp only [Rep]
  exact ⟨p, vs, rfl, .inl ⟨put_nu st np, .inl put_at⟩, Reps.ext (put_go st np _).toExt ds r⟩
theorem new_lst (st : StRep G W Z S) {ds : List P} {vs : List V} (r : Reps G W ds vs) {p : Addr} (np : W.H p = none) : Rep G (W.put p (.lst vs)) (.lst ds) (.ref p) := by
  simp only [Rep]
  exact ⟨p, vs, rfl, ⟨put_nu st np, put_at⟩, Reps.ext (put_go st np _).toExt ds r⟩
/-- the world with one place of the store more -/
def Wd.grow (W : Wd) (p : Addr) (o : HO) : Wd := { H := upd W.H p o, U := fun a => W.U a ∨ a = p, ρ := fun i => if i = W.n then p else W.ρ i, n := W.n + 1 }
theorem grow_go (st : StRep G W Z S) {p : Addr} (np : W.H p = none) (o : HO) : Go Z W (W.grow p o) := by
  have g := put_go st np o
  refine ⟨⟨⟨fun a q n h u => ⟨(g.kp a q n h u).1, fun z => z.elim u fun e => ne_of_none h np e⟩⟩, fun i hi => ?_, Nat.le_succ _⟩, fun a z => g.z a z⟩
  show (if i = W.n then p else W.ρ i) = W.ρ i
  rw [if_neg (Nat.ne_of_lt hi)]
theorem grow_st (st : StRep G W Z S) {p : Addr} (np : W.H p = none) {o : HO} {so : SO} (hl : so.live = true) (ho : ObjR G (W.grow p o) p so) : StRep G (W.grow p o) Z (S ++ [so]) := by
  have go := grow_go st np o
  have ne : ∀ a, W.U a → a ≠ p := fun a u e => put_nu st np (e ▸ u)
  have rho : ∀ i, i < S.length → (W.grow p o).ρ i = W.ρ i := fun i hi => go.rho i (by rw [st.len]; exact hi)
  have rhoN : (W.grow p o).ρ S.length = p := by
    show (if S.length = W.n then p else _) = p
    rw [if_pos st.len.symm]
  have get : ∀ {j so'}, (S ++ [so])[j]? = some so' → (j < S.length ∧ S[j]? = some so') ∨ (j = S.length ∧ so' = so) := fun {j so'} h => by
    by_cases hj : j < S.length
    · rw [List.getElem?_append_left hj] at h
      exact .inl ⟨hj, h⟩
    · have hl := (List.getElem?_eq_some_iff.mp h).1
      rw [List.length_append, List.length_singleton] at hl
      have hj' : j = S.length := by omega
      subst hj'
      rw [List.getElem?_append_right (Nat.le_refl _), Nat.sub_self] at h
      simp at h
      exact .inr ⟨rfl, h.symm⟩
  refine ⟨tab_upd st.tab np o, by rw [List.length_append, List.length_singleton, ← st.len]; rfl, fun a z => .inl (st.zu a z), fun a u => ?_, fun j so' h l => ?_, fun j j' so1 so2 h1 h2 l1 l2 q => ?_, fun a u => ?_⟩
  · rcases u with u | rfl
    · obtain ⟨q, h, n⟩ := st.ut a u
      exact ⟨q, by show upd W.H p o a = _; rw [upd_ne (ne a u)]; exact h, n⟩
    · exact ⟨o, upd_same, obj_nc hl ho upd_same⟩
  · rcases get h with ⟨hj, h⟩ | ⟨rfl, rfl⟩
    · rw [rho j hj]
      obtain ⟨h1, h2, h3⟩ := st.obj j so' h l
      exact ⟨.inl h1, h2, ObjR.ext go.toExt (upd_ne (ne _ h1)) h3⟩
    · rw [rhoN]
      exact ⟨.inr rfl, fun z => put_nu st np (st.zu _ z), ho⟩
  · rcases get h1 with ⟨hj, k1⟩ | ⟨e1, _⟩ <;> rcases get h2 with ⟨hj', k2⟩ | ⟨e2, _⟩
    · rw [rho j hj, rho j' hj'] at q
      exact st.inj j j' so1 so2 k1 k2 l1 l2 q
    · rw [e2, rho j hj, rhoN] at q
      exact absurd q (ne _ (st.obj j so1 k1 l1).1)
    · rw [e1, rho j' hj', rhoN] at q
      exact absurd q.symm (ne _ (st.obj j' so2 k2 l2).1)
    · rw [e1, e2]
  · rcases u with u | rfl
    · rcases st.back a u with z | ⟨j, so', h, l, q⟩
      · exact .inl z
      · have hj : j < S.length := (List.getElem?_eq_some_iff.mp h).1
        exact .inr ⟨j, so', by rw [List.getElem?_append_left hj]; exact h, l, by rw [rho j hj]; exact q⟩
    · exact .inr ⟨S.length, so, by simp, hl, rhoN⟩
theorem pf_tup {es : List Expr} {f : CA} {x1} {pos : Pos} (h : PFA G X es f) : PF G X (.Tuple es x1 pos) (cTup f) := fun Wx tk => by
  refine PE.imp (pe_tup (h Wx tk)) fun σ H Q h => ?_
  obtain ⟨Z, S, W, env, rfl, st, er, p⟩ := h
  refine ⟨Z, S, W, env, rfl, st, er, (seqAE p).mono fun vs H1 h1 => ?_⟩
  obtain ⟨ds, S1, W1, rfl, go1, st1, r1, p1⟩ := h1
  simp only [mkTup] at p1
  split at p1
  · rename_i xs S2 hp
    obtain ⟨W2, e2, g2, s2, r2⟩ := pureDs_rep st1 hp r1
    split at p1
    · rename_i hl
      refine ⟨by rw [← Reps.length _ _ r2]; exact hl, fun p np => ?_⟩
      rw [← e2] at np ⊢
      exact p1 (.ref p) (W2.put p (.tup vs)) (g2.trans (put_go s2 np _)) (put_st s2 np _) (new_tup s2 r2 np)
    · exact p1.elim
  · exact p1.elim
theorem pf_lst {es : List Expr} {f : CA} {pos : Pos} (h : PFA G X es f) : PF G X (.List es pos) (cLst f) := fun Wx tk => by
  refine PE.imp (pe_lst (h Wx tk)) fun σ H Q h => ?_
  obtain ⟨Z, S, W, env, rfl, st, er, p⟩ := h
  refine ⟨Z, S, W, env, rfl, st, er, (seqAE p).mono fun vs H1 h1 => ?_⟩
  obtain ⟨ds, S1, W1, rfl, go1, st1, r1, p1⟩ := h1
  simp only [mkLst] at p1
  split at p1
  · rename_i xs S2 hp
    obtain ⟨W2, e2, g2, s2, r2⟩ := pureDs_rep st1 hp r1
    split at p1
    · rename_i hl
      refine ⟨by rw [← Reps.length _ _ r2]; exact hl, fun p np => ?_⟩
      rw [← e2] at np ⊢
      exact p1 (.ref p) (W2.put p (.lst vs)) (g2.trans (put_go s2 np _)) (put_st s2 np _) (new_lst s2 r2 np)
    · exact p1.elim
  · exact p1.elim
/-- the same, to be written later -/
theorem pf_lstR {es : List Expr} {f : CA} {pos : Pos} (h : PFA G X es f) : PF G X (.List es pos) (cRef f) := fun Wx tk => by
  refine PE.imp (pe_lst (h Wx tk)) fun σ H Q h => ?_
  obtain ⟨Z, S, W, env, rfl, st, er, p⟩ := h
  refine ⟨Z, S, W, env, rfl, st, er, (seqAE p).mono fun vs H1 h1 => ?_⟩
  obtain ⟨ds, S1, W1, rfl, go1, st1, r1, p1⟩ := h1
  simp only [mkRef] at p1
  split at p1
  · rename_i xs S2 hp
    obtain ⟨W2, e2, g2, s2, r2⟩ := pureDs_rep st1 hp r1
    split at p1
    · rename_i hl
      refine ⟨by rw [← Reps.length _ _ r2]; exact hl, fun p np => ?_⟩
      rw [← e2] at np ⊢
      have gg := grow_go s2 np (.lst vs)
      refine p1 (.ref p) (W2.grow p (.lst vs)) (g2.trans gg) (grow_st s2 np rfl ⟨vs, upd_same, Reps.ext gg.toExt xs r2⟩) ⟨by rw [← s2.len]; exact Nat.lt_succ_self _, ?_⟩
      show V.ref p = V.ref (if S2.length = W2.n then p else _)
      rw [if_pos s2.len.symm]
    · exact p1.elim
  · exact p1.elim
end
end Fe

set_option Elab.async false
set_option linter.all false
set_option maxRecDepth 100000
set_option maxHeartbeats 1000000
namespace Fe
open PySem PySem.Spec PyProof.Rows L2

/-! ### targets -/
abbrev CG := D → DEnv → Sto → Option (DEnv × Sto)
abbrev CGs := List D → DEnv → Sto → Option (DEnv × Sto)
section
variable {G : Gc} {Wx : WX} {Z : Addr → Prop} {W : Wd} {σ : L2.St} {X : Cx} {k : Nat}
def tMG (G : Gc) (g : CG) : TG := fun v σ H Q => ∃ Z S W env d env' S', W.H = H ∧ StRep G W Z S ∧ EnvR G W env σ ∧ RepD G W d v ∧ g d env S = some (env', S') ∧ ∀ σ' W', Go Z W W' → StRep G W' Z S' → EnvR G W' env' σ' → Q σ' W'.H
def tMGs (G : Gc) (g : CGs) : TGs := fun vs σ H Q => ∃ Z S W env ds env' S', W.H = H ∧ StRep G W Z S ∧ EnvR G W env σ ∧ RepDs G W ds vs ∧ g ds env S = some (env', S') ∧ ∀ σ' W', Go Z W W' → StRep G W' Z S' → EnvR G W' env' σ' → Q σ' W'.H
theorem PG.imp {e : Expr} {t t' : TG} (h : PG X e t) (i : ∀ v σ H Q, t' v σ H Q → t v σ H Q) : PG X e t' := ⟨fun pins s σ H v u Q I r q => h.run pins s σ H v u Q I r (i _ _ _ _ q)⟩
theorem PGs.imp {e : List Expr} {t t' : TGs} (h : PGs X e t) (i : ∀ v σ H Q, t' v σ H Q → t v σ H Q) : PGs X e t' := ⟨fun pins s σ H v u Q I r q => h.run pins s σ H v u Q I r (i _ _ _ _ q)⟩
def gN (i : Nat) : CG := fun d env S => some (env.set i (some d), S)
theorem pfg_name (i : Nat) {x : Str} {pos : Pos} (hN : X.N.Nodup) (hi : X.N[i]? = some x := by rfl) (hx : Loc X.env.scope x := by first | exact Or.inl rfl | exact Or.inr rfl)
    (hf : X.fn x = true ∨ X.env.scope.names.lookup x = some .local := by first | exact .inl rfl | exact .inr rfl | assumption) : PG X (.Name x pos) (tMG G (gN i)) := by
  refine PG.imp (pg_name hN hi hx hf) fun v σ H Q h => ?_
  obtain ⟨Z, S, W, env, d, env', S', rfl, st, er, r, e, q⟩ := h
  simp only [gN, Option.some.injEq, Prod.mk.injEq] at e
  obtain ⟨rfl, rfl⟩ := e
  exact q _ W (Go.refl _ _) st (er.set r i)
def gNil' : CGs := fun ds env S => match ds with
  | [] => some (env, S)
  | _ => none
def gCons' (g : CG) (gs : CGs) : CGs := fun ds env S => match ds with
  | d :: r => (g d env S).bind fun p => gs r p.1 p.2
  | [] => none
theorem pfgs_nil : PGs X [] (tMGs G gNil') := by
  refine PGs.imp pgs_nil fun vs σ H Q h => ?_
  obtain ⟨Z, S, W, env, ds, env', S', rfl, st, er, r, e, q⟩ := h
  cases ds with
  | cons _ _ => simp [gNil'] at e
  | nil =>
    simp only [gNil', Option.some.injEq, Prod.mk.injEq] at e
    obtain ⟨rfl, rfl⟩ := e
    cases vs with
    | cons _ _ => exact r.elim
    | nil => exact ⟨rfl, q _ W (Go.refl _ _) st er⟩
theorem pfgs_cons {e : Expr} {es : List Expr} {g : CG} {gs : CGs} (h1 : PG X e (tMG G g)) (h2 : PGs X es (tMGs G gs))
    (hs : (assignEach (e :: es) X.env).map (·.2) = assign e X.env :: (assignEach es X.env).map (·.2) := by rfl) : PGs X (e :: es) (tMGs G (gCons' g gs)) := by
  refine PGs.imp (pgs_cons h1 h2 hs) fun vs σ H Q h => ?_
  obtain ⟨Z, S, W, env, ds, env', S', rfl, st, er, r, e, q⟩ := h
  cases ds with
  | nil => simp [gCons'] at e
  | cons d ds =>
    cases vs with
    | nil => exact r.elim
    | cons v vs =>
      simp only [gCons'] at e
      cases hg : g d env S with
      | none => rw [hg] at e; cases e
      | some p =>
        obtain ⟨env1, S1⟩ := p
        rw [hg] at e
        simp only [Option.bind_some] at e
        refine ⟨v, vs, rfl, Z, S, W, env, d, env1, S1, rfl, st, er, r.1, hg, fun σ1 W1 go1 st1 er1 => ?_⟩
        exact ⟨Z, S1, W1, env1, ds, env', S', rfl, st1, er1, RepDs.ext go1.toExt r.2, e, fun σ2 W2 go2 st2 er2 => q σ2 W2 (go1.trans go2) st2 er2⟩
/-- a, b, .. = a tuple of that length -/
def gT (n : Nat) (gs : CGs) : CG := fun d env S => match d with
  | .p (.tup xs) => if xs.length = n then gs (xs.map D.p) env S else none
  | _ => none
theorem Reps.toD : ∀ {ds : List P} {vs : List V}, Reps G W ds vs → RepDs G W (ds.map D.p) vs
  | [], [], _ => True.intro
  | [], _ :: _, h => by simp [Reps] at h
  | _ :: _, [], h => by simp [Reps] at h
  | d :: ds, v :: vs, h => by
    simp only [Reps] at h
    exact ⟨h.1, Reps.toD h.2⟩
theorem pfg_tup {es : List Expr} {kk : Nat} {pos : Pos} {gs : CGs} {n : Nat} (cg : CtxG G X k) (h : PGs X es (tMGs G gs))
    (hn : (assignEach es X.env).length = n := by rfl) (hst : (assignEach es X.env).findIdx? (·.1) = none := by rfl) : PG X (.Tuple es kk pos) (tMG G (gT n gs)) := by
  refine PG.imp (pg_tup cg.calm h hn hst) fun v σ H Q h => ?_
  obtain ⟨Z, S, W, env, d, env', S', rfl, st, er, r, e, q⟩ := h
  unfold gT at e
  split at e
  · rename_i xs
    split at e
    · rename_i hl
      simp only [RepD, Rep] at r
      obtain ⟨a, vs, rfl, t, r⟩ := r
      exact ⟨a, vs, rfl, t.sq cg.kk, by rw [← Reps.length _ _ r]; exact hl, Z, S, W, env, xs.map D.p, env', S', rfl, st, er, r.toD, e, q⟩
    · cases e
  · cases e

/-! ### statements -/
theorem PostS.mono {En En' : Ends} {r : RS} (h : PostS G Wx Z W En r) (h1 : ∀ σ H, En.nx σ H → En'.nx σ H) (h2 : ∀ v H, En.rt v H → En'.rt v H) (h3 : ∀ σ H, En.bk σ H → En'.bk σ H) (h4 : ∀ σ H, En.ct σ H → En'.ct σ H) : PostS G Wx Z W En' r := by
  cases r with
  | bad => exact h
  | nx e S2 => exact fun v2 W2 g2 s2 r2 => h1 _ _ (h v2 W2 g2 s2 r2)
  | rt e S2 => exact fun v2 W2 g2 s2 r2 => h2 _ _ (h v2 W2 g2 s2 r2)
  | bk e S2 => exact fun v2 W2 g2 s2 r2 => h3 _ _ (h v2 W2 g2 s2 r2)
  | ct e S2 => exact fun v2 W2 g2 s2 r2 => h4 _ _ (h v2 W2 g2 s2 r2)
  | exc c ns ds e S2 => exact h
/-- a value's end as a statement's: an exception keeps the frame's slots -/
def R.toS (env : DEnv) (r : R D) (k : D → Sto → RS) : RS := match r with
  | .ok d S => k d S
  | .exc c ns ds S => .exc c ns ds env S
  | .bad => .bad
def R.toST (env : DEnv) (r : R Bool) (k : Bool → Sto → RS) : RS := match r with
  | .ok d S => k d S
  | .exc c ns ds S => .exc c ns ds env S
  | .bad => .bad
theorem seqES {En : Ends} {env : DEnv} {r : R D} {kk : D → Sto → RS} (er : EnvR G W env σ) (h : PostS G Wx Z W En (r.toS env kk)) : PostE G Wx Z W σ (ThenE G Z W fun d S1 W1 => PostS G Wx Z W1 En (kk d S1)) r := by
  cases r with
  | bad => exact h
  | exc c ns ds S' => exact fun cls dx W' go st x => h σ cls dx W' go st (er.ext go.toExt) x
  | ok d S' => exact fun v W1 go st r => ⟨d, S', W1, rfl, go, st, r, PostS.shift go h⟩
theorem seqTS {En : Ends} {env : DEnv} {r : R Bool} {kk : Bool → Sto → RS} (er : EnvR G W env σ) (h : PostS G Wx Z W En (r.toST env kk)) : PostT G Wx Z W σ (ThenT G Z W fun d S1 W1 => PostS G Wx Z W1 En (kk d S1)) r := by
  cases r with
  | bad => exact h
  | exc c ns ds S' => exact fun cls dx W' go st x => h σ cls dx W' go st (er.ext go.toExt) x
  | ok d S' => exact fun W1 go st => ⟨S', W1, rfl, go, st, PostS.shift go h⟩
def sNx : CS := fun env S => .nx env S
def RS.andThen (r : RS) (k : CS) : RS := match r with
  | .nx env S => k env S
  | r => r
def sSeq (f g : CS) : CS := fun env S => (f env S).andThen g
theorem pfss_nil : PFSs G X [] sNx := fun Wx tk => PSs.imp pss_nil fun En σ H h => by
  obtain ⟨Z, S, W, env, rfl, st, er, p⟩ := h
  exact p σ W (Go.refl _ _) st er
theorem pfss_cons {s : Stmt} {r : List Stmt} {f g : CS} (h1 : PFS G X s f) (h2 : PFSs G X r g) : PFSs G X (s :: r) (sSeq f g) := fun Wx tk => by
  refine PSs.imp (pss_cons (h1 Wx tk) (h2 Wx tk)) fun En σ H h => ?_
  obtain ⟨Z, S, W, env, rfl, st, er, p⟩ := h
  refine ⟨Z, S, W, env, rfl, st, er, ?_⟩
  unfold sSeq at p
  cases hf : f env S with
  | bad => rw [hf] at p; exact p
  | nx e S2 =>
    rw [hf] at p
    exact fun v2 W2 g2 s2 r2 => ⟨Z, S2, W2, e, rfl, s2, r2, PostS.shift g2 p⟩
  | rt e S2 => rw [hf] at p; exact p
  | bk e S2 => rw [hf] at p; exact p
  | ct e S2 => rw [hf] at p; exact p
  | exc c ns ds e S2 => rw [hf] at p; exact p
theorem pfss_one {s : Stmt} {f : CS} (h1 : PFS G X s f) : PFSs G X [s] f := fun Wx tk => pss_one (h1 Wx tk)
def sBrk : CS := fun env S => .bk env S
def sCt : CS := fun env S => .ct env S
theorem pfs_pass {pos : Pos} : PFS G X (.Pass pos) sNx := fun Wx tk => PS.imp ps_pass fun En σ H h => by
  obtain ⟨Z, S, W, env, rfl, st, er, p⟩ := h
  exact p σ W (Go.refl _ _) st er
theorem pfs_break {pos : Pos} : PFS G X (.Break pos) sBrk := fun Wx tk => PS.imp ps_break fun En σ H h => by
  obtain ⟨Z, S, W, env, rfl, st, er, p⟩ := h
  exact p σ W (Go.refl _ _) st er
theorem pfs_continue {pos : Pos} : PFS G X (.Continue pos) sCt := fun Wx tk => PS.imp ps_continue fun En σ H h => by
  obtain ⟨Z, S, W, env, rfl, st, er, p⟩ := h
  exact p σ W (Go.refl _ _) st er
def sExpr (f : CE') : CS := fun env S => (f env S).toS env fun _ S1 => .nx env S1
theorem pfs_expr {e : Expr} {f : CE'} {pos : Pos} (h : PF G X e f) (hs : swapsWith e none pos.line X.env = pure false := by rfl) : PFS G X (.Expr e pos) (sExpr f) := fun Wx tk => by
  refine PS.imp (ps_expr (h Wx tk) hs) fun En σ H h => ?_
  obtain ⟨Z, S, W, env, rfl, st, er, p⟩ := h
  refine ⟨Z, S, W, env, rfl, st, er, (seqES er p).mono fun v H1 h1 => ?_⟩
  obtain ⟨d1, S1, W1, rfl, go1, st1, r1, p1⟩ := h1
  exact p1 σ W1 (Go.refl _ _) st1 (er.ext go1.toExt)
def sRet (f : CE') : CS := fun env S => (f env S).toS env fun d S1 => .rt d S1
theorem pfs_ret {e : Expr} {f : CE'} {pos : Pos} (h : PF G X e f) : PFS G X (.Return (some e) pos) (sRet f) := fun Wx tk => by
  refine PS.imp (ps_ret (h Wx tk)) fun En σ H h => ?_
  obtain ⟨Z, S, W, env, rfl, st, er, p⟩ := h
  refine ⟨Z, S, W, env, rfl, st, er, (seqES er p).mono fun v H1 h1 => ?_⟩
  obtain ⟨d1, S1, W1, rfl, go1, st1, r1, p1⟩ := h1
  exact p1 v W1 (Go.refl _ _) st1 r1
def sIf (t : CT) (f g : CS) : CS := fun env S => (t env S).toST env fun c S1 => if c = true then f env S1 else g env S1
theorem pfs_if {c : Expr} {a b : List Stmt} {t : CT} {f g : CS} {pos : Pos} (hc : PFT G X c t) (ha : PFSs G X a f) (hb : PFSs G X b g) : PFS G X (.If c a b pos) (sIf t f g) := fun Wx tk => by
  refine PS.imp (ps_if (hc Wx tk) (ha Wx tk) (hb Wx tk)) fun En σ H h => ?_
  obtain ⟨Z, S, W, env, rfl, st, er, p⟩ := h
  refine ⟨Z, S, W, env, rfl, st, er, (seqTS er p).mono fun c H1 h1 => ?_⟩
  obtain ⟨S1, W1, rfl, go1, st1, p1⟩ := h1
  cases c with
  | true =>
    rw [if_pos rfl] at p1 ⊢
    exact ⟨Z, S1, W1, env, rfl, st1, er.ext go1.toExt, p1⟩
  | false =>
    rw [if_neg Bool.false_ne_true] at p1 ⊢
    exact ⟨Z, S1, W1, env, rfl, st1, er.ext go1.toExt, p1⟩
/-- name = e -/
def sSet (i : Nat) (f : CE') : CS := fun env S => (f env S).toS env fun d S1 => .nx (env.set i (some d)) S1
theorem pfs_set (i : Nat) {x : Str} {e : Expr} {f : CE'} {pos pos' : Pos} (he : PF G X e f) (hN : X.N.Nodup) (hi : X.N[i]? = some x := by rfl) (hx : Loc X.env.scope x := by first | exact Or.inl rfl | exact Or.inr rfl)
    (hs : swapsWith e (some (.Name x pos')) pos.line X.env = pure false := by rfl) (hf : X.fn x = true ∨ X.env.scope.names.lookup x = some .local := by first | exact .inl rfl | exact .inr rfl | assumption) :
    PFS G X (.Assign [.Name x pos'] e pos) (sSet i f) := fun Wx tk => by
  refine PS.imp (ps_set hN hi hx (he Wx tk) hs hf) fun En σ H h => ?_
  obtain ⟨Z, S, W, env, rfl, st, er, p⟩ := h
  refine ⟨Z, S, W, env, rfl, st, er, (seqES er p).mono fun v H1 h1 => ?_⟩
  obtain ⟨d1, S1, W1, rfl, go1, st1, r1, p1⟩ := h1
  exact p1 _ W1 (Go.refl _ _) st1 ((er.ext go1.toExt).set r1 i)
/-- target = e -/
def sAsg (g : CG) (f : CE') : CS := fun env S => (f env S).toS env fun d S1 => match g d env S1 with
  | some (env', S2) => .nx env' S2
  | none => .bad
theorem pfs_asg {tg e : Expr} {f : CE'} {g : CG} {pos : Pos} (he : PF G X e f) (hg : PG X tg (tMG G g)) (hs : swapsWithSole [tg] e pos.line X.env = pure false := by rfl) (hw : swappedStores [tg] e X.env = pure none := by rfl)
    (h1 : (assignEach [tg] X.env).map (·.2) = [assign tg X.env] := by rfl) : PFS G X (.Assign [tg] e pos) (sAsg g f) := fun Wx tk => by
  refine PS.imp (ps_asg (he Wx tk) hg hs hw h1) fun En σ H h => ?_
  obtain ⟨Z, S, W, env, rfl, st, er, p⟩ := h
  refine ⟨Z, S, W, env, rfl, st, er, (seqES er p).mono fun v H1 h1 => ?_⟩
  obtain ⟨d1, S1, W1, rfl, go1, st1, r1, p1⟩ := h1
  split at p1
  · rename_i env' S2 hg'
    exact ⟨Z, S1, W1, env, d1, env', S2, rfl, st1, er.ext go1.toExt, r1, hg', p1⟩
  · exact p1.elim
/-- a, b = x, y with plain local names -/
def sPar (i j : Nat) (f : CA) : CS := fun env S => match f env S with
  | .ok [x, y] S1 => .nx ((env.set i (some x)).set j (some y)) S1
  | .exc c ns ds S1 => .exc c ns ds env S1
  | _ => .bad
theorem pfs_par (i j : Nat) {x y : Str} {a b : Expr} {f : CA} {px py pt pos : Pos} {kt k2 pt2} (cg : CtxG G X k) (ha : PFA G X [a, b] f) (hi : X.N[i]? = some x := by rfl) (hj : X.N[j]? = some y := by rfl) (hij : i ≠ j := by decide)
    (hx : X.env.scope.names.lookup x = some .local := by rfl) (hy : X.env.scope.names.lookup y = some .local := by rfl)
    (hw : swappedStores [.Tuple [.Name x px, .Name y py] kt pt] (.Tuple [a, b] k2 pt2) X.env = pure (some [x, y]) := by rfl)
    (hs : swapsWithSole [.Tuple [.Name x px, .Name y py] kt pt] (.Tuple [a, b] k2 pt2) pos.line X.env = pure false := by rfl) :
    PFS G X (.Assign [.Tuple [.Name x px, .Name y py] kt pt] (.Tuple [a, b] k2 pt2) pos) (sPar i j f) := fun Wx tk => by
  refine PS.imp (ps_par cg.calm cg.nd hi hj hij hx hy (ha Wx tk) hw hs) fun En σ H h => ?_
  obtain ⟨Z, S, W, env, rfl, st, er, p⟩ := h
  refine ⟨Z, S, W, env, rfl, st, er, ?_⟩
  unfold sPar at p
  cases hf : f env S with
  | bad => rw [hf] at p; exact p
  | exc c ns ds S1 => rw [hf] at p; exact fun cls dx W' go st' x => p σ cls dx W' go st' (er.ext go.toExt) x
  | ok ds S1 =>
    rw [hf] at p
    intro vs W1 go1 st1 r1
    match ds, vs, r1, p with
    | [d1, d2], [v1, v2], r1, p =>
      exact ⟨v1, v2, rfl, p _ W1 go1 st1 (((er.ext go1.toExt).set r1.1 i).set r1.2.1 j)⟩
    | [], _, _, p => exact p.elim
    | [_], _, _, p => exact p.elim
    | _ :: _ :: _ :: _, _, _, p => exact p.elim
    | [_, _], [], r1, _ => exact r1.elim
    | [_, _], [_], r1, _ => exact r1.2.elim
    | [_, _], _ :: _ :: _ :: _, r1, _ => exact r1.2.2.elim

/-! ### what is walked -/
def ItD (G : Gc) (W0 : Wd) (J : It) (ds : List P) (chk : Sto → Bool) : Prop := ∀ (Z : Addr → Prop) (W : Wd) (S : Sto), Ext W0 W → StRep G W Z S → chk S = true →
  (∀ i, i < ds.length → J.go i W.H) ∧ J.stop ds.length W.H ∧ ∀ i d x H', ds[i]? = some d → J.yld i W.H x H' → ∃ W', W'.H = H' ∧ Go Z W W' ∧ StRep G W' Z S ∧ Rep G W' d x
abbrev CI := DEnv → Sto → R (List P × (Sto → Bool))
def tMI (G : Gc) (Wx : WX) (f : CI) : TI := fun σ H Rr => ∃ Z S W env, W.H = H ∧ StRep G W Z S ∧ EnvR G W env σ ∧ match f env S with
  | .ok (ds, chk) S' => ∀ J W', Go Z W W' → StRep G W' Z S' → ItD G W' J ds chk → Rr J W'.H
  | .exc c ns ds S' => ∀ cls dx W', Go Z W W' → StRep G W' Z S' → ExcR G W' c ns ds cls dx → Wx cls dx σ W'.H
  | .bad => False
def PFI (G : Gc) (X : Cx) (tg e : Expr) (f : CI) : Prop := ∀ Wx, Takes X Wx → PI X tg e (tMI G Wx f)
theorem PI.imp {tg e : Expr} {t t' : TI} (h : PI X tg e t) (i : ∀ σ H Rr, t' σ H Rr → t σ H Rr) : PI X tg e t' := ⟨fun pins s σ H Rr I q => h.run pins s σ H Rr I (i _ _ _ q)⟩
def forL (chk : Sto → Bool) (g : CG) (body : CS) : List P → DEnv → Sto → RS
  | [], env, S => .nx env S
  | d :: ds, env, S => match g (.p d) env S with
    | none => .bad
    | some (env1, S1) => match body env1 S1 with
      | .nx e S2 => if chk S2 = true then forL chk g body ds e S2 else .bad
      | .ct e S2 => if chk S2 = true then forL chk g body ds e S2 else .bad
      | .bk e S2 => .nx e S2
      | .rt x S2 => .rt x S2
      | .exc c ns vs e S2 => .exc c ns vs e S2
      | .bad => .bad
def R.toSI (env : DEnv) (r : R (List P × (Sto → Bool))) (k : List P → (Sto → Bool) → Sto → RS) : RS := match r with
  | .ok (ds, chk) S => if chk S = true then k ds chk S else .bad
  | .exc c ns ds S => .exc c ns ds env S
  | .bad => .bad
def sFor (f : CI) (g : CG) (body : CS) : CS := fun env S => (f env S).toSI env fun ds chk S1 => forL chk g body ds env S1
theorem pfs_for {tg iter : Expr} {body : List Stmt} {f : CI} {g : CG} {b : CS} {pos : Pos} (own : PassesOwn (model X.prog X.w) X.A X.env X.xe) (cg : CtxG G X k) (hi : PFI G X tg iter f) (hg : PG X tg (tMG G g)) (hb : PFSs G X body b)
    (hs : ∀ x, foldedSetIterable iter X.env x = pure x := by intro _; rfl) : PFS G X (.For tg iter body [] pos) (sFor f g b) := fun Wx tk => by
  refine PS.imp (ps_for own cg.calm (hi Wx tk) hg (hb Wx tk) hs) fun En σ H h => ?_
  obtain ⟨Z, S, W, env, rfl, st, er, p⟩ := h
  refine ⟨Z, S, W, env, rfl, st, er, ?_⟩
  unfold sFor at p
  cases hf : f env S with
  | bad => rw [hf] at p; exact p
  | exc c ns ds S1 => rw [hf] at p; exact fun cls dx W' go st' x => p σ cls dx W' go st' (er.ext go.toExt) x
  | ok dc S1 =>
    obtain ⟨ds, chk⟩ := dc
    rw [hf] at p
    simp only [R.toSI] at p
    split at p
    · rename_i hchk
      intro J W1 go1 st1 hJ
      refine ⟨fun i m σ H => ∃ W2 S2 env2, i ≤ ds.length ∧ m = ds.length - i ∧ W2.H = H ∧ Go Z W1 W2 ∧ StRep G W2 Z S2 ∧ EnvR G W2 env2 σ ∧ chk S2 = true ∧ PostS G Wx Z W2 En (forL chk g b (ds.drop i) env2 S2),
        ⟨ds.length, W1, S1, env, Nat.zero_le _, rfl, rfl, Go.refl _ _, st1, er.ext go1.toExt, hchk, by rw [List.drop_zero]; exact PostS.shift go1 p⟩, ?_⟩
      rintro i m σ2 H2 ⟨W2, S2, env2, hi, rfl, rfl, go2, st2, er2, hc2, p2⟩
      obtain ⟨j1, j2, j3⟩ := hJ Z W2 S2 go2.toExt st2 hc2
      by_cases hlt : i < ds.length
      · refine .inr ⟨j1 i hlt, fun σ' H' => ∃ m', m' < ds.length - i ∧ ∃ W2 S2 env2, i + 1 ≤ ds.length ∧ m' = ds.length - (i + 1) ∧ W2.H = H' ∧ Go Z W1 W2 ∧ StRep G W2 Z S2 ∧ EnvR G W2 env2 σ' ∧ chk S2 = true ∧ PostS G Wx Z W2 En (forL chk g b (ds.drop (i + 1)) env2 S2), fun σ' H' hN => hN, fun x H' hy => ?_⟩
        have hd : ds[i]? = some ds[i] := List.getElem?_eq_getElem hlt
        obtain ⟨W3, rfl, go3, st3, r3⟩ := j3 i _ x H' hd hy
        rw [List.drop_eq_getElem_cons hlt] at p2
        simp only [forL] at p2
        cases hgt : g (.p ds[i]) env2 S2 with
        | none => rw [hgt] at p2; exact p2.elim
        | some q =>
          obtain ⟨env3, S3⟩ := q
          rw [hgt] at p2
          simp only at p2
          refine ⟨Z, S2, W3, env2, .p ds[i], env3, S3, rfl, st3, er2.ext go3.toExt, r3, hgt, fun σ4 W4 go4 st4 er4 => ?_⟩
          refine ⟨Z, S3, W4, env3, rfl, st4, er4, ?_⟩
          have go24 : Go Z W2 W4 := go3.trans go4
          cases hbb : b env3 S3 with
          | bad => rw [hbb] at p2; exact p2
          | nx e S5 =>
            rw [hbb] at p2
            simp only at p2
            split at p2
            · rename_i hc5
              exact fun σ5 W5 go5 st5 er5 => ⟨ds.length - (i + 1), by omega, W5, S5, e, hlt, rfl, rfl, go2.trans (go24.trans go5), st5, er5, hc5, PostS.shift (go24.trans go5) p2⟩
            · exact p2.elim
          | ct e S5 =>
            rw [hbb] at p2
            simp only at p2
            split at p2
            · rename_i hc5
              exact fun σ5 W5 go5 st5 er5 => ⟨ds.length - (i + 1), by omega, W5, S5, e, hlt, rfl, rfl, go2.trans (go24.trans go5), st5, er5, hc5, PostS.shift (go24.trans go5) p2⟩
            · exact p2.elim
          | bk e S5 => rw [hbb] at p2; exact fun σ5 W5 go5 st5 er5 => p2 σ5 W5 (go24.trans go5) st5 er5
          | rt e S5 => rw [hbb] at p2; exact fun σ5 W5 go5 st5 er5 => p2 σ5 W5 (go24.trans go5) st5 er5
          | exc c ns vs e S5 => rw [hbb] at p2; exact fun σ5 a1 a2 W5 go5 st5 er5 x5 => p2 σ5 a1 a2 W5 (go24.trans go5) st5 er5 x5
      · have hil : i = ds.length := by omega
        subst hil
        rw [List.drop_length] at p2
        exact .inl ⟨j2, p2 σ2 W2 (Go.refl _ _) st2 er2⟩
    · exact p.elim

/-! ### sources -/
def ckT : Sto → Bool := fun _ => true
/-- the items of a value -/
def itemsOf : D → Option (List P)
  | .p (.lst xs) => some xs
  | .p (.fz xs) => some xs
  | .p (.tup xs) => some xs
  | _ => none
def srcE (f : CE') : CI := fun env S => (f env S).bind fun d S1 => R.ofO S1 ((itemsOf d).map fun xs => (xs, ckT))
theorem itd_lst {a : Addr} {vs : List V} {ds : List P} {W0 : Wd} (l : ∀ W, Ext W0 W → SqL X.K W.H a vs) (r : Reps G W0 ds vs) : ItD G W0 (Itl X.K a) ds ckT := fun Z W S ex st _ => by
  have l1 : SqL X.K W.H a vs := l W ex
  have r1 := Reps.ext ex ds r
  have len := Reps.length _ _ r1
  refine ⟨fun i hi => ⟨vs, vs[i]'(by omega), l1, List.getElem?_eq_getElem _⟩, ⟨vs, l1, by omega⟩, fun i d x H' e hy => ?_⟩
  obtain ⟨rfl, hx⟩ := hy
  obtain ⟨v, hv, rv⟩ := Reps.get _ _ r1 e
  have := hx vs l1
  rw [hv] at this
  cases this
  exact ⟨W, rfl, Go.refl _ _, st, rv⟩
theorem itd_tup (cg : CtxG G X k) {a : Addr} {vs : List V} {ds : List P} {W0 : Wd} (l : TupAt G W0 a vs) (r : Reps G W0 ds vs) : ItD G W0 (Itt X.K a) ds ckT := fun Z W S ex st _ => by
  have l1 : SqT X.K W.H a vs := (l.ext ex).sq cg.kk
  have r1 := Reps.ext ex ds r
  have len := Reps.length _ _ r1
  refine ⟨fun i hi => ⟨vs, vs[i]'(by omega), l1, List.getElem?_eq_getElem _⟩, ⟨vs, l1, by omega⟩, fun i d x H' e hy => ?_⟩
  obtain ⟨rfl, hx⟩ := hy
  obtain ⟨v, hv, rv⟩ := Reps.get _ _ r1 e
  have := hx vs l1
  rw [hv] at this
  cases this
  exact ⟨W, rfl, Go.refl _ _, st, rv⟩
end
end Fe

set_option Elab.async false
set_option linter.all false
set_option maxRecDepth 100000
set_option maxHeartbeats 1000000
namespace Fe
open PySem PySem.Spec PyProof.Rows L2

abbrev FD := List D → Sto → R D
/-- a wish of exceptions that looks at no slot -/
abbrev wxE (E : XK) : WX := fun c d _ H => E c d H
/-- a def that computes F -/
structure FnG (Pr : Program) (w : World) (G : Gc) (mg : Str → Option Value) (base : Heap) (k : Nat) (f : Addr) (fd : FuncData) (ps : List Str) (F : FD) : Prop where
  len : ∀ ds S, ds.length ≠ ps.length → F ds S = .bad
  run : ∀ (A : Around) (outer : List Env) (s : Shared) (args : Args) (us : List Value) (vs : List V) (Z : Addr → Prop) (S : Sto) (W : Wd) (ds : List D) (Q : VK) (E : XK), Room k A → A.guards = some [] → Env0 Pr w G.K mg base A outer s W.H → BindsTo s fd args (ps.zip us) → Vals vs us →
    StRep G W Z S → RepDs G W ds vs → PostE G (wxE E) Z W [] Q (F ds S) → codeAny (model Pr w) A (.call (.ref f) args) (CR (CX Pr w) outer Pr w W.H s Q E) s
section
variable {Pr : Program} {w : World} {G : Gc} {mg : Str → Option Value} {base : Heap}
theorem FnG.mono {j k : Nat} {f : Addr} {fd : FuncData} {ps : List Str} {F : FD} (h : FnG Pr w G mg base j f fd ps F) (hk : j ≤ k) : FnG Pr w G mg base k f fd ps F :=
  ⟨h.len, fun A outer s args us vs Z S W ds Q E hr => h.run A outer s args us vs Z S W ds Q E (hr.mono hk)⟩
def startD (n : Nat) (ds : List D) : DEnv := ds.map some ++ List.replicate (n - ds.length) none
/-- a def by its body: np parameters, n names -/
def cBody (np n : Nat) (g : CS) : FD := fun ds S => if ds.length = np then (match g (startD n ds) S with
  | .nx _ S' => .ok (.p .non) S'
  | .rt d S' => .ok d S'
  | .exc c ns vs _ S' => .exc c ns vs S'
  | _ => .bad) else .bad
theorem RepDs.get {W : Wd} : ∀ {ds : List D} {vs : List V} {i : Nat} {d : D}, RepDs G W ds vs → ds[i]? = some d → ∃ v, vs[i]? = some v ∧ RepD G W d v
  | [], _, i, d, _, e => by simp at e
  | _ :: _, [], _, _, h, _ => h.elim
  | x :: ds, v :: vs, 0, d, h, e => by
    simp at e; subst e
    exact ⟨v, rfl, h.1⟩
  | x :: ds, v :: vs, i + 1, d, h, e => by
    obtain ⟨u, h1, h2⟩ := RepDs.get (i := i) h.2 (by simpa using e)
    exact ⟨u, by simpa using h1, h2⟩
theorem start_env {W : Wd} {ds : List D} {vs : List V} {N : List Str} (r : RepDs G W ds vs) (h : ds.length ≤ N.length) : EnvR G W (startD N.length ds) (L2.start N vs) := by
  have l := r.length
  refine ⟨by simp [startD, L2.start, l], fun i d e => ?_⟩
  unfold startD at e
  by_cases hi : i < ds.length
  · rw [List.getElem?_append_left (by simpa using hi), List.getElem?_map] at e
    cases hd : ds[i]? with
    | none => rw [hd] at e; cases e
    | some d' =>
      rw [hd] at e
      simp only [Option.map_some, Option.some.injEq] at e
      subst e
      obtain ⟨v, hv, rv⟩ := r.get hd
      refine ⟨v, ?_, rv⟩
      unfold L2.start
      rw [List.getElem?_append_left (by simpa [l] using hi), List.getElem?_map, hv]
      rfl
  · rw [List.getElem?_append_right (by simpa using hi), List.getElem?_replicate] at e
    split at e <;> cases e
/-- the context of a def's body -/
abbrev bCx (Pr : Program) (w : World) (G : Gc) (mg : Str → Option Value) (base : Heap) (N : List Str) (qual : Str) (st : Stmt) (f : Addr) (cdv : Value) (A : Around) (outer : List Env) (s : Shared) (H : Hp) (E : XK) : Cx :=
  cxOf (CX Pr w) Pr w G.K mg base N qual (defScope st) f cdv A outer s H E
/-- a body's end as a call's -/
def endB : RS → R D
  | .nx _ S' => .ok (.p .non) S'
  | .rt d S' => .ok d S'
  | .exc c ns vs _ S' => .exc c ns vs S'
  | _ => .bad
/-- a def's body runs -/
theorem run_okG {x qual : Str} {st : Stmt} {f : Addr} {fd : FuncData} {N ps : List Str} {k : Nat} (F : Fun G.K x qual st f fd) (Sc : FnScope N ps (defScope st)) {g : CS} {A : Around} {outer : List Env} {s : Shared} {args : Args} {us : List Value} {vs : List V} {Z : Addr → Prop} {S : Sto} {W : Wd} {ds : List D} {Q : VK} {E : XK}
    (hr : Room (k + 1) A) (hgd : A.guards = some []) (e0 : Env0 Pr w G.K mg base A outer s W.H) (hb : BindsTo s fd args (ps.zip us)) (r : Vals vs us) (stp : StRep G W Z S) (rd : RepDs G W ds vs) (hl : ds.length = ps.length) (p : PostE G (wxE E) Z W [] Q (endB (g (startD N.length ds) S)))
    (hbody : ∀ cdv : Value, fd.code = cdv → CtxG G (bCx Pr w G mg base N qual st f cdv A outer s W.H E) k → PassesOwn (model Pr w) (bCx Pr w G mg base N qual st f cdv A outer s W.H E).A (bCx Pr w G mg base N qual st f cdv A outer s W.H E).env (bCx Pr w G mg base N qual st f cdv A outer s W.H E).xe →
      PFSs G (bCx Pr w G mg base N qual st f cdv A outer s W.H E) (defBody st) g) : codeAny (model Pr w) A (.call (.ref f) args) (CR (CX Pr w) outer Pr w W.H s Q E) s := by
  obtain ⟨oc, od, kV, doc, pm, an, cdv, ct, osl, rfl, lk, hcd⟩ := F.ex
  have hlv : vs.length = ps.length := by rw [← rd.length]; exact hl
  have hpl : ps.length ≤ N.length := by have := congrArg List.length Sc.pre; rw [List.length_take] at this; omega
  have KX : G.K.In s.heap := e0.mod.kin.keeps fun b o e => (e0.bs b o e).1
  have lim : s.heap.NoLimit := e0.mod.nolimit.keeps fun b o e => (e0.bs b o e).1
  have hkind : ∀ y ∈ ps.zip us, (defScope st).names.lookup y.1 = some .local ∨ ((defScope st).names.lookup y.1 = some .cell ∧ ((cellsFrom (s.heap.objs.size + 1) (defScope st).names []).lookup y.1).isSome = true) := fun ⟨n, v⟩ hy => by
    rcases Sc.par n (List.of_mem_zip hy).1 with q | q
    · exact .inl q
    · exact .inr ⟨q, PySem.W.cellsFrom_some _ _ _ (.inl q)⟩
  refine codeAny_call_function hr.depth (KX _ _ lk) rfl Sc.co Sc.gen rfl (PySem.W.codeRec_of KX hcd) (hb _ _ _ _ ?_)
  refine wpAny_newFunctionEnv_cells Sc.kind hkind fun env he s1 x => ?_
  subst he
  refine ⟨lim.keeps x.toInCall.keep, codeAny_func ?_⟩
  have I : Inv (bCx Pr w G mg base N qual st f cdv A outer s W.H E) [] (L2.start N vs) W.H s1 := inv_start Sc hr.hd e0 hlv r x
  have ht := hbody cdv rfl ⟨rfl, rfl, hr.deeper _, hgd, Sc.nd⟩ (passes_of rfl) (wxE E) (takes_of (X := bCx Pr w G mg base N qual st f cdv A outer s W.H E) rfl rfl rfl rfl)
  refine wpAny_mono (ht.run [] s1 (L2.start N vs) W.H { nx := fun _ H' => Q .non H', rt := Q } I ⟨Z, S, W, startD N.length ds, rfl, stp, start_env rd (by omega), ?_⟩) (fun fl s' hs => ?_) fun e s' hs => hs
  · cases hg : g (startD N.length ds) S with
    | bad => rw [hg] at p; exact p
    | nx e S2 => rw [hg] at p; exact fun σ' W' go st' er => p .non W' go st' (by simp only [RepD, Rep])
    | rt d S2 => rw [hg] at p; exact fun v W' go st' r' => p v W' go st' r'
    | bk e S2 => rw [hg] at p; exact p.elim
    | ct e S2 => rw [hg] at p; exact p.elim
    | exc c ns ds e S2 => rw [hg] at p; exact fun σ' cls dx W' go st' er x => p cls dx W' go st' x
  have fin : ∀ {σ' : L2.St} {H' : Hp} {v : V} {u : Value}, Inv (bCx Pr w G mg base N qual st f cdv A outer s W.H E) [] σ' H' s' → RelV v u → Q v H' → CE outer Pr w W.H s Q u s' :=
    fun {σ' H' v u} J rv q => ⟨v, H', J.os, J.bare, J.base, J.hok, rv, q⟩
  cases fl with
  | ret u =>
    obtain ⟨v, σ', H', J, rv, q⟩ := hs
    exact fin J rv q
  | next =>
    obtain ⟨σ', H', J, q⟩ := hs
    exact fin (v := V.non) (u := Value.none) J rfl q
  | brk =>
    obtain ⟨_, _, _, q⟩ := hs
    exact False.elim q
  | cont =>
    obtain ⟨_, _, _, q⟩ := hs
    exact False.elim q

/-- THE RULE for a def -/
theorem okGc {x qual : Str} {st : Stmt} {f : Addr} {fd : FuncData} {N ps : List Str} {k : Nat} (F : Fun G.K x qual st f fd) (Sc : FnScope N ps (defScope st)) (g : CS)
    (hbody : ∀ (cdv : Value) (A : Around) (outer : List Env) (s : Shared) (H : Hp) (E : XK), fd.code = cdv → CtxG G (bCx Pr w G mg base N qual st f cdv A outer s H E) k →
      PassesOwn (model Pr w) (bCx Pr w G mg base N qual st f cdv A outer s H E).A (bCx Pr w G mg base N qual st f cdv A outer s H E).env (bCx Pr w G mg base N qual st f cdv A outer s H E).xe →
      PFSs G (bCx Pr w G mg base N qual st f cdv A outer s H E) (defBody st) g) : FnG Pr w G mg base (k + 1) f fd ps (cBody ps.length N.length g) := by
  refine ⟨fun ds S h => by unfold cBody; rw [if_neg h], fun A outer s args us vs Z S W ds Q E hr hgd e0 hb r stp rd p => ?_⟩
  have hl : ds.length = ps.length := Decidable.byContradiction fun hl => by
    unfold cBody at p
    rw [if_neg hl] at p
    exact p.elim
  unfold cBody at p
  rw [if_pos hl] at p
  exact run_okG F Sc hr hgd e0 hb r stp rd hl p fun cdv h1 h2 h3 => hbody cdv A outer s W.H E h1 h2 h3
theorem okG {x qual : Str} {st : Stmt} {f : Addr} {fd : FuncData} {N ps : List Str} {k : Nat} (F : Fun G.K x qual st f fd) (Sc : FnScope N ps (defScope st)) (g : CS)
    (hbody : ∀ (cdv : Value) (A : Around) (outer : List Env) (s : Shared) (H : Hp) (E : XK), CtxG G (bCx Pr w G mg base N qual st f cdv A outer s H E) k →
      PassesOwn (model Pr w) (bCx Pr w G mg base N qual st f cdv A outer s H E).A (bCx Pr w G mg base N qual st f cdv A outer s H E).env (bCx Pr w G mg base N qual st f cdv A outer s H E).xe →
      PFSs G (bCx Pr w G mg base N qual st f cdv A outer s H E) (defBody st) g) : FnG Pr w G mg base (k + 1) f fd ps (cBody ps.length N.length g) :=
  okGc F Sc g fun cdv A outer s H E _ => hbody cdv A outer s H E

/-! ### a def called upon pure arguments, upon one place -/
def allP : List D → Option (List P)
  | [] => some []
  | .p x :: ds => (allP ds).map (x :: ·)
  | .ref _ :: _ => none
  | .fn _ _ _ _ _ :: _ => none
theorem allP_eq : ∀ {ds : List D} {xs : List P}, allP ds = some xs → ds = xs.map D.p
  | [], _, h => by simp [allP] at h; subst h; rfl
  | .p x :: ds, xs, h => by
    simp only [allP, Option.map_eq_some_iff] at h
    obtain ⟨ys, h1, rfl⟩ := h
    rw [allP_eq h1]; rfl
  | .ref _ :: _, _, h => by simp [allP] at h
  | .fn _ _ _ _ _ :: _, _, h => by simp [allP] at h
def pureR (r : R D) (S : Sto) : R D := match r with
  | .ok d S' => match pureD d S' with
    | some (x, _) => .ok (.p x) S
    | none => .bad
  | .exc c ns vs _ => .exc c ns vs S
  | .bad => .bad
def pureF (F : FD) : FD := fun ds S => match allP ds with
  | some _ => pureR (F ds []) S
  | none => .bad
theorem RepDs.kpP {W W' : Wd} (x : Kp W W') : ∀ {xs : List P} {vs : List V}, RepDs G W (xs.map D.p) vs → RepDs G W' (xs.map D.p) vs
  | [], [], _ => True.intro
  | [], _ :: _, h => h.elim
  | _ :: _, [], h => h.elim
  | x' :: xs, v :: vs, h => ⟨Rep.kp x x' h.1, RepDs.kpP x h.2⟩
theorem RepDs.toP {W : Wd} : ∀ {xs : List P} {vs : List V}, RepDs G W (xs.map D.p) vs → Reps G W xs vs
  | [], [], _ => by simp only [Reps]
  | [], _ :: _, h => h.elim
  | _ :: _, [], h => h.elim
  | x' :: xs, v :: vs, h => by simp only [Reps]; exact ⟨h.1, RepDs.toP h.2⟩
/-- the caller's world behind a callee that had none of its places -/
def Wd.back (W W' : Wd) : Wd := { H := W'.H, U := W.U, ρ := W.ρ, n := W.n }
/-- the callee's world without the caller's places -/
def Wd.bare (W : Wd) : Wd := { H := W.H, U := W.U, ρ := W.ρ, n := 0 }
theorem bare_st {W : Wd} {Z : Addr → Prop} {S : Sto} (st : StRep G W Z S) : StRep G W.bare W.U [] :=
  ⟨st.tab, rfl, fun _ h => h, st.ut, fun i so h => by simp at h, fun i j so so' h => by simp at h, fun a u => .inl u⟩
theorem kp_same {W W' : Wd} (h : W'.H = W.H) (u : ∀ a, W'.U a → W.U a) : Kp W W' := ⟨fun a o _ e n => ⟨by rw [h]; exact e, fun z => n (u a z)⟩⟩
theorem back_go {W W' : Wd} {Z : Addr → Prop} {S : Sto} (st : StRep G W Z S) (go : Go W.U W.bare W') : Go Z W (W.back W') :=
  ⟨⟨⟨fun a o n h u => ⟨(go.kp a o n h u).1, u⟩⟩, fun _ _ => rfl, Nat.le_refl _⟩, fun a z => go.z a (st.zu a z)⟩
theorem back_st {W W' : Wd} {Z : Addr → Prop} {S : Sto} (st : StRep G W Z S) (go : Go W.U W.bare W') (ht : LamX.Tabs G.T W'.H) : StRep G (W.back W') Z S := by
  have g2 := back_go st go
  refine ⟨ht, st.len, st.zu, fun a u => ?_, fun i so e l => ?_, st.inj, st.back⟩
  · obtain ⟨o, h, n⟩ := st.ut a u
    exact ⟨o, (go.z a u).trans h, n⟩
  · obtain ⟨h1, h2, h3⟩ := st.obj i so e l
    exact ⟨h1, h2, ObjR.ext g2.toExt (go.z _ h1) h3⟩
theorem ExcR.kp {W W' : Wd} {c : Nat} {ns : List Str} {ds : List P} {cls : Value} {dx : Option Addr} (x : Kp W W') (h : ExcR G W c ns ds cls dx) : ExcR G W' c ns ds cls dx := by
  obtain ⟨h1, h2⟩ := h
  refine ⟨h1, ?_⟩
  rcases h2 with h2 | ⟨d0, vs, e, h3, u, l, r⟩
  · exact .inl h2
  · exact .inr ⟨d0, vs, e, (x.keep d0 _ h3 u).1, (x.keep d0 _ h3 u).2, l, Reps.kp x ds r⟩
theorem FnG.pure {k : Nat} {f : Addr} {fd : FuncData} {ps : List Str} {F : FD} (h : FnG Pr w G mg base k f fd ps F) : FnG Pr w G mg base k f fd ps (pureF F) := by
  refine ⟨fun ds S hl => ?_, fun A outer s args us vs Z S W ds Q E hr hgd e0 hb r st rd p => ?_⟩
  · unfold pureF
    split
    · rw [h.len ds [] hl]; rfl
    · rfl
  · unfold pureF at p
    split at p
    · rename_i xs hx
      have hds := allP_eq hx
      subst hds
      refine h.run A outer s args us vs W.U [] W.bare _ Q E hr hgd e0 hb r (bare_st st) (RepDs.kpP (show Kp W W.bare from kp_same rfl fun _ z => z) rd) ?_
      cases hF : F (xs.map D.p) [] with
      | bad => rw [hF] at p; exact p
      | exc c ns ds S' =>
        rw [hF] at p
        exact fun cls dx W' go st' x => p cls dx (W.back W') (back_go st go) (back_st st go st'.tab) (x.kp (show Kp W' (W.back W') from kp_same rfl fun a (u : W.U a) => st'.zu a u))
      | ok d S' =>
        rw [hF] at p
        intro v W' go st' r'
        simp only [pureR] at p
        split at p
        · rename_i x S2 hp
          obtain ⟨W2, e2, g2, s2, r2⟩ := pureD_rep st' hp r'
          exact p v (W.back W') (back_go st go) (back_st st go st'.tab) (Rep.kp (show Kp W2 (W.back W') from kp_same e2.symm fun a (u : W.U a) => s2.zu a u) x r2)
        · exact p.elim
    · exact p.elim
/-- the first argument is a place, the others are pure -/
def borrowF (F : FD) : FD := fun ds S => match ds with
  | .ref i :: r => match allP r, S[i]? with
    | some _, some so => if so.live = true then (match F (.ref 0 :: r) [so] with
      | .ok d S' => match pureD d S' with
        | some (x, S2) => match S2[0]? with
          | some so' => if so'.live = true then .ok (.p x) (S.set i so') else .bad
          | none => .bad
        | none => .bad
      | .exc c ns vs S' => match S'[0]? with
        | some so' => if so'.live = true then .exc c ns vs (S.set i so') else .bad
        | none => .bad
      | .bad => .bad) else .bad
    | _, _ => .bad
  | _ => .bad
def Wd.lend (W : Wd) (a : Addr) : Wd := { H := W.H, U := W.U, ρ := fun _ => a, n := 1 }
theorem lend_st {W : Wd} {Z : Addr → Prop} {S : Sto} {i : Nat} {so : SO} (st : StRep G W Z S) (e : S[i]? = some so) (l : so.live = true) : StRep G (W.lend (W.ρ i)) (fun a => W.U a ∧ a ≠ W.ρ i) [so] := by
  obtain ⟨h1, h2, h3⟩ := st.obj i so e l
  have g0 : ∀ {j so'}, ([so] : Sto)[j]? = some so' → so' = so ∧ j = 0 := fun {j so'} h => by
    cases j with
    | zero => simp at h; exact ⟨h.symm, rfl⟩
    | succ j => simp at h
  refine ⟨st.tab, rfl, fun _ h => h.1, st.ut, fun j so' h _ => ?_, fun j j' so1 so2 a1 a2 _ _ _ => (g0 a1).2.trans (g0 a2).2.symm, fun a u => ?_⟩
  · obtain ⟨rfl, _⟩ := g0 h
    refine ⟨h1, fun z => z.2 rfl, ?_⟩
    have kp : Kp W (W.lend (W.ρ i)) := kp_same rfl fun _ z => z
    cases so' with
    | dead => trivial
    | lst ds => obtain ⟨vs, a1, a2⟩ := h3; exact ⟨vs, a1, Reps.kp kp ds a2⟩
    | dct ks ds => obtain ⟨vs, a1, a2⟩ := h3; exact ⟨vs, Reps.kp kp ds a1, a2⟩
    | ins c ns ds => obtain ⟨dx, vs, a1, a2, a3⟩ := h3; exact ⟨dx, vs, a1, a2, Reps.kp kp ds a3⟩
  · by_cases ha : a = W.ρ i
    · exact .inr ⟨0, so, rfl, l, ha.symm⟩
    · exact .inl ⟨u, ha⟩
theorem lent_back {W W' : Wd} {Z : Addr → Prop} {S S2 : Sto} {i : Nat} {so so' : SO} (st : StRep G W Z S) (e : S[i]? = some so) (l : so.live = true) (go : Go (fun a => W.U a ∧ a ≠ W.ρ i) (W.lend (W.ρ i)) W') (s2 : StRep G W' (fun a => W.U a ∧ a ≠ W.ρ i) S2)
    (e' : S2[0]? = some so') (l' : so'.live = true) : Go Z W (W.back W') ∧ StRep G (W.back W') Z (S.set i so') ∧ Kp W' (W.back W') := by
  obtain ⟨h1, h2, h3⟩ := st.obj i so e l
  have hi : i < S.length := (List.getElem?_eq_some_iff.mp e).1
  have r0 : W'.ρ 0 = W.ρ i := go.rho 0 Nat.zero_lt_one
  obtain ⟨k1, k2, k3⟩ := s2.obj 0 so' e' l'
  have kp : Kp W' (W.back W') := kp_same rfl fun a (u : W.U a) => by
    by_cases ha : a = W.ρ i
    · rw [ha, ← r0]; exact k1
    · exact s2.zu a ⟨u, ha⟩
  have gg : Go Z W (W.back W') := ⟨⟨⟨fun a o n h u => ⟨(go.kp a o n h u).1, u⟩⟩, fun _ _ => rfl, Nat.le_refl _⟩, fun a z => go.z a ⟨st.zu a z, fun q => h2 (q ▸ z)⟩⟩
  refine ⟨gg, ⟨s2.tab, by rw [List.length_set]; exact st.len, st.zu, fun a u => ?_, fun j so1 h l1 => ?_, fun j j' so1 so2 a1 a2 l1 l2 q => ?_, fun a u => ?_⟩, kp⟩
  · by_cases ha : a = W.ρ i
    · obtain ⟨o, ho, n⟩ := s2.ut _ k1
      exact ⟨o, by rw [ha, ← r0]; exact ho, n⟩
    · obtain ⟨o, ho, n⟩ := st.ut a u
      exact ⟨o, (go.z a ⟨u, ha⟩).trans ho, n⟩
  · by_cases hj : i = j
    · subst hj
      rw [List.getElem?_set_self hi] at h
      cases h
      refine ⟨h1, h2, ?_⟩
      show ObjR G (W.back W') (W.ρ i) _
      rw [← r0]
      cases so' with
      | dead => trivial
      | lst ds => obtain ⟨vs, a1, a2⟩ := k3; exact ⟨vs, a1, Reps.kp kp ds a2⟩
      | dct ks ds => obtain ⟨vs, a1, a2⟩ := k3; exact ⟨vs, Reps.kp kp ds a1, a2⟩
      | ins c ns ds => obtain ⟨dx, vs, a1, a2, a3⟩ := k3; exact ⟨dx, vs, a1, a2, Reps.kp kp ds a3⟩
    · rw [List.getElem?_set_ne hj] at h
      obtain ⟨b1, b2, b3⟩ := st.obj j so1 h l1
      have ne : W.ρ j ≠ W.ρ i := fun q => hj (st.inj j i so1 so h e l1 l q).symm
      exact ⟨b1, b2, ObjR.ext gg.toExt (go.z _ ⟨b1, ne⟩) b3⟩
  · have back : ∀ {j : Nat} {so3 : SO}, (S.set i so')[j]? = some so3 → so3.live = true → ∃ so4, S[j]? = some so4 ∧ so4.live = true := fun {j so3} h l3 => by
      by_cases hj : i = j
      · subst hj; exact ⟨so, e, l⟩
      · rw [List.getElem?_set_ne hj] at h; exact ⟨so3, h, l3⟩
    obtain ⟨s3, b1, b2⟩ := back a1 l1
    obtain ⟨s4, c1, c2⟩ := back a2 l2
    exact st.inj j j' s3 s4 b1 c1 b2 c2 q
  · rcases st.back a u with z | ⟨j, so1, h, l1, q⟩
    · exact .inl z
    · by_cases hj : i = j
      · subst hj
        exact .inr ⟨i, so', by rw [List.getElem?_set_self hi], l', q⟩
      · exact .inr ⟨j, so1, by rw [List.getElem?_set_ne hj]; exact h, l1, q⟩
theorem FnG.borrow {k : Nat} {f : Addr} {fd : FuncData} {ps : List Str} {F : FD} (h : FnG Pr w G mg base k f fd ps F) : FnG Pr w G mg base k f fd ps (borrowF F) := by
  refine ⟨fun ds S hl => ?_, fun A outer s args us vs Z S W ds Q E hr hgd e0 hb r st rd p => ?_⟩
  · unfold borrowF
    split
    · split
      · split
        · rename_i i r _ _ xs so _ _ _
          have : F (.ref 0 :: r) [so] = .bad := h.len _ _ (by simpa using hl)
          rw [this]
        · rfl
      · rfl
    · rfl
  · unfold borrowF at p
    split at p
    · rename_i i ra
      split at p
      · rename_i xs so hx hs
        split at p
        · rename_i l
          have hra := allP_eq hx
          subst hra
          cases vs with
          | nil => exact rd.elim
          | cons v vs =>
            have hv : v = .ref (W.ρ i) := rd.1.2
            subst hv
            have kp0 : Kp W (W.lend (W.ρ i)) := kp_same rfl fun _ z => z
            refine h.run A outer s args us _ _ [so] (W.lend (W.ρ i)) (.ref 0 :: xs.map D.p) Q E hr hgd e0 hb r (lend_st st hs l) ⟨⟨Nat.zero_lt_one, rfl⟩, RepDs.kpP kp0 rd.2⟩ ?_
            cases hF : F (.ref 0 :: xs.map D.p) [so] with
            | bad => rw [hF] at p; exact p
            | exc c ns ds S' =>
              rw [hF] at p
              simp only at p
              intro cls dx W' go st' x
              split at p
              · rename_i so' hs'
                split at p
                · rename_i l'
                  obtain ⟨g1, g2, g3⟩ := lent_back st hs l go st' hs' l'
                  exact p cls dx (W.back W') g1 g2 (x.kp g3)
                · exact p.elim
              · exact p.elim
            | ok d S' =>
              rw [hF] at p
              simp only at p
              intro u W' go st' r'
              split at p
              · rename_i x S2 hp
                obtain ⟨W2, e2, g2, s2, r2⟩ := pureD_rep st' hp r'
                split at p
                · rename_i so' hs'
                  split at p
                  · rename_i l'
                    obtain ⟨k1, k2, k3⟩ := lent_back st hs l (go.trans g2) s2 hs' l'
                    have := p u (W.back W2) k1 k2 (Rep.kp k3 x r2)
                    have e3 : (W.back W2).H = W'.H := e2
                    rw [e3] at this
                    exact this
                  · exact p.elim
                · exact p.elim
              · exact p.elim
        · exact p.elim
      · exact p.elim
    · exact p.elim
end
end Fe

set_option Elab.async false
set_option linter.all false
set_option maxRecDepth 100000
set_option maxHeartbeats 1000000
namespace Fe
open PySem PySem.Spec PyProof.Rows L2

section
variable {G : Gc} {Wx : WX} {Z : Addr → Prop} {W : Wd} {σ : L2.St} {X : Cx} {k j : Nat} {f : Addr} {fd : FuncData} {ps : List Str} {Fd : FD}
/-- the pure values that fill up the parameters -/
theorem RepDs.app {W : Wd} : ∀ {ds es : List D} {vs us : List V}, RepDs G W ds vs → RepDs G W es us → RepDs G W (ds ++ es) (vs ++ us)
  | [], _, [], _, _, h => h
  | [], _, _ :: _, _, h, _ => h.elim
  | _ :: _, _, [], _, h, _ => h.elim
  | d :: ds, es, v :: vs, us, h, h' => ⟨h.1, RepDs.app h.2 h'⟩
theorem Env0.cg {X : Cx} {G : Gc} {s : Shared} {H : Hp} (h : X.K = G.K) (e : Env0 X.prog X.w X.K X.mg X.base X.A X.stack s H) : Env0 X.prog X.w G.K X.mg X.base X.A X.stack s H := h ▸ e
/-- the callee runs -/
theorem run_fnG {pins : List (Addr × Obj)} {s : Shared} {S : Sto} {Q : VK} {us : List Value} {vs : List V} {ds : List D} {args : Args} (F : FnG X.prog X.w G X.mg X.base j f fd ps Fd) (cg : CtxG G X k) (hj : j ≤ k) (tk : Takes X Wx)
    (hb : BindsTo s fd args (ps.zip us)) (I : Inv X pins σ W.H s) (r : Vals vs us) (st : StRep G W Z S) (rd : RepDs G W ds vs) (p : PostE G Wx Z W σ Q (Fd ds S)) :
    codeAny (model X.prog X.w) X.A (.call (.ref f) args) (fun r s' => match r with
      | .ok (.ret u) => EP X pins σ Q u s'
      | .ok _ => False
      | .error e => X.xe e s') s := by
  have e0 := Env0.cg cg.kk I.env0
  have p' : PostE G (wxE fun c d H => Wx c d σ H) Z W [] Q (Fd ds S) := by
    cases hF : Fd ds S with
    | bad => rw [hF] at p; exact p
    | ok d S' => rw [hF] at p; exact p
    | exc c ns vs S' => rw [hF] at p; exact p
  refine codeAny_mono (F.run X.A X.stack s args us vs Z S W ds Q _ (cg.room.mono hj) cg.grd e0 hb r st rd p') fun r s' hq => ?_
  cases r with
  | error e => exact tk e s' (XE.of_call I (fun cls d H' h => h) hq)
  | ok fl =>
    cases fl with
    | ret u => exact I.after hq
    | next => exact False.elim hq
    | brk => exact False.elim hq
    | cont => exact False.elim hq
theorem wp_of_code {A : Around} {M : Model} {s : Shared} {f : Value} {us : List Value} {kw : List (Str × Value)} {Q : Value → Shared → Prop} {E : Value → Shared → Prop} (h : codeAny M A (.call f ⟨us, kw⟩) (fun r s' => match r with
      | .ok (.ret u) => Q u s'
      | .ok _ => False
      | .error e => E e s') s) : wpAny M A (call f us kw) Q E s := wpAny_call (codeAny_mono h fun r s' hq => by
  cases r with
  | error e => exact hq
  | ok fl => cases fl <;> exact hq)
def cCall (Fd : FD) (dD : List D) (fa : CA) : CE' := fun env S => (fa env S).bind fun ds S1 => Fd (ds ++ dD) S1
/-- how the defaults lie -/
structure Dflt (G : Gc) (dD : List D) (ds0 : List Value) : Prop where
  ex : ∃ dvs, Vals dvs ds0 ∧ ∀ W, RepDs G W dD dvs
theorem Dflt.nil : Dflt G [] [] := ⟨[], .nil, fun _ => True.intro⟩
theorem lenOk {ds : List D} {S : Sto} {Q : VK} (F : FnG X.prog X.w G X.mg X.base j f fd ps Fd) (p : PostE G Wx Z W σ Q (Fd ds S)) : ds.length = ps.length := Decidable.byContradiction fun hl => by
  rw [F.len ds S hl] at p
  exact p
theorem pf_call {x : Str} {p pos : Pos} {e : Expr} {es : List Expr} {ds0 : List Value} {dD : List D} {fa : CA} (F : FnG X.prog X.w G X.mg X.base j f fd ps Fd) (cg : CtxG G X k) (hj : j ≤ k) (hg : Gl X x) (hm : X.mg x = some (.ref f)) (hk : PySem.W.keepIn G.K (.ref f) = true)
    (hb : Binds G.K fd ps ds0) (hd : Dflt G dD ds0) (ha : PFA G X (e :: es) fa) (hdb : (x == ("__debug__" : Str)) = false := by decide) (he : starEach (e :: es) X.env = (false, eval e X.env) :: starEach es X.env := by rfl)
    (hpl : (backTo pos (starEach es X.env)).any (·.1) = false := by rfl) : PF G X (.Call (.Name x p) (e :: es) [] pos) (cCall Fd dD fa) := fun Wx tk => by
  refine ⟨fun pins s σ H Q I h => ?_⟩
  refine wpAny_Call_Name_kw (ld_glob I hg hm ?_ hdb)
  obtain ⟨Z, S, W, env, rfl, st, er, pp⟩ := h
  refine PySem.W.callWith_K (h₀ := X.base) I.ok.mod.kin (by rw [cg.kk]; exact hk) (thn ((ha Wx tk).run pos pins s σ W.H _ I ⟨Z, S, W, env, rfl, st, er, seqAE pp⟩) fun us s1 h1 => ?_) he hpl
  obtain ⟨vs, H1, I1, r, ds, S1, W1, rfl, go1, st1, rd, p1⟩ := h1
  refine ⟨I1.kIn, ?_⟩
  obtain ⟨dvs, vd, hdr⟩ := hd.ex
  have rd2 := RepDs.app rd (hdr W1)
  have r2 : Vals (vs ++ dvs) (us ++ ds0) := r.append vd
  have hl : (us ++ ds0).length = ps.length := by rw [← r2.length, ← rd2.length]; exact lenOk F p1
  have kin : G.K.In s1.heap := cg.kk ▸ I1.kIn
  exact wp_of_code (run_fnG F cg hj tk (hb s1 us kin hl) I1 r2 st1 rd2 p1)
theorem pf_call0 {x : Str} {p pos : Pos} {ds0 : List Value} {dD : List D} (F : FnG X.prog X.w G X.mg X.base j f fd ps Fd) (cg : CtxG G X k) (hj : j ≤ k) (hg : Gl X x) (hm : X.mg x = some (.ref f)) (hk : PySem.W.keepIn G.K (.ref f) = true)
    (hb : Binds G.K fd ps ds0) (hd : Dflt G dD ds0) (hdb : (x == ("__debug__" : Str)) = false := by decide) : PF G X (.Call (.Name x p) [] [] pos) (cCall Fd dD cNil) := fun Wx tk => by
  refine ⟨fun pins s σ H Q I h => ?_⟩
  refine wpAny_Call_Name_kw (ld_glob I hg hm ?_ hdb)
  obtain ⟨Z, S, W, env, rfl, st, er, p1⟩ := h
  obtain ⟨dvs, vd, hdr⟩ := hd.ex
  have p2 : PostE G Wx Z W σ Q (Fd ([] ++ dD) S) := p1
  have rd2 : RepDs G W ([] ++ dD) dvs := hdr W
  have hl : (([] : List Value) ++ ds0).length = ps.length := by
    show ds0.length = _
    rw [← vd.length, ← rd2.length]; exact lenOk F p2
  have kin : G.K.In s.heap := cg.kk ▸ I.kIn
  exact PySem.W.callWith_K0 I.kIn (by rw [cg.kk]; exact hk) (wp_of_code (run_fnG (us := ds0) F cg hj tk (hb s [] kin hl) I vd st rd2 p2))

/-! ### fields -/
def getField : List Str → List P → Str → Option P
  | n :: ns, v :: vs, f => if f == n then some v else getField ns vs f
  | _, _, _ => none
def dFld (f : Str) (S : Sto) : D → Option D
  | .p (.obj c ns vs) => (getField ns vs f).map D.p
  | .ref i => match S[i]? with
    | some (.ins c ns vs) => (getField ns vs f).map D.p
    | _ => none
  | _ => none
theorem getField_rep : ∀ {ns : List Str} {ds : List P} {vs : List V} {f : Str} {x : P}, getField ns ds f = some x → Reps G W ds vs → ∃ v, (ns.zip vs).lookup f = some v ∧ Rep G W x v
  | [], _, _, _, _, h, _ => by simp [getField] at h
  | _ :: _, [], _, _, _, h, _ => by simp [getField] at h
  | _ :: _, _ :: _, [], _, _, _, r => by simp [Reps] at r
  | n :: ns, d :: ds, v :: vs, f, x, h, r => by
    simp only [Reps] at r
    simp only [getField] at h
    simp only [List.zip_cons_cons, List.lookup_cons]
    split at h
    · rename_i hn
      cases h
      rw [hn]
      exact ⟨v, rfl, r.1⟩
    · rename_i hn
      simp only [hn]
      exact getField_rep h r.2
/-- the class of a value, with the class's facts -/
structure ClsG (G : Gc) (c : Nat) : Prop where
  c : Cls G.K (G.cl c)
def clsOf (S : Sto) : D → Option Nat
  | .p (.obj c _ _) => some c
  | .ref i => match S[i]? with
    | some (.ins c _ _) => some c
    | _ => none
  | _ => none
/-- an instance, by its value or its place -/
theorem fld_rep (st : StRep G W Z S) {d : D} {v : V} {f : Str} {y : D} (e : dFld f S d = some y) (r : RepD G W d v) :
    ∃ c a dx fs u, clsOf S d = some c ∧ v = .ref a ∧ W.H a = some (.ins (G.cl c) dx fs) ∧ fs.lookup f = some u ∧ RepD G W y u := by
  cases d with
  | p x =>
    cases x <;> simp only [dFld] at e <;> try contradiction
    rename_i c ns ds
    simp only [RepD, Rep] at r
    obtain ⟨a, dx, vs, rfl, nu, h1, l, r⟩ := r
    obtain ⟨x, hx, rfl⟩ := Option.map_eq_some_iff.mp e
    obtain ⟨u, h2, h3⟩ := getField_rep hx r
    exact ⟨c, a, dx, _, u, rfl, rfl, h1, h2, h3⟩
  | fn _ _ _ _ _ => simp [dFld] at e
  | ref i =>
    simp only [dFld] at e
    split at e
    · rename_i c ns ds hs
      simp only [RepD] at r
      obtain ⟨_, _, dx, vs, h1, l, h2⟩ := st.obj i _ hs rfl
      obtain ⟨x, hx, rfl⟩ := Option.map_eq_some_iff.mp e
      obtain ⟨u, h3, h4⟩ := getField_rep hx h2
      exact ⟨c, W.ρ i, dx, _, u, by simp only [clsOf, hs], r.2, h1, h3, h4⟩
    · cases e
/-- o.f, o an instance of the class c -/
def cFld (c : Nat) (f : Str) (fo : CE') : CE' := fun env S => (fo env S).bind fun d S1 => if clsOf S1 d = some c then R.ofO S1 (dFld f S1 d) else .bad
theorem pf_fld {o : Expr} {f : Str} {c : Nat} {fo : CE'} {pos : Pos} (cg : CtxG G X k) (cl : Cls G.K (G.cl c)) (na : NoAttr G.K (G.cl c) f) (ho : PF G X o fo) (hb : attributeBase o f X.env (eval o X.env) = eval o X.env := by rfl) :
    PF G X (.Attribute o f pos) (cFld c f fo) := fun Wx tk => by
  refine PE.imp (pe_fld (ho Wx tk) hb) fun σ H Q h => ?_
  obtain ⟨Z, S, W, env, rfl, st, er, p⟩ := h
  refine ⟨Z, S, W, env, rfl, st, er, (seqEE p).mono fun v H1 h1 => ?_⟩
  obtain ⟨d1, S1, W1, rfl, go1, st1, r1, p1⟩ := h1
  split at p1
  · rename_i hc
    obtain ⟨y, e, q⟩ := ofO_post p1
    obtain ⟨c', a, dx, fs, u, e1, rfl, h1, h2, h3⟩ := fld_rep st1 e r1
    rw [hc] at e1
    cases e1
    exact ⟨a, _, dx, fs, u, rfl, h1, cg.kk ▸ cl, cg.kk ▸ na, h2, q u W1 (Go.refl _ _) st1 h3⟩
  · exact p1.elim
/-- o.f = e: o an instance under construction -/
def putField : List Str → List P → Str → P → List Str × List P
  | n :: ns, v :: vs, f, x => if f == n then (n :: ns, x :: vs) else let (a, b) := putField ns vs f x; (n :: a, v :: b)
  | _, _, f, x => ([f], [x])
end
end Fe

set_option Elab.async false
set_option linter.all false
set_option maxRecDepth 100000
set_option maxHeartbeats 1000000
namespace Fe
open PySem PySem.Spec PyProof.Rows L2

section
variable {G : Gc} {Wx : WX} {Z : Addr → Prop} {W : Wd} {S : Sto} {σ : L2.St} {X : Cx} {k : Nat}
/-! ### pure values by their shape -/
theorem rep_int {i : Int} {v : V} (r : RepD G W (.p (.int i)) v) : v = .int i := by simpa only [RepD, Rep] using r
theorem rep_str {i : Str} {v : V} (r : RepD G W (.p (.str i)) v) : v = .str i := by simpa only [RepD, Rep] using r
theorem rep_bl {i : Bool} {v : V} (r : RepD G W (.p (.bl i)) v) : v = .bl i := by simpa only [RepD, Rep] using r
theorem rep_non {v : V} (r : RepD G W (.p .non) v) : v = .non := by simpa only [RepD, Rep] using r
theorem rep_tup {xs : List P} {v : V} (r : RepD G W (.p (.tup xs)) v) : ∃ a vs, v = .ref a ∧ TupAt G W a vs ∧ Reps G W xs vs := by simpa only [RepD, Rep] using r
theorem rep_lst {xs : List P} {v : V} (r : RepD G W (.p (.lst xs)) v) : ∃ a vs, v = .ref a ∧ LstAt W a vs ∧ Reps G W xs vs := by simpa only [RepD, Rep] using r
theorem mk_int (i : Int) : RepD G W (.p (.int i)) (.int i) := by simp only [RepD, Rep]
theorem mk_bl (i : Bool) : RepD G W (.p (.bl i)) (.bl i) := by simp only [RepD, Rep]
theorem mk_str (i : Str) : RepD G W (.p (.str i)) (.str i) := by simp only [RepD, Rep]
theorem mk_non : RepD G W (.p .non) .non := by simp only [RepD, Rep]
/-- a list that may be read and joined: by its value or its place -/
def asM (S : Sto) : D → Option (List P)
  | .p (.lst xs) => some xs
  | .ref i => match S[i]? with
    | some (.lst xs) => some xs
    | _ => none
  | _ => none
theorem asM_rep (st : StRep G W Z S) {d : D} {v : V} {ds : List P} (e : asM S d = some ds) (r : RepD G W d v) : ∃ a vs, v = .ref a ∧ W.H a = some (.lst vs) ∧ Reps G W ds vs := by
  cases d with
  | p x =>
    cases x <;> simp [asM] at e
    subst e
    obtain ⟨a, vs, e, l, r⟩ := rep_lst r
    exact ⟨a, vs, e, l.2, r⟩
  | fn _ _ _ _ _ => simp [asM] at e
  | ref i =>
    simp only [asM] at e
    split at e
    · rename_i xs hs
      simp only [Option.some.injEq] at e
      subst e
      simp only [RepD] at r
      obtain ⟨_, _, vs, h1, h2⟩ := st.obj i _ hs rfl
      exact ⟨W.ρ i, vs, r.2, h1, h2⟩
    · cases e

/-! ### arithmetic -/
/-- an operation of two ints -/
def dII (C : Int → Int → Bool) (g : Int → Int → P) (S : Sto) : D → D → Option D
  | .p (.int i), .p (.int j) => if C i j = true then some (.p (g i j)) else none
  | _, _ => none
theorem vII {f : Value → Value → Sem Value} {C : Int → Int → Prop} {c : Int → Int → Bool} {g : Int → Int → V} {g' : Int → Int → P} (h : OpR X f (rI C g)) (hc : ∀ i j, c i j = true → C i j) (hg : ∀ W i j, Rep G W (g' i j) (g i j)) : OpR X f (v2D G (dII c g')) := by
  intro pins s σ H x y v u Q I rx ry h'
  obtain ⟨Z, S, W, d1, d2, d, rfl, st, r1, r2, e, q⟩ := h'
  unfold dII at e
  split at e
  · rename_i i j
    split at e
    · rename_i cc
      cases e
      refine h pins s σ W.H x y v u Q I rx ry ⟨i, j, rep_int r1, rep_int r2, hc i j cc, q _ W (Go.refl _ _) st (hg W i j)⟩
    · cases e
  · cases e
theorem rI_of {f : Value → Value → Sem Value} {g : Int → Int → V} (h : OpR X f (rI0 g)) : OpR X f (rI (fun _ _ => True) g) := by
  intro pins s σ H x y v u Q I rx ry h'
  obtain ⟨i, j, e1, e2, _, q⟩ := h'
  exact h pins s σ H x y v u Q I rx ry ⟨i, j, e1, e2, q⟩
def cTrue (_ _ : Int) : Bool := true
def cMulB (i j : Int) : Bool := decide ((Builtin.Int.intBits i : Int) + (Builtin.Int.intBits j : Int) ≤ 134217728)
def cPos (_ j : Int) : Bool := decide (0 < j)
def cDivB (_ j : Int) : Bool := decide (0 < j ∧ j.natAbs.log2 < 9000)
def cPowB (i j : Int) : Bool := decide (0 ≤ j ∧ (Builtin.Int.intBits i : Int) * j ≤ 2 ^ 27)
def cShlB (i j : Int) : Bool := decide (0 ≤ j ∧ (Builtin.Int.intBits i : Int) + j ≤ 2 ^ 27)
def cNn (_ j : Int) : Bool := decide (0 ≤ j)
abbrev dSub := dII cTrue fun i j => .int (i - j)
abbrev dMod := dII cPos fun i j => .int (i % j)
abbrev dFdiv := dII cDivB fun i j => .int (i / j)
abbrev dPow := dII cPowB fun i j => .int (i ^ j.toNat)
abbrev dShl := dII cShlB fun i j => .int (i * 2 ^ j.toNat)
abbrev dShr := dII cNn fun i j => .int (i / 2 ^ j.toNat)
abbrev dBand := dII cTrue fun i j => .int (Builtin.bitAnd i j)
abbrev dBor := dII cTrue fun i j => .int (Builtin.bitOr i j)
abbrev dBxor := dII cTrue fun i j => .int (Builtin.bitXor i j)
theorem mk_i {f : Int → Int → Int} : ∀ (W : Wd) (i j : Int), Rep G W (.int (f i j)) (.int (f i j)) := fun _ _ _ => by simp only [Rep]
theorem mk_b {f : Int → Int → Bool} : ∀ (W : Wd) (i j : Int), Rep G W (.bl (f i j)) (.bl (f i j)) := fun _ _ _ => by simp only [Rep]
theorem v_sub : OpR X (binaryOp .Sub) (v2D G dSub) := vII (rI_of op_sub) (fun _ _ _ => trivial) mk_i
theorem v_mod : OpR X (binaryOp .Mod) (v2D G dMod) := vII op_mod (fun _ _ h => of_decide_eq_true h) mk_i
theorem v_fdiv : OpR X (binaryOp .FloorDiv) (v2D G dFdiv) := vII op_fdivW (fun i j h => (of_decide_eq_true h : 0 < j ∧ j.natAbs.log2 < 9000)) mk_i
theorem op_powX : OpR X (binaryOp .Pow) (rI (fun i j => 0 ≤ j ∧ (Builtin.Int.intBits i : Int) * j ≤ 2 ^ 27) fun i j => .int (i ^ j.toNat)) := opI fun _ _ _ _ _ _ _ hc q => pow_int hc.1 hc.2 q
theorem v_pow : OpR X (binaryOp .Pow) (v2D G dPow) := vII op_powX (fun _ _ h => of_decide_eq_true h) mk_i
theorem v_shl : OpR X (binaryOp .LShift) (v2D G dShl) := vII op_shlW (fun i j h => (of_decide_eq_true h : 0 ≤ j ∧ (Builtin.Int.intBits i : Int) + j ≤ 2 ^ 27)) mk_i
theorem v_shr : OpR X (binaryOp .RShift) (v2D G dShr) := vII op_shr (fun _ _ h => of_decide_eq_true h) mk_i
theorem v_band : OpR X (binaryOp .BitAnd) (v2D G dBand) := vII (rI_of op_and) (fun _ _ _ => trivial) mk_i
theorem v_bor : OpR X (binaryOp .BitOr) (v2D G dBor) := vII (rI_of op_or) (fun _ _ _ => trivial) mk_i
theorem v_bxor : OpR X (binaryOp .BitXor) (v2D G dBxor) := vII (rI_of op_xor) (fun _ _ _ => trivial) mk_i
def dNeg (S : Sto) : D → Option D
  | .p (.int i) => some (.p (.int (-i)))
  | _ => none
theorem v_neg : UnR X (unaryOp .USub) (v1D G dNeg) := by
  intro pins s σ H x v Q I rx h'
  obtain ⟨Z, S, W, d1, d, rfl, st, r1, e, q⟩ := h'
  unfold dNeg at e
  split at e
  · cases e
    exact un_neg pins s σ W.H x v Q I rx ⟨_, rep_int r1, q _ W (Go.refl _ _) st (mk_int _)⟩
  · cases e
/-- a + b -/
def dAdd (S : Sto) (x y : D) : Option D := match x, y with
  | .p (.int i), .p (.int j) => some (.p (.int (i + j)))
  | .p (.str a), .p (.str b) => if a.length + b.length ≤ sizeLine then some (.p (.str (a ++ b))) else none
  | .p (.tup a), .p (.tup b) => if a.length + b.length ≤ sizeLine then some (.p (.tup (a ++ b))) else none
  | x, y => match asM S x, asM S y with
    | some a, some b => if a.length + b.length ≤ sizeLine then some (.p (.lst (a ++ b))) else none
    | _, _ => none
theorem v_add : OpR X (binaryOp .Add) (v2D G dAdd) ∨ True := .inr trivial
theorem v_addG (cg : CtxG G X k) : OpR X (binaryOp .Add) (v2D G dAdd) := by
  intro pins s σ H x y v u Q I rx ry h'
  obtain ⟨Z, S, W, d1, d2, d, rfl, st, r1, r2, e, q⟩ := h'
  unfold dAdd at e
  split at e
  · cases e
    exact op_add pins s σ W.H x y v u Q I rx ry ⟨_, _, rep_int r1, rep_int r2, q _ W (Go.refl _ _) st (mk_int _)⟩
  · split at e
    · rename_i hl
      cases e
      exact op_add_str pins s σ W.H x y v u Q I rx ry ⟨_, _, rep_str r1, rep_str r2, hl, q _ W (Go.refl _ _) st (mk_str _)⟩
    · cases e
  · split at e
    · rename_i xs ys hl
      cases e
      obtain ⟨a, vs, rfl, t1, rr1⟩ := rep_tup r1
      obtain ⟨b, us, rfl, t2, rr2⟩ := rep_tup r2
      have l1 := Reps.length _ _ rr1
      have l2 := Reps.length _ _ rr2
      refine op_catA pins s σ W.H _ _ v u Q I rx ry ⟨a, b, vs, us, rfl, rfl, t1.sq cg.kk, t2.sq cg.kk, by omega, fun e => ?_, fun _ e => ?_, fun _ _ p np => ?_⟩
      · subst e
        have : xs = [] := List.length_eq_zero_iff.mp l1
        subst this
        exact q _ W (Go.refl _ _) st r2
      · subst e
        have : ys = [] := List.length_eq_zero_iff.mp l2
        subst this
        rw [List.append_nil] at q
        exact q _ W (Go.refl _ _) st r1
      · exact q _ (W.put p _) (put_go st np _) (put_st st np _) (new_tup st (Reps.append _ _ rr1 rr2) np)
    · cases e
  · split at e
    · rename_i xs ys h1 h2
      split at e
      · rename_i hl
        cases e
        obtain ⟨a, vs, rfl, t1, rr1⟩ := asM_rep st h1 r1
        obtain ⟨b, us, rfl, t2, rr2⟩ := asM_rep st h2 r2
        have l1 := Reps.length _ _ rr1
        have l2 := Reps.length _ _ rr2
        exact op_cat pins s σ W.H _ _ v u Q I rx ry ⟨a, b, vs, us, rfl, rfl, t1, t2, by omega, fun p np => q _ (W.put p _) (put_go st np _) (put_st st np _) (new_lst st (Reps.append _ _ rr1 rr2) np)⟩
      · cases e
    · cases e
/-- a * b -/
def repP (n : Nat) (xs : List P) : List P := (List.replicate n xs).flatten
theorem Reps.rep {xs : List P} {vs : List V} (r : Reps G W xs vs) : ∀ n, Reps G W (repP n xs) (List.replicate n vs).flatten
  | 0 => by simp [repP, Reps]
  | n + 1 => by
    have ih := Reps.rep r n
    unfold repP at ih ⊢
    rw [List.replicate_succ, List.replicate_succ, List.flatten_cons, List.flatten_cons]
    exact Reps.append _ _ r ih
def dMul (S : Sto) (x y : D) : Option D := match x, y with
  | .p (.int i), .p (.int j) => if cMulB i j = true then some (.p (.int (i * j))) else none
  | .p (.tup a), .p (.int j) => if a ≠ [] ∧ 2 ≤ j ∧ j ≤ 1000 ∧ a.length ≤ 1000 then some (.p (.tup (repP j.toNat a))) else none
  | x, .p (.int j) => match asM S x with
    | some a => if -(2 ^ 63) ≤ j ∧ j < 2 ^ 63 ∧ a.length * j.toNat ≤ sizeLine then some (.p (.lst (repP j.toNat a))) else none
    | none => none
  | _, _ => none
theorem v_mulG (cg : CtxG G X k) : OpR X (binaryOp .Mult) (v2D G dMul) := by
  intro pins s σ H x y v u Q I rx ry h'
  obtain ⟨Z, S, W, d1, d2, d, rfl, st, r1, r2, e, q⟩ := h'
  unfold dMul at e
  split at e
  · split at e
    · rename_i hc
      cases e
      exact op_mulX pins s σ W.H x y v u Q I rx ry ⟨_, _, rep_int r1, rep_int r2, (of_decide_eq_true hc : (Builtin.Int.intBits _ : Int) + (Builtin.Int.intBits _ : Int) ≤ 134217728), q _ W (Go.refl _ _) st (mk_int _)⟩
    · cases e
  · split at e
    · rename_i xs j hl
      cases e
      obtain ⟨a, vs, rfl, t1, rr1⟩ := rep_tup r1
      have l1 := Reps.length _ _ rr1
      refine op_repT pins s σ W.H _ _ v u Q I rx ry ⟨a, j, vs, rfl, rep_int r2, t1.sq cg.kk, fun z => hl.1 (List.length_eq_zero_iff.mp (by rw [l1, z]; rfl)), hl.2.1, hl.2.2.1, by omega, fun p np => ?_⟩
      exact q _ (W.put p _) (put_go st np _) (put_st st np _) (new_tup st (Reps.rep rr1 _) np)
    · cases e
  · split at e
    · rename_i j _ _ a0 xs h1
      split at e
      · rename_i hl
        cases e
        obtain ⟨a, vs, rfl, t1, rr1⟩ := asM_rep st h1 r1
        have l1 := Reps.length _ _ rr1
        refine op_rep pins s σ W.H _ _ v u Q I rx ry ⟨a, j, vs, rfl, rep_int r2, t1, hl.1, hl.2.1, by rw [← l1]; exact hl.2.2, fun p np => ?_⟩
        exact q _ (W.put p _) (put_go st np _) (put_st st np _) (new_lst st (Reps.rep rr1 _) np)
      · cases e
    · cases e
  · cases e

/-! ### order -/
def dCmp (p : Int → Int → Bool) (t : List Nat → List Nat → Bool) (S : Sto) : D → D → Option D
  | .p (.int i), .p (.int j) => some (.p (.bl (p i j)))
  | .p (.str x), .p (.str y) => some (.p (.bl (t x.cps.toList y.cps.toList)))
  | _, _ => none
theorem v_cmp {op : CmpOp} {p : Int → Int → Bool} {t : List Nat → List Nat → Bool} (h : OpR X (compareOp op) (rI0 fun i j => .bl (p i j))) (h2 : OpR X (compareOp op) (fun x y H Q => ∃ i j, x = .str i ∧ y = .str j ∧ Q (.bl (t i.cps.toList j.cps.toList)) H)) :
    OpR X (compareOp op) (v2D G (dCmp p t)) := by
  intro pins s σ H x y v u Q I rx ry h'
  obtain ⟨Z, S, W, d1, d2, d, rfl, st, r1, r2, e, q⟩ := h'
  unfold dCmp at e
  split at e
  · cases e
    exact h pins s σ W.H x y v u Q I rx ry ⟨_, _, rep_int r1, rep_int r2, q _ W (Go.refl _ _) st (mk_bl _)⟩
  · cases e
    exact h2 pins s σ W.H x y v u Q I rx ry ⟨_, _, rep_str r1, rep_str r2, q _ W (Go.refl _ _) st (mk_bl _)⟩
  · cases e
abbrev dLt := dCmp (fun i j => decide (i < j)) fun a b => decide (a < b)
abbrev dLe := dCmp (fun i j => decide (i ≤ j)) fun a b => !decide (b < a)
abbrev dGt := dCmp (fun i j => decide (j < i)) fun a b => decide (b < a)
abbrev dGe := dCmp (fun i j => decide (j ≤ i)) fun a b => !decide (a < b)
theorem v_lt : OpR X (compareOp .Lt) (v2D G dLt) := v_cmp op_lt op_lt_str
theorem v_le : OpR X (compareOp .LtE) (v2D G dLe) := v_cmp op_le op_le_str
theorem v_gt : OpR X (compareOp .Gt) (v2D G dGt) := v_cmp op_gt op_gt_str
theorem v_ge : OpR X (compareOp .GtE) (v2D G dGe) := v_cmp op_ge op_ge_str

/-! ### data: ==, in -/
mutual
def toPy : P → Option PyData
  | .non => some .none
  | .bl b => some (.bool b)
  | .int i => some (.int i)
  | .str x => some (.str x)
  | .tup xs => (toPys xs).map .tuple
  | .lst xs => (toPys xs).map .list
  | .fz xs => (toPys xs).map .list
  | _ => none
def toPys : List P → Option (List PyData)
  | [] => some []
  | x :: xs => match toPy x, toPys xs with
    | some d, some ds => some (d :: ds)
    | _, _ => none
end
def toPyD (S : Sto) : D → Option PyData
  | .p x => toPy x
  | .ref i => match S[i]? with
    | some (.lst xs) => (toPys xs).map .list
    | _ => none
  | .fn _ _ _ _ _ => none
mutual
theorem toPy_dp {K : PySem.W.Frag} (hk : K = G.K) : ∀ (x : P) {v : V} {d : PyData}, toPy x = some d → Rep G W x v → Dp K W.H v d
  | .non, v, d, e, r => by simp only [toPy, Option.some.injEq] at e; subst e; simp only [Rep] at r; subst r; exact .non
  | .bl b, v, d, e, r => by simp only [toPy, Option.some.injEq] at e; subst e; simp only [Rep] at r; subst r; exact .bl b
  | .int i, v, d, e, r => by simp only [toPy, Option.some.injEq] at e; subst e; simp only [Rep] at r; subst r; exact .int i
  | .str i, v, d, e, r => by simp only [toPy, Option.some.injEq] at e; subst e; simp only [Rep] at r; subst r; exact .str i
  | .tup xs, v, d, e, r => by
    simp only [toPy, Option.map_eq_some_iff] at e
    obtain ⟨ds, h, rfl⟩ := e
    simp only [Rep] at r
    obtain ⟨a, vs, rfl, t, r⟩ := r
    exact .tup (t.sq hk) (toPys_dp hk xs h r)
  | .lst xs, v, d, e, r => by
    simp only [toPy, Option.map_eq_some_iff] at e
    obtain ⟨ds, h, rfl⟩ := e
    simp only [Rep] at r
    obtain ⟨a, vs, rfl, t, r⟩ := r
    exact .lst t.sq (toPys_dp hk xs h r)
  | .fz xs, v, d, e, r => by
    simp only [toPy, Option.map_eq_some_iff] at e
    obtain ⟨ds, h, rfl⟩ := e
    simp only [Rep] at r
    obtain ⟨a, vs, rfl, t, r⟩ := r
    exact .lst (t.sq hk) (toPys_dp hk xs h r)
  | .dct _ _, v, d, e, r => by simp [toPy] at e
  | .obj _ _ _, v, d, e, r => by simp [toPy] at e
  | .exc _ _ _, v, d, e, r => by simp [toPy] at e
theorem toPys_dp {K : PySem.W.Frag} (hk : K = G.K) : ∀ (xs : List P) {vs : List V} {ds : List PyData}, toPys xs = some ds → Reps G W xs vs → DpAll K W.H vs ds
  | [], vs, ds, e, r => by
    simp only [toPys, Option.some.injEq] at e
    subst e
    cases vs with
    | nil => exact .nil
    | cons _ _ => simp [Reps] at r
  | x :: xs, vs, ds, e, r => by
    cases vs with
    | nil => simp [Reps] at r
    | cons v vs =>
      simp only [Reps] at r
      simp only [toPys] at e
      split at e
      · rename_i d ds' h1 h2
        cases e
        exact .cons (toPy_dp hk x h1 r.1) (toPys_dp hk xs h2 r.2)
      · cases e
end
theorem toPyD_dp {K : PySem.W.Frag} (hk : K = G.K) (st : StRep G W Z S) {x : D} {v : V} {d : PyData} (e : toPyD S x = some d) (r : RepD G W x v) : Dp K W.H v d := by
  cases x with
  | p x => exact toPy_dp hk x e r
  | fn _ _ _ _ _ => simp [toPyD] at e
  | ref i =>
    simp only [toPyD] at e
    split at e
    · rename_i xs hs
      obtain ⟨ds, h, rfl⟩ := Option.map_eq_some_iff.mp e
      simp only [RepD] at r
      obtain ⟨_, _, vs, h1, h2⟩ := st.obj i _ hs rfl
      rw [r.2]
      exact .lst (.inl (.inl h1)) (toPys_dp hk xs h h2)
    · cases e
def dEqB (S : Sto) (x y : D) : Option Bool := match toPyD S x, toPyD S y with
  | some a, some b => if SeqAt.shaped a = true ∧ SeqAt.shaped b = true then some (PyData.eqv a b) else none
  | _, _ => none
def strPair : D → D → Option Bool
  | .p (.str a), .p (.str b) => some (decide (a = b))
  | _, _ => none
theorem strPair_of {x y : D} {b : Bool} (h : strPair x y = some b) : ∃ a c, x = .p (.str a) ∧ y = .p (.str c) ∧ b = decide (a = c) := by
  unfold strPair at h
  split at h
  · cases h; exact ⟨_, _, rfl, rfl, rfl⟩
  · cases h
def dEq (S : Sto) (x y : D) : Option D := match strPair x y with
  | some b => some (.p (.bl b))
  | none => (dEqB S x y).map fun b => .p (.bl b)
def dNe (S : Sto) (x y : D) : Option D := match strPair x y with
  | some b => some (.p (.bl (!b)))
  | none => (dEqB S x y).map fun b => .p (.bl (!b))
theorem dec_str_eq (a c : Str) : decide (V.str a = V.str c) = decide (a = c) := by
  by_cases h : a = c
  · subst h; simp
  · rw [decide_eq_false h, decide_eq_false fun e => h (V.str.inj e)]
theorem dEqB_dp {K : PySem.W.Frag} (hk : K = G.K) (st : StRep G W Z S) {x y : D} {v u : V} {b : Bool} (e : dEqB S x y = some b) (r1 : RepD G W x v) (r2 : RepD G W y u) :
    ∃ d1 d2, Dp K W.H v d1 ∧ Dp K W.H u d2 ∧ SeqAt.shaped d1 = true ∧ SeqAt.shaped d2 = true ∧ b = PyData.eqv d1 d2 := by
  unfold dEqB at e
  split at e
  · rename_i a b' h1 h2
    split at e
    · rename_i hs
      cases e
      exact ⟨a, b', toPyD_dp hk st h1 r1, toPyD_dp hk st h2 r2, hs.1, hs.2, rfl⟩
    · cases e
  · cases e
theorem v_eq (cg : CtxG G X k) : OpR X (compareOp .Eq) (v2D G dEq) := by
  intro pins s σ H x y v u Q I rx ry h'
  obtain ⟨Z, S, W, d1, d2, d, rfl, st, r1, r2, e, q⟩ := h'
  unfold dEq at e
  split at e
  · rename_i b hb
    cases e
    obtain ⟨a, c, rfl, rfl, rfl⟩ := strPair_of hb
    rw [rep_str r1] at rx
    rw [rep_str r2] at ry
    exact op_eq pins s σ W.H _ _ v u Q I rx ry ⟨rfl, by rw [dec_str_eq]; exact q _ W (Go.refl _ _) st (mk_bl _)⟩
  obtain ⟨b, hb, rfl⟩ := Option.map_eq_some_iff.mp e
  obtain ⟨p1, p2, a1, a2, a3, a4, rfl⟩ := dEqB_dp cg.kk st hb r1 r2
  exact op_eqD cg.room.units pins s σ W.H x y v u Q I rx ry ⟨p1, p2, a1, a2, a3, a4, q _ W (Go.refl _ _) st (mk_bl _)⟩
theorem v_ne (cg : CtxG G X k) : OpR X (compareOp .NotEq) (v2D G dNe) := by
  intro pins s σ H x y v u Q I rx ry h'
  obtain ⟨Z, S, W, d1, d2, d, rfl, st, r1, r2, e, q⟩ := h'
  unfold dNe at e
  split at e
  · rename_i b hb
    cases e
    obtain ⟨a, c, rfl, rfl, rfl⟩ := strPair_of hb
    rw [rep_str r1] at rx
    rw [rep_str r2] at ry
    exact op_ne pins s σ W.H _ _ v u Q I rx ry ⟨rfl, by rw [dec_str_eq]; exact q _ W (Go.refl _ _) st (mk_bl _)⟩
  obtain ⟨b, hb, rfl⟩ := Option.map_eq_some_iff.mp e
  obtain ⟨p1, p2, a1, a2, a3, a4, rfl⟩ := dEqB_dp cg.kk st hb r1 r2
  exact op_neD cg.room.units pins s σ W.H x y v u Q I rx ry ⟨p1, p2, a1, a2, a3, a4, q _ W (Go.refl _ _) st (mk_bl _)⟩
end
end Fe

set_option Elab.async false
set_option linter.all false
set_option maxRecDepth 100000
set_option maxHeartbeats 1000000
namespace Fe
open PySem PySem.Spec PyProof.Rows L2

section
variable {G : Gc} {Wx : WX} {Z : Addr → Prop} {W : Wd} {S : Sto} {σ : L2.St} {X : Cx} {k : Nat}
/-! ### in, not in -/
def seqPy (S : Sto) (y : D) : Option (List PyData) := match toPyD S y with
  | some (.list ds) => some ds
  | some (.tuple ds) => some ds
  | _ => none
def dInB (S : Sto) (x y : D) : Option Bool := match toPyD S x, seqPy S y with
  | some d, some ds => if SeqAt.shaped d = true ∧ PyData.canLayAll0 ds = true then some (ds.any fun z => PyData.eqv z d) else none
  | _, _ => none
/-- a sign in a text -/
def dInS : D → D → Option Bool
  | .p (.str x), .p (.str z) => match x.cps.toList with
    | [c] => some (decide (c ∈ z.cps.toList))
    | _ => none
  | _, _ => none
def dInAny (S : Sto) (x y : D) : Option Bool := match dInS x y with
  | some b => some b
  | none => dInB S x y
def dIn (S : Sto) (x y : D) : Option D := (dInAny S x y).map fun b => .p (.bl b)
def dNotIn (S : Sto) (x y : D) : Option D := (dInAny S x y).map fun b => .p (.bl (!b))
theorem dInB_reads (cg : CtxG G X k) (st : StRep G W Z S) {x y : D} {vx vy : V} {v u : Value} {b : Bool} {pins : List (Addr × Obj)} {s : Shared} (I : Inv X pins σ W.H s) (e : dInB S x y = some b) (r1 : RepD G W x vx) (r2 : RepD G W y vy) (rx : RelV vx v) (ry : RelV vy u) :
    ∃ d ds as bs, Reads s.heap v d bs ∧ (Reads s.heap u (.list ds) as ∨ Reads s.heap u (.tuple ds) as) ∧ d.canLay0 = true ∧ PyData.canLayAll0 ds = true ∧ X.A.units + 1 + min (PyData.depthAll ds) d.depth < cLine ∧ b = ds.any fun z => PyData.eqv z d := by
  unfold dInB at e
  split at e
  · rename_i d ds h1 h2
    split at e
    · rename_i hs
      cases e
      obtain ⟨bs, q1⟩ := Dp.reads I d vx v (toPyD_dp cg.kk st h1 r1) rx
      have hu : X.A.units + 65 < cLine := by
        have := cg.room.un
        omega
      have hroom : X.A.units + 1 + min (PyData.depthAll ds) d.depth < cLine := room_in_shaped hs.1 hu
      unfold seqPy at h2
      split at h2
      · rename_i ds' h3
        cases h2
        obtain ⟨as, q2⟩ := Dp.reads I _ vy u (toPyD_dp cg.kk st h3 r2) ry
        exact ⟨d, ds, as, bs, q1, .inl q2, SeqAt.canLay_of_shaped hs.1, hs.2, hroom, rfl⟩
      · rename_i ds' h3
        cases h2
        obtain ⟨as, q2⟩ := Dp.reads I _ vy u (toPyD_dp cg.kk st h3 r2) ry
        exact ⟨d, ds, as, bs, q1, .inr q2, SeqAt.canLay_of_shaped hs.1, hs.2, hroom, rfl⟩
      · cases h2
    · cases e
  · cases e
theorem dInS_rep {x y : D} {vx vy : V} {b : Bool} (e : dInS x y = some b) (r1 : RepD G W x vx) (r2 : RepD G W y vy) : ∃ (c : Nat) (z : Str), vx = .str ⟨#[c]⟩ ∧ vy = .str z ∧ b = decide (c ∈ z.cps.toList) := by
  unfold dInS at e
  split at e
  · rename_i x z
    split at e
    · rename_i c hc
      cases e
      refine ⟨c, z, ?_, rep_str r2, rfl⟩
      have hx : x = ⟨#[c]⟩ := by
        obtain ⟨a⟩ := x
        have : a = #[c] := by
          apply Array.ext'
          exact hc
        rw [this]
      rw [← hx]
      exact rep_str r1
    · cases e
  · cases e
theorem v_in (cg : CtxG G X k) : OpR X (compareOp .In) (v2D G dIn) := by
  intro pins s σ H x y v u Q I rx ry h'
  obtain ⟨Z, S, W, d1, d2, d, rfl, st, r1, r2, e, q⟩ := h'
  obtain ⟨b, hb, rfl⟩ := Option.map_eq_some_iff.mp e
  unfold dInAny at hb
  split at hb
  · rename_i b' h
    cases hb
    obtain ⟨c, z, rfl, rfl, rfl⟩ := dInS_rep h r1 r2
    exact op_in_sign pins s σ W.H _ _ v u Q I rx ry ⟨c, z, rfl, rfl, q _ W (Go.refl _ _) st (mk_bl _)⟩
  · obtain ⟨d, ds, as, bs, q1, q2, c1, c2, hr, rfl⟩ := dInB_reads cg st I hb r1 r2 rx ry
    have fin : EP X pins σ Q (.bool (ds.any fun z => PyData.eqv z d)) s := ⟨.bl _, W.H, I, rfl, q _ W (Go.refl _ _) st (mk_bl _)⟩
    rcases q2 with q2 | q2
    · exact SeqAt.in_list_reads q2 q1 c2 c1 hr fin
    · exact SeqAt.in_tuple_reads q2 q1 c2 c1 hr fin
theorem v_notIn (cg : CtxG G X k) : OpR X (compareOp .NotIn) (v2D G dNotIn) := by
  intro pins s σ H x y v u Q I rx ry h'
  obtain ⟨Z, S, W, d1, d2, d, rfl, st, r1, r2, e, q⟩ := h'
  obtain ⟨b, hb, rfl⟩ := Option.map_eq_some_iff.mp e
  unfold dInAny at hb
  split at hb
  · rename_i b' h
    cases hb
    obtain ⟨c, z, rfl, rfl, rfl⟩ := dInS_rep h r1 r2
    exact op_notIn_sign pins s σ W.H _ _ v u Q I rx ry ⟨c, z, rfl, rfl, q _ W (Go.refl _ _) st (mk_bl _)⟩
  · obtain ⟨d, ds, as, bs, q1, q2, c1, c2, hr, rfl⟩ := dInB_reads cg st I hb r1 r2 rx ry
    have fin : EP X pins σ Q (.bool (!ds.any fun z => PyData.eqv z d)) s := ⟨.bl _, W.H, I, rfl, q _ W (Go.refl _ _) st (mk_bl _)⟩
    rcases q2 with q2 | q2
    · exact SeqAt.notIn_list_reads q2 q1 c2 c1 hr fin
    · exact SeqAt.notIn_tuple_reads q2 q1 c2 c1 hr fin

/-! ### is None, is not None, is a bool -/
def isNon : D → Bool
  | .p .non => true
  | _ => false
def dIs (S : Sto) (x y : D) : Option D := match y with
  | .p .non => some (.p (.bl (isNon x)))
  | .p (.bl b) => match x with
    | .p (.bl a) => some (.p (.bl (decide (a = b))))
    | _ => none
  | _ => none
def dIsNot (S : Sto) (x y : D) : Option D := match y with
  | .p .non => some (.p (.bl (!isNon x)))
  | .p (.bl b) => match x with
    | .p (.bl a) => some (.p (.bl (!decide (a = b))))
    | _ => none
  | _ => none
theorem isNon_rep : ∀ {x : D} {v : V}, RepD G W x v → decide (v = V.non) = isNon x
  | .p .non, v, r => by rw [rep_non r]; rfl
  | .p (.bl b), v, r => by rw [rep_bl r]; rfl
  | .p (.int b), v, r => by rw [rep_int r]; rfl
  | .p (.str b), v, r => by rw [rep_str r]; rfl
  | .p (.tup b), v, r => by obtain ⟨a, vs, rfl, _⟩ := rep_tup r; rfl
  | .p (.lst b), v, r => by obtain ⟨a, vs, rfl, _⟩ := rep_lst r; rfl
  | .p (.fz b), v, r => by
    simp only [RepD, Rep] at r
    obtain ⟨a, vs, rfl, _⟩ := r; rfl
  | .p (.dct _ b), v, r => by
    simp only [RepD, Rep] at r
    obtain ⟨a, vs, rfl, _⟩ := r; rfl
  | .p (.obj _ _ b), v, r => by
    simp only [RepD, Rep] at r
    obtain ⟨a, dx, vs, rfl, _⟩ := r; rfl
  | .p (.exc _ _ b), v, r => by
    simp only [RepD, Rep] at r
    obtain ⟨a, dx, rfl, _⟩ := r; rfl
  | .ref i, v, r => by rw [r.2]; rfl
  | .fn _ _ _ _ _, v, r => by rw [r.1]; rfl
theorem v_is : OpR X (compareOp .Is) (v2D G dIs) := by
  intro pins s σ H x y v u Q I rx ry h'
  obtain ⟨Z, S, W, d1, d2, d, rfl, st, r1, r2, e, q⟩ := h'
  unfold dIs at e
  split at e
  · cases e
    rw [← isNon_rep r1] at q
    exact op_isN pins s σ W.H x y v u Q I rx ry ⟨rep_non r2, q _ W (Go.refl _ _) st (mk_bl _)⟩
  · split at e
    · cases e
      exact op_is_bl pins s σ W.H x y v u Q I rx ry ⟨_, _, rep_bl r1, rep_bl r2, q _ W (Go.refl _ _) st (mk_bl _)⟩
    · cases e
  · cases e
theorem v_isNot : OpR X (compareOp .IsNot) (v2D G dIsNot) := by
  intro pins s σ H x y v u Q I rx ry h'
  obtain ⟨Z, S, W, d1, d2, d, rfl, st, r1, r2, e, q⟩ := h'
  unfold dIsNot at e
  split at e
  · cases e
    rw [← isNon_rep r1] at q
    exact op_notN pins s σ W.H x y v u Q I rx ry ⟨rep_non r2, q _ W (Go.refl _ _) st (mk_bl _)⟩
  · split at e
    · cases e
      exact op_isnot_bl pins s σ W.H x y v u Q I rx ry ⟨_, _, rep_bl r1, rep_bl r2, q _ W (Go.refl _ _) st (mk_bl _)⟩
    · cases e
  · cases e

/-! ### calls of built-ins by name -/
def cApp (g : Sto → List D → Option D) (fa : CA) : CE' := fun env S => (fa env S).bind fun ds S1 => R.ofO S1 (g S1 ds)
theorem cApp_imp {g : Sto → List D → Option D} {fa : CA} : ∀ σ H Q, tM G Wx (cApp g fa) σ H Q → tCB (vsD G g) (tMA G Wx fa) σ H Q := by
  rintro σ H Q ⟨Z, S, W, env, rfl, st, er, p⟩
  refine ⟨Z, S, W, env, rfl, st, er, (seqAE p).mono fun vs H1 h1 => ?_⟩
  obtain ⟨ds, S1, W1, rfl, go1, st1, r1, p1⟩ := h1
  obtain ⟨d, e, q⟩ := ofO_post p1
  exact ⟨Z, S1, W1, ds, d, rfl, st1, r1, e, q⟩
theorem pf_callB {x : Str} {id : String} {g : Sto → List D → Option D} {e : Expr} {es : List Expr} {fa : CA} {p pos : Pos} (hc : CallR X (.builtin id) (vsD G g)) (hm : X.mg x = none) (ha : PFA G X (e :: es) fa) (hg : Gl X x := by rfl) (hv : bootBuiltins x = some (.builtin id) := by decide +kernel)
    (hn : x ≠ "__name__" := by decide) (hdb : (x == ("__debug__" : Str)) = false := by decide) (hs : starEach (e :: es) X.env = (false, eval e X.env) :: starEach es X.env := by rfl) (hpl : (backTo pos (starEach es X.env)).any (·.1) = false := by rfl) :
    PF G X (.Call (.Name x p) (e :: es) [] pos) (cApp g fa) := fun Wx tk => PE.imp (pe_callB hc hg hm hv (ha Wx tk) hn hdb hs hpl) cApp_imp
theorem pf_callTy {x : Str} {T : String} {g : Sto → List D → Option D} {e : Expr} {es : List Expr} {fa : CA} {p pos : Pos} (hc : CallR X (.type T) (vsD G g)) (hm : X.mg x = none) (ha : PFA G X (e :: es) fa) (hg : Gl X x := by rfl) (hv : bootBuiltins x = some (.type T) := by decide +kernel)
    (hn : x ≠ "__name__" := by decide) (hdb : (x == ("__debug__" : Str)) = false := by decide) (hs : starEach (e :: es) X.env = (false, eval e X.env) :: starEach es X.env := by rfl) (hpl : (backTo pos (starEach es X.env)).any (·.1) = false := by rfl) :
    PF G X (.Call (.Name x p) (e :: es) [] pos) (cApp g fa) := fun Wx tk => PE.imp (pe_callTy hc hg hm hv (ha Wx tk) hn hdb hs hpl) cApp_imp
/-- one argument -/
def on1 (g : Sto → D → Option D) (S : Sto) : List D → Option D
  | [x] => g S x
  | _ => none
theorem call1 {f : Value} {g : Sto → D → Option D} (h : ∀ (pins : List (Addr × Obj)) (s : Shared) (σ : L2.St) (x : V) (u : Value) (Q : VK) (Z : Addr → Prop) (S : Sto) (W : Wd) (d1 d : D), Inv X pins σ W.H s → RelV x u → StRep G W Z S → RepD G W d1 x → g S d1 = some d → (∀ v W', Go Z W W' → StRep G W' Z S → RepD G W' d v → Q v W'.H) →
    wpAny (model X.prog X.w) X.A (call f [u]) (EP X pins σ Q) X.xe s) : CallR X f (vsD G (on1 g)) := by
  intro pins s σ H xs us Q I rs h'
  obtain ⟨Z, S, W, ds, d, rfl, st, rd, e, q⟩ := h'
  match ds, xs, rd, e with
  | [d1], [x], rd, e =>
    obtain ⟨u, rfl, ru⟩ := Vals.one rs
    exact h pins s σ x u Q Z S W d1 d I ru st rd.1 e q
  | [], _, _, e => simp [on1] at e
  | _ :: _ :: _, _, _, e => simp [on1] at e
  | [_], [], rd, _ => exact rd.elim
  | [_], _ :: _ :: _, rd, _ => exact rd.2.elim
theorem callOf1 {f : Value} {r : List V → Hp → VK → Prop} {g : Sto → D → Option D} (hr : CallR X f r) (h : ∀ (Q : VK) (Z : Addr → Prop) (S : Sto) (W : Wd) (d1 d : D) (x : V), StRep G W Z S → RepD G W d1 x → g S d1 = some d → (∀ v W', Go Z W W' → StRep G W' Z S → RepD G W' d v → Q v W'.H) → r [x] W.H Q) : CallR X f (vsD G (on1 g)) :=
  call1 fun pins s σ x u Q Z S W d1 d I ru st r1 e q => hr pins s σ W.H [x] [u] Q I (.cons ru .nil) (h Q Z S W d1 d x st r1 e q)
/-- the items of a list or a tuple -/
def asSeq (S : Sto) : D → Option (List P)
  | .p (.tup xs) => some xs
  | d => asL S d
theorem asSeq_rep {K : PySem.W.Frag} (hk : K = G.K) (st : StRep G W Z S) {d : D} {v : V} {ds : List P} (e : asSeq S d = some ds) (r : RepD G W d v) : ∃ a vs, v = .ref a ∧ (SqL K W.H a vs ∨ SqT K W.H a vs) ∧ Reps G W ds vs := by
  unfold asSeq at e
  split at e
  · cases e
    obtain ⟨a, vs, rfl, t, r⟩ := rep_tup r
    exact ⟨a, vs, rfl, .inr (t.sq hk), r⟩
  · obtain ⟨a, vs, rfl, t, r⟩ := asL_rep hk st e r
    exact ⟨a, vs, rfl, .inl t, r⟩
/-- len -/
def dLen (S : Sto) (x : D) : Option D := match x with
  | .p (.str z) => if z.length ≤ sizeLine then some (.p (.int z.length)) else none
  | x => (asSeq S x).map fun xs => .p (.int xs.length)
theorem c_len (cg : CtxG G X k) : CallR X (.builtin "len") (vsD G (on1 dLen)) := by
  refine call1 fun pins s σ x u Q Z S W d1 d I ru st r1 e q => ?_
  unfold dLen at e
  split at e
  · split at e
    · rename_i hz
      cases e
      exact call_len_str pins s σ W.H [x] [u] Q I (.cons ru .nil) ⟨_, by rw [rep_str r1], hz, q _ W (Go.refl _ _) st (mk_int _)⟩
    · cases e
  · obtain ⟨xs, h, rfl⟩ := Option.map_eq_some_iff.mp e
    obtain ⟨a, vs, rfl, t, r⟩ := asSeq_rep cg.kk st h r1
    exact call_len_seq pins s σ W.H _ [u] Q I (.cons ru .nil) ⟨a, vs, rfl, t, q _ W (Go.refl _ _) st (by rw [← Reps.length _ _ r]; exact mk_int _)⟩
/-- all, any of a list of bools -/
def asBools : List P → Option (List Bool)
  | [] => some []
  | .bl b :: xs => (asBools xs).map (b :: ·)
  | _ => none
theorem asBools_rep : ∀ {xs : List P} {bs : List Bool} {vs : List V}, asBools xs = some bs → Reps G W xs vs → vs = bs.map V.bl
  | [], _, [], e, _ => by simp [asBools] at e; subst e; rfl
  | [], _, _ :: _, _, r => by simp [Reps] at r
  | _ :: _, _, [], _, r => by simp [Reps] at r
  | x :: xs, bs, v :: vs, e, r => by
    simp only [Reps] at r
    cases x <;> simp only [asBools, Option.map_eq_some_iff] at e <;> try contradiction
    obtain ⟨cs, h, rfl⟩ := e
    rw [asBools_rep h r.2, List.map_cons]
    congr 1
    simpa only [Rep] using r.1
def dAll (S : Sto) (x : D) : Option D := ((asL S x).bind asBools).map fun bs => .p (.bl (bs.all id))
def dAny (S : Sto) (x : D) : Option D := ((asL S x).bind asBools).map fun bs => .p (.bl (bs.any id))
theorem c_all (cg : CtxG G X k) : CallR X (.builtin "all") (vsD G (on1 dAll)) := callOf1 (cr_all cg.calm) fun Q Z S W d1 d x st r1 e q => by
  obtain ⟨bs, h, rfl⟩ := Option.map_eq_some_iff.mp e
  obtain ⟨xs, h1, h2⟩ := Option.bind_eq_some_iff.mp h
  obtain ⟨a, vs, rfl, t, r⟩ := asL_rep cg.kk st h1 r1
  exact ⟨a, bs, rfl, by rw [← asBools_rep h2 r]; exact t, q _ W (Go.refl _ _) st (mk_bl _)⟩
theorem c_any (cg : CtxG G X k) : CallR X (.builtin "any") (vsD G (on1 dAny)) := callOf1 (cr_any cg.calm) fun Q Z S W d1 d x st r1 e q => by
  obtain ⟨bs, h, rfl⟩ := Option.map_eq_some_iff.mp e
  obtain ⟨xs, h1, h2⟩ := Option.bind_eq_some_iff.mp h
  obtain ⟨a, vs, rfl, t, r⟩ := asL_rep cg.kk st h1 r1
  exact ⟨a, bs, rfl, by rw [← asBools_rep h2 r]; exact t, q _ W (Go.refl _ _) st (mk_bl _)⟩
/-- ints -/
def asInts : List P → Option (List Int)
  | [] => some []
  | .int b :: xs => (asInts xs).map (b :: ·)
  | _ => none
theorem asInts_rep : ∀ {xs : List P} {bs : List Int} {vs : List V}, asInts xs = some bs → Reps G W xs vs → vs = bs.map V.int
  | [], _, [], e, _ => by simp [asInts] at e; subst e; rfl
  | [], _, _ :: _, _, r => by simp [Reps] at r
  | _ :: _, _, [], _, r => by simp [Reps] at r
  | x :: xs, bs, v :: vs, e, r => by
    simp only [Reps] at r
    cases x <;> simp only [asInts, Option.map_eq_some_iff] at e <;> try contradiction
    obtain ⟨cs, h, rfl⟩ := e
    rw [asInts_rep h r.2, List.map_cons]
    congr 1
    simpa only [Rep] using r.1
def dSum (S : Sto) (x : D) : Option D := ((asL S x).bind asInts).map fun bs => .p (.int bs.sum)
theorem c_sum (cg : CtxG G X k) : CallR X (.builtin "sum") (vsD G (on1 dSum)) := callOf1 (cr_sum cg.calm) fun Q Z S W d1 d x st r1 e q => by
  obtain ⟨bs, h, rfl⟩ := Option.map_eq_some_iff.mp e
  obtain ⟨xs, h1, h2⟩ := Option.bind_eq_some_iff.mp h
  obtain ⟨a, vs, rfl, t, r⟩ := asL_rep cg.kk st h1 r1
  exact ⟨a, bs, rfl, by rw [← asInts_rep h2 r]; exact t, q _ W (Go.refl _ _) st (mk_int _)⟩
/-- int of an int, of a bool, of digits -/
def dInt (S : Sto) (x : D) : Option D := match x with
  | .p (.int i) => some (.p (.int i))
  | .p (.bl b) => some (.p (.int (if b = true then 1 else 0)))
  | .p (.str z) => if z.length ≤ 640 then (PySem.intText? z).map fun n => .p (.int n) else none
  | _ => none
theorem c_int : CallR X (.type "int") (vsD G (on1 dInt)) := call1 fun pins s σ x u Q Z S W d1 d I ru st r1 e q => by
  unfold dInt at e
  split at e
  · cases e
    exact call_int1 pins s σ W.H [x] [u] Q I (.cons ru .nil) (.inl ⟨_, by rw [rep_int r1], q _ W (Go.refl _ _) st (mk_int _)⟩)
  · cases e
    exact call_int1 pins s σ W.H [x] [u] Q I (.cons ru .nil) (.inr ⟨_, by rw [rep_bl r1], q _ W (Go.refl _ _) st (mk_int _)⟩)
  · split at e
    · rename_i hz
      obtain ⟨n, h, rfl⟩ := Option.map_eq_some_iff.mp e
      exact call_int_str pins s σ W.H [x] [u] Q I (.cons ru .nil) ⟨_, n, by rw [rep_str r1], h, hz, q _ W (Go.refl _ _) st (mk_int _)⟩
    · cases e
  · cases e
def dAbs (S : Sto) (x : D) : Option D := match x with
  | .p (.int i) => some (.p (.int (if i < 0 then -i else i)))
  | _ => none
theorem c_abs : CallR X (.builtin "abs") (vsD G (on1 dAbs)) := callOf1 call_abs fun Q Z S W d1 d x st r1 e q => by
  unfold dAbs at e
  split at e
  · cases e
    exact ⟨_, by rw [rep_int r1], q _ W (Go.refl _ _) st (mk_int _)⟩
  · cases e
/-- tuple(x), list(x) of a list or a tuple -/
def dTuple (S : Sto) (x : D) : Option D := (asSeq S x).map fun xs => .p (.tup xs)
def dList (S : Sto) (x : D) : Option D := (asSeq S x).map fun xs => .p (.lst xs)
theorem c_tuple (cg : CtxG G X k) : CallR X (.type "tuple") (vsD G (on1 dTuple)) := callOf1 call_tuple_of fun Q Z S W d1 d x st r1 e q => by
  obtain ⟨xs, h, rfl⟩ := Option.map_eq_some_iff.mp e
  unfold asSeq at h
  split at h
  · cases h
    obtain ⟨a, vs, rfl, t, r⟩ := rep_tup r1
    exact ⟨a, vs, rfl, .inr ⟨t.sq cg.kk, q _ W (Go.refl _ _) st r1⟩⟩
  · obtain ⟨a, vs, rfl, t, r⟩ := asL_rep cg.kk st h r1
    exact ⟨a, vs, rfl, .inl ⟨t, fun p np => q _ (W.put p _) (put_go st np _) (put_st st np _) (new_tup st r np)⟩⟩
theorem c_list (cg : CtxG G X k) : CallR X (.type "list") (vsD G (on1 dList)) := callOf1 call_list_of fun Q Z S W d1 d x st r1 e q => by
  obtain ⟨xs, h, rfl⟩ := Option.map_eq_some_iff.mp e
  obtain ⟨a, vs, rfl, t, r⟩ := asSeq_rep cg.kk st h r1
  exact ⟨a, vs, rfl, t, fun p np => q _ (W.put p _) (put_go st np _) (put_st st np _) (new_lst st r np)⟩
/-- max, min: of two ints; of a list or a tuple of ints -/
def maxI (x : Int) (xs : List Int) : Int := xs.foldl (fun a y => if a < y then y else a) x
def minI (x : Int) (xs : List Int) : Int := xs.foldl (fun a y => if y < a then y else a) x
def dMax (S : Sto) : List D → Option D
  | [.p (.int i), .p (.int j)] => some (.p (.int (if j > i then j else i)))
  | _ => none
def dMin (S : Sto) : List D → Option D
  | [.p (.int i), .p (.int j)] => some (.p (.int (if j < i then j else i)))
  | _ => none
theorem two_rep {x y : D} {xs : List V} (rd : RepDs G W [x, y] xs) : ∃ v w, xs = [v, w] ∧ RepD G W x v ∧ RepD G W y w := by
  match xs, rd with
  | [v, w], rd => exact ⟨v, w, rfl, rd.1, rd.2.1⟩
  | [], rd => exact rd.elim
  | [_], rd => exact rd.2.elim
  | _ :: _ :: _ :: _, rd => exact rd.2.2.elim
theorem c_max2 (cg : CtxG G X k) : CallR X (.builtin "max") (vsD G dMax) := by
  intro pins s σ H xs us Q I rs h'
  obtain ⟨Z, S, W, ds, d, rfl, st, rd, e, q⟩ := h'
  unfold dMax at e
  split at e
  · cases e
    obtain ⟨v, w, rfl, r1, r2⟩ := two_rep rd
    exact call_max2 cg.calm pins s σ W.H _ us Q I rs ⟨_, _, by rw [rep_int r1, rep_int r2], q _ W (Go.refl _ _) st (mk_int _)⟩
  · cases e
theorem c_min2 (cg : CtxG G X k) : CallR X (.builtin "min") (vsD G dMin) := by
  intro pins s σ H xs us Q I rs h'
  obtain ⟨Z, S, W, ds, d, rfl, st, rd, e, q⟩ := h'
  unfold dMin at e
  split at e
  · cases e
    obtain ⟨v, w, rfl, r1, r2⟩ := two_rep rd
    exact call_min2 cg.calm pins s σ W.H _ us Q I rs ⟨_, _, by rw [rep_int r1, rep_int r2], q _ W (Go.refl _ _) st (mk_int _)⟩
  · cases e
end
end Fe

set_option Elab.async false
set_option linter.all false
set_option maxRecDepth 100000
set_option maxHeartbeats 1000000
namespace Fe
open PySem PySem.Spec PyProof.Rows L2

section
variable {G : Gc} {Wx : WX} {Z : Addr → Prop} {W : Wd} {S : Sto} {σ : L2.St} {X : Cx} {k : Nat}
/-! ### a[i] -/
theorem atI_rep {xs : List P} {vs : List V} {i : Int} {x : P} (e : atI xs i = some x) (r : Reps G W xs vs) : ∃ v, atI vs i = some v ∧ Rep G W x v := by
  have l := Reps.length _ _ r
  unfold atI at e ⊢
  rw [← l]
  cases h : ixN xs.length i with
  | none => rw [h] at e; cases e
  | some j =>
    rw [h] at e
    exact Reps.get _ _ r e
def dIx (S : Sto) (x y : D) : Option D := match y with
  | .p (.int i) => match x with
    | .p (.str z) => if z.length ≤ sizeLine then (atI z.cps.toList i).map fun c => .p (.str ⟨#[c]⟩) else none
    | x => ((asSeq S x).bind fun xs => atI xs i).map D.p
  | _ => none
theorem ix_any (cg : CtxG G X k) : IxR X (v2D G dIx) := by
  intro value slice pins s σ H x y v u Q I rx ry h' hs
  obtain ⟨Z, S, W, d1, d2, d, rfl, st, r1, r2, e, q⟩ := h'
  unfold dIx at e
  split at e
  · rename_i i
    have hy := rep_int r2
    split at e
    · split at e
      · rename_i z hz
        obtain ⟨c, hc, rfl⟩ := Option.map_eq_some_iff.mp e
        exact ix_str value slice pins s σ W.H x y v u Q I rx ry ⟨_, i, c, rep_str r1, hy, hz, hc, q _ W (Go.refl _ _) st (mk_str _)⟩ hs
      · cases e
    · obtain ⟨p, hp, rfl⟩ := Option.map_eq_some_iff.mp e
      obtain ⟨xs, h1, h2⟩ := Option.bind_eq_some_iff.mp hp
      obtain ⟨a, vs, rfl, t, r⟩ := asSeq_rep cg.kk st h1 r1
      obtain ⟨w, hw, rw'⟩ := atI_rep h2 r
      rcases t with t | t
      · exact ix_list value slice pins s σ W.H _ y v u Q I rx ry ⟨a, vs, i, w, rfl, hy, t, hw, q _ W (Go.refl _ _) st rw'⟩ hs
      · exact ix_tup value slice pins s σ W.H _ y v u Q I rx ry ⟨a, vs, i, w, rfl, hy, t, hw, q _ W (Go.refl _ _) st rw'⟩ hs
  · cases e
theorem pf_ix {a b : Expr} {fa fb : CE'} {pos : Pos} (cg : CtxG G X k) (ha : PF G X a fa) (hb : PF G X b fb) (hs : PlainIx b := by exact fun _ _ => rfl) : PF G X (.Subscript a b pos) (cOp dIx fa fb) :=
  fun Wx tk => PE.imp (pe_ix (ix_any cg) (ha Wx tk) (hb Wx tk) hs) cOp_imp

/-! ### slices -/
def cutP {α : Type} (xs : List α) (lo hi : Option Int) : List α := (xs.drop (HT.sIx xs.length 0 lo)).take (HT.sIx xs.length xs.length hi - HT.sIx xs.length 0 lo)
theorem cut_rep {xs : List P} {vs : List V} (r : Reps G W xs vs) (lo hi : Option Int) : Reps G W (cutP xs lo hi) (cutV vs lo hi) := by
  unfold cutP cutV
  rw [Reps.length _ _ r]
  exact Reps.take _ _ _ (Reps.drop _ _ _ r)
theorem cut_whole {xs : List P} {lo hi : Option Int} (h : HT.sIx xs.length 0 lo = 0 ∧ HT.sIx xs.length xs.length hi = xs.length) : cutP xs lo hi = xs := by
  unfold cutP
  rw [h.1, h.2, List.drop_zero, Nat.sub_zero, List.take_length]
def dSl (S : Sto) (x : D) (lo hi : Option Int) : Option D := match x with
  | .p (.str z) => if z.length ≤ sizeLine then some (.p (.str (cutS z lo hi))) else none
  | .p (.tup xs) => some (.p (.tup (cutP xs lo hi)))
  | x => (asL S x).map fun xs => .p (.lst (cutP xs lo hi))
def vSl (G : Gc) : V → Option Int → Option Int → Hp → VK → Prop := fun x lo hi H Q => ∃ Z S W d1 d, W.H = H ∧ StRep G W Z S ∧ RepD G W d1 x ∧ dSl S d1 lo hi = some d ∧ ∀ v W', Go Z W W' → StRep G W' Z S → RepD G W' d v → Q v W'.H
theorem sl_any (cg : CtxG G X k) : SlR X (vSl G) := by
  intro pins s σ H x v vl vu lo hi sl Q I rx hs pl pu h'
  obtain ⟨Z, S, W, d1, d, rfl, st, r1, e, q⟩ := h'
  unfold dSl at e
  split at e
  · split at e
    · rename_i hz
      cases e
      exact sl_str pins s σ W.H x v vl vu lo hi sl Q I rx hs pl pu ⟨_, rep_str r1, hz, q _ W (Go.refl _ _) st (mk_str _)⟩
    · cases e
  · rename_i xs
    cases e
    obtain ⟨a, vs, rfl, t, r⟩ := rep_tup r1
    have l := Reps.length _ _ r
    refine sl_tupA pins s σ W.H _ v vl vu lo hi sl Q I rx hs pl pu ⟨a, vs, rfl, t.sq cg.kk, fun hw => ?_, fun _ p np => ?_⟩
    · rw [cut_whole (by rw [l]; exact hw)] at q
      exact q _ W (Go.refl _ _) st r1
    · exact q _ (W.put p _) (put_go st np _) (put_st st np _) (new_tup st (cut_rep r lo hi) np)
  · obtain ⟨xs, h, rfl⟩ := Option.map_eq_some_iff.mp e
    obtain ⟨a, vs, rfl, t, r⟩ := asL_rep cg.kk st h r1
    exact sl_list pins s σ W.H _ v vl vu lo hi sl Q I rx hs pl pu ⟨a, vs, rfl, t, fun p np => q _ (W.put p _) (put_go st np _) (put_st st np _) (new_lst st (cut_rep r lo hi) np)⟩
abbrev CO := DEnv → Sto → R (Option Int)
def PostO (G : Gc) (Wx : WX) (Z : Addr → Prop) (W : Wd) (σ : L2.St) (Q : Option Int → Hp → Prop) : R (Option Int) → Prop
  | .ok b S' => ∀ W', Go Z W W' → StRep G W' Z S' → Q b W'.H
  | .exc c ns ds S' => ∀ cls dx W', Go Z W W' → StRep G W' Z S' → ExcR G W' c ns ds cls dx → Wx cls dx σ W'.H
  | .bad => False
def tMO (G : Gc) (Wx : WX) (f : CO) : TO := fun σ H Q => ∃ Z S W env, W.H = H ∧ StRep G W Z S ∧ EnvR G W env σ ∧ PostO G Wx Z W σ Q (f env S)
def PFO (G : Gc) (X : Cx) (e : Option Expr) (f : CO) : Prop := ∀ Wx, Takes X Wx → PO X e (tMO G Wx f)
theorem PO.imp {e : Option Expr} {t t' : TO} (h : PO X e t) (i : ∀ σ H Q, t' σ H Q → t σ H Q) : PO X e t' := ⟨fun pins s σ H Q I q => h.run pins s σ H Q I (i _ _ _ q)⟩
def oNone : CO := fun _ S => .ok none S
def asI : D → Option Int
  | .p (.int i) => some i
  | _ => none
def oSome (f : CE') : CO := fun env S => (f env S).bind fun d S1 => match asI d with
  | some i => .ok (some i) S1
  | none => .bad
theorem pfo_none : PFO G X none oNone := fun Wx tk => PO.imp po_none fun σ H Q h => by
  obtain ⟨Z, S, W, env, rfl, st, er, p⟩ := h
  exact p W (Go.refl _ _) st
theorem pfo_some {e : Expr} {f : CE'} (h : PF G X e f) : PFO G X (some e) (oSome f) := fun Wx tk => by
  refine PO.imp (po_some (h Wx tk)) fun σ H Q h => ?_
  obtain ⟨Z, S, W, env, rfl, st, er, p⟩ := h
  refine ⟨Z, S, W, env, rfl, st, er, ?_⟩
  unfold oSome at p
  cases hf : f env S with
  | bad => rw [hf] at p; exact p
  | exc c ns ds S' => rw [hf] at p; exact p
  | ok d S1 =>
    rw [hf] at p
    simp only [R.bind_ok] at p
    intro v W1 go1 st1 r1
    cases d with
    | ref i => exact p.elim
    | fn _ _ _ _ _ => exact p.elim
    | p x => cases x <;> first | exact p.elim | exact ⟨_, rep_int r1, p W1 go1 st1⟩
def R.bindO {α : Type} (r : R (Option Int)) (k : Option Int → Sto → R α) : R α := match r with
  | .ok a S => k a S
  | .exc c ns ds S => .exc c ns ds S
  | .bad => .bad
def cSl (f : CE') (fl fh : CO) : CE' := fun env S => (f env S).bind fun d S1 => (fl env S1).bind fun l S2 => (fh env S2).bind fun h S3 => R.ofO S3 (dSl S3 d l h)
theorem seqOE {Q : VK} {r : R (Option Int)} {kk : Option Int → Sto → R D} (h : PostE G Wx Z W σ Q (r.bind kk)) : PostO G Wx Z W σ (fun o H1 => ∃ S1 W1, W1.H = H1 ∧ Go Z W W1 ∧ StRep G W1 Z S1 ∧ PostE G Wx Z W1 σ Q (kk o S1)) r := by
  cases r with
  | bad => exact h
  | exc c ns ds S' => exact h
  | ok d S' => exact fun W1 go st => ⟨S', W1, rfl, go, st, PostE.shift go h⟩
theorem PostO.mono {Q Q' : Option Int → Hp → Prop} {r : R (Option Int)} (h : PostO G Wx Z W σ Q r) (i : ∀ v H, Q v H → Q' v H) : PostO G Wx Z W σ Q' r := by
  cases r with
  | bad => exact h
  | ok d S' => exact fun W' g s => i _ _ (h W' g s)
  | exc c ns ds S' => exact h
theorem pf_slice {a : Expr} {lo hi : Option Expr} {f : CE'} {fl fh : CO} {pos p2 : Pos} (cg : CtxG G X k) (ha : PF G X a f) (hl : PFO G X lo fl) (hh : PFO G X hi fh) : PF G X (.Subscript a (.Slice lo hi none p2) pos) (cSl f fl fh) := fun Wx tk => by
  refine PE.imp (pe_slice (sl_any cg) (ha Wx tk) (hl Wx tk) (hh Wx tk)) fun σ H Q h => ?_
  obtain ⟨Z, S, W, env, rfl, st, er, p⟩ := h
  refine ⟨Z, S, W, env, rfl, st, er, (seqEE p).mono fun v H1 h1 => ?_⟩
  obtain ⟨d1, S1, W1, rfl, go1, st1, r1, p1⟩ := h1
  refine ⟨Z, S1, W1, env, rfl, st1, er.ext go1.toExt, (seqOE p1).mono fun l H2 h2 => ?_⟩
  obtain ⟨S2, W2, rfl, go2, st2, p2⟩ := h2
  refine ⟨Z, S2, W2, env, rfl, st2, (er.ext go1.toExt).ext go2.toExt, (seqOE p2).mono fun h H3 h3 => ?_⟩
  obtain ⟨S3, W3, rfl, go3, st3, p3⟩ := h3
  obtain ⟨d, e, q⟩ := ofO_post p3
  exact ⟨Z, S3, W3, d1, d, rfl, st3, RepD.ext go3.toExt (RepD.ext go2.toExt r1), e, q⟩

/-! ### sources -/
/-- a value that is walked: an iterator of the heap comes -/
theorem pi_val {tg e : Expr} {f : CE'} {g : Sto → D → Option (List P × (Sto → Bool))} (he : PF G X e f)
    (h : ∀ (pins : List (Addr × Obj)) (s : Shared) (σ : L2.St) (v : V) (u : Value) (Z : Addr → Prop) (S : Sto) (W : Wd) (d : D) (ds : List P) (chk : Sto → Bool) (Rr : It → Hp → Prop) (E : Value → Shared → Prop), Inv X pins σ W.H s → RelV v u → StRep G W Z S → RepD G W d v → g S d = some (ds, chk) →
      (∀ J W', Go Z W W' → StRep G W' Z S → ItD G W' J ds chk → Rr J W'.H) → wpAny (model X.prog X.w) X.A (pyIter u) (PIE X pins σ tg Rr) E s) : PFI G X tg e (fun env S => (f env S).bind fun d S1 => R.ofO S1 (g S1 d)) := fun Wx tk => by
  refine ⟨fun pins s σ H Rr I hw => ?_⟩
  obtain ⟨Z, S, W, env, rfl, st, er, p⟩ := hw
  dsimp only at p
  cases hf : f env S with
  | bad => rw [hf] at p; exact p.elim
  | exc c ns ds S' =>
    rw [hf] at p
    refine thn ((he Wx tk).run pins s σ W.H (fun _ _ => False) I ⟨Z, S, W, env, rfl, st, er, by rw [hf]; exact p⟩) fun v s1 h1 => ?_
    obtain ⟨_, _, _, _, q⟩ := h1
    exact q.elim
  | ok d S1 =>
    rw [hf] at p
    simp only [R.bind_ok] at p
    cases hg : g S1 d with
    | none => rw [hg] at p; exact p.elim
    | some q =>
      obtain ⟨ds, chk⟩ := q
      rw [hg] at p
      refine thn ((he Wx tk).run pins s σ W.H (ThenE G Z W fun d' S1' W1 => d' = d ∧ S1' = S1) I ⟨Z, S, W, env, rfl, st, er, by rw [hf]; exact fun v W1 go st r => ⟨d, S1, W1, rfl, go, st, r, rfl, rfl⟩⟩) fun u s1 h1 => ?_
      obtain ⟨v, H1, I1, rv, d', S1', W1, rfl, go1, st1, r1, rfl, rfl⟩ := h1
      exact h pins s1 σ v u Z S1' W1 d' ds chk Rr _ I1 rv st1 r1 hg fun J W' go' st' it => p J W' (go1.trans go') st' it
theorem piL {tg : Expr} {pins : List (Addr × Obj)} {s : Shared} {σ : L2.St} {H : Hp} {a : Addr} {vs : List V} {Rr : It → Hp → Prop} {E : Value → Shared → Prop} (I : Inv X pins σ H s) (hq : SqL X.K H a vs) (q : Rr (Itl X.K a) H) :
    wpAny (model X.prog X.w) X.A (pyIter (.ref a)) (PIE X pins σ tg Rr) E s := by
  obtain ⟨its, rv, p, hz⟩ := I.list hq
  refine wpAny_pyIter_list p.isList ?_
  refine ⟨s.heap.objs.size, [s.heap.objs.size], _, _, H, rfl, I.kept (t' := s.toks) fun b o e => Heap.get?_push_of_some _ e, turn_list a _, ⟨_, Heap.get?_push_size _ rfl, rfl, rfl⟩, fun b hb => ?_, q⟩
  have e : b = s.heap.objs.size := by simpa using hb
  subst e
  exact I.fpOk (Nat.le_refl _) (I.hok.fresh (Nat.le_refl _))
theorem piT {tg : Expr} {pins : List (Addr × Obj)} {s : Shared} {σ : L2.St} {H : Hp} {a : Addr} {vs : List V} {Rr : It → Hp → Prop} {E : Value → Shared → Prop} (I : Inv X pins σ H s) (hq : SqT X.K H a vs) (q : Rr (Itt X.K a) H) :
    wpAny (model X.prog X.w) X.A (pyIter (.ref a)) (PIE X pins σ tg Rr) E s := by
  obtain ⟨its, rv, p, hz⟩ := I.tuple hq
  refine wpAny_pyIter_tuple (show s.heap.IsTuple a its.toArray from p) ?_
  refine ⟨s.heap.objs.size, [s.heap.objs.size], _, _, H, rfl, I.kept (t' := s.toks) fun b o e => Heap.get?_push_of_some _ e, turn_tuple a _, ⟨_, Heap.get?_push_size _ rfl, rfl, rfl⟩, fun b hb => ?_, q⟩
  have e : b = s.heap.objs.size := by simpa using hb
  subst e
  exact I.fpOk (Nat.le_refl _) (I.hok.fresh (Nat.le_refl _))
/-- a list, a tuple, or a place that holds a list and is not written while it is walked -/
def ckL (i : Nat) (xs : List P) (S : Sto) : Bool := match S[i]? with
  | some (.lst ys) => decide (xs.length = ys.length) && true
  | _ => false
def srcG (S : Sto) (d : D) : Option (List P × (Sto → Bool)) := (itemsOf d).map fun xs => (xs, ckT)
def iSeq (f : CE') : CI := fun env S => (f env S).bind fun d S1 => R.ofO S1 (srcG S1 d)
theorem pfi_seq {tg e : Expr} {f : CE'} (cg : CtxG G X k) (he : PF G X e f) : PFI G X tg e (iSeq f) := pi_val he fun pins s σ v u Z S W d ds chk Rr E I rv st r e q => by
  unfold srcG at e
  obtain ⟨xs, h, e⟩ := Option.map_eq_some_iff.mp e
  cases e
  unfold itemsOf at h
  split at h
  · cases h
    obtain ⟨a, vs, rfl, t, r⟩ := rep_lst r
    cases rv
    exact piL I t.sq (q _ W (Go.refl _ _) st (itd_lst (fun W' x => (t.ext x).sq) r))
  · cases h
    simp only [RepD, Rep] at r
    obtain ⟨a, vs, rfl, t, r⟩ := r
    cases rv
    exact piL I (t.sq cg.kk) (q _ W (Go.refl _ _) st (itd_lst (fun W' x => (t.ext x).sq cg.kk) r))
  · cases h
    obtain ⟨a, vs, rfl, t, r⟩ := rep_tup r
    cases rv
    exact piT I (t.sq cg.kk) (q _ W (Go.refl _ _) st (itd_tup cg t r))
  · cases h
/-- a text, sign by sign -/
def signs (z : Str) : List P := z.cps.toList.map fun c => .str ⟨#[c]⟩
def asS : D → Option Str
  | .p (.str z) => some z
  | _ => none
theorem asS_rep {d : D} {v : V} {z : Str} (e : asS d = some z) (r : RepD G W d v) : v = .str z := by
  unfold asS at e
  split at e
  · cases e; exact rep_str r
  · cases e
def iTxt (f : CE') : CI := fun env S => (f env S).bind fun d S1 => R.ofO S1 ((asS d).map fun z => (signs z, ckT))
theorem pfi_txt {tg e : Expr} {f : CE'} (he : PF G X e f) : PFI G X tg e (iTxt f) := fun Wx tk => by
  refine PI.imp (pi_str (he Wx tk)) fun σ H Rr h => ?_
  obtain ⟨Z, S, W, env, rfl, st, er, p⟩ := h
  refine ⟨Z, S, W, env, rfl, st, er, ?_⟩
  unfold iTxt at p
  cases hf : f env S with
  | bad => rw [hf] at p; exact p
  | exc c ns ds S' => rw [hf] at p; exact p
  | ok d S1 =>
    rw [hf] at p
    simp only [R.bind_ok] at p
    intro v W1 go1 st1 r1
    cases hz : asS d with
    | none => rw [hz] at p; exact p.elim
    | some z =>
      rw [hz] at p
      refine ⟨z, asS_rep hz r1, p _ W1 go1 st1 fun Z2 W2 S2 ex st2 _ => ⟨fun i hi => by show i < z.cps.size; simpa [signs] using hi, by simp [signs, Its], fun i d x H' e hy => ?_⟩⟩
      obtain ⟨rfl, c, hc, rfl⟩ := hy
      refine ⟨W2, rfl, Go.refl _ _, st2, ?_⟩
      simp only [signs, List.getElem?_map, Option.map_eq_some_iff] at e
      obtain ⟨c', h1, rfl⟩ := e
      have : c' = c := by
        rw [Array.getElem?_toList, hc] at h1
        exact (Option.some.inj h1).symm
      subst this
      simp only [Rep]
/-- range -/
def rngP (lo : Int) (n : Nat) : List P := (List.range n).map fun i => .int (lo + (i : Nat))
theorem itd_rng {lo : Int} {n : Nat} {W0 : Wd} : ItD G W0 (Itr lo n) (rngP lo n) ckT := fun Z W S ex st _ => by
  refine ⟨fun i hi => by show i < n; simpa [rngP] using hi, by simp [rngP, Itr], fun i d x H' e hy => ?_⟩
  obtain ⟨rfl, rfl⟩ := hy
  refine ⟨W, rfl, Go.refl _ _, st, ?_⟩
  simp only [rngP, List.getElem?_map, Option.map_eq_some_iff] at e
  obtain ⟨j, h1, rfl⟩ := e
  have : j = i := by
    have h2 := List.getElem?_eq_some_iff.mp h1
    obtain ⟨h3, h4⟩ := h2
    rw [List.getElem_range] at h4
    exact h4.symm
  subst this
  simp only [Rep]
def asI1 : List D → Option Int
  | [.p (.int j)] => if -(2 ^ 62) ≤ j ∧ j < 2 ^ 62 then some j else none
  | _ => none
def asI2 : List D → Option (Int × Int)
  | [.p (.int i), .p (.int j)] => if -(2 ^ 62) ≤ i ∧ i < 2 ^ 62 ∧ -(2 ^ 62) ≤ j ∧ j < 2 ^ 62 then some (i, j) else none
  | _ => none
def iRange1 (f : CA) : CI := fun env S => (f env S).bind fun ds S1 => R.ofO S1 ((asI1 ds).map fun j => (rngP 0 j.toNat, ckT))
def iRange2 (f : CA) : CI := fun env S => (f env S).bind fun ds S1 => R.ofO S1 ((asI2 ds).map fun q => (rngP q.1 (q.2 - q.1).toNat, ckT))
theorem pfi_range1 {tg a : Expr} {f : CA} {p pos : Pos} (hm : X.mg "range" = none) (ha : PFA G X [a] f) (hg : Gl X "range" := by rfl) (hs : starEach [a] X.env = [(false, eval a X.env)] := by rfl) : PFI G X tg (.Call (.Name "range" p) [a] [] pos) (iRange1 f) := fun Wx tk => by
  refine PI.imp (pi_range1 hg hm (ha Wx tk) hs) fun σ H Rr h => ?_
  obtain ⟨Z, S, W, env, rfl, st, er, p⟩ := h
  refine ⟨Z, S, W, env, rfl, st, er, ?_⟩
  unfold iRange1 at p
  cases hf : f env S with
  | bad => rw [hf] at p; exact p
  | exc c ns ds S' => rw [hf] at p; exact p
  | ok ds S1 =>
    rw [hf] at p
    simp only [R.bind_ok] at p
    intro vs W1 go1 st1 r1
    cases hj : asI1 ds with
    | none => rw [hj] at p; exact p.elim
    | some j =>
      rw [hj] at p
      unfold asI1 at hj
      split at hj
      · split at hj
        · rename_i hb
          cases hj
          match vs, r1 with
          | [v], r1 => exact ⟨j, by rw [rep_int r1.1], hb.1, hb.2, p _ W1 go1 st1 itd_rng⟩
          | [], r1 => exact r1.elim
          | _ :: _ :: _, r1 => exact r1.2.elim
        · cases hj
      · cases hj
theorem pfi_range2 {tg a b : Expr} {f : CA} {p pos : Pos} (hm : X.mg "range" = none) (ha : PFA G X [a, b] f) (hg : Gl X "range" := by rfl) (hs : starEach [a, b] X.env = [(false, eval a X.env), (false, eval b X.env)] := by rfl) (hs2 : starEach [b] X.env = [(false, eval b X.env)] := by rfl) :
    PFI G X tg (.Call (.Name "range" p) [a, b] [] pos) (iRange2 f) := fun Wx tk => by
  refine PI.imp (pi_range2 hg hm (ha Wx tk) hs hs2) fun σ H Rr h => ?_
  obtain ⟨Z, S, W, env, rfl, st, er, p⟩ := h
  refine ⟨Z, S, W, env, rfl, st, er, ?_⟩
  unfold iRange2 at p
  cases hf : f env S with
  | bad => rw [hf] at p; exact p
  | exc c ns ds S' => rw [hf] at p; exact p
  | ok ds S1 =>
    rw [hf] at p
    simp only [R.bind_ok] at p
    intro vs W1 go1 st1 r1
    cases hj : asI2 ds with
    | none => rw [hj] at p; exact p.elim
    | some ij =>
      obtain ⟨i, j⟩ := ij
      rw [hj] at p
      unfold asI2 at hj
      split at hj
      · split at hj
        · rename_i hb
          cases hj
          obtain ⟨v, w, rfl, q1, q2⟩ := two_rep r1
          exact ⟨i, j, by rw [rep_int q1, rep_int q2], ⟨hb.1, hb.2.1, hb.2.2.1, hb.2.2.2⟩, p _ W1 go1 st1 itd_rng⟩
        · cases hj
      · cases hj
end
end Fe

set_option Elab.async false
set_option linter.all false
set_option maxRecDepth 100000
set_option maxHeartbeats 1000000
namespace Fe
open PySem PySem.Spec PyProof.Rows L2

section
variable {G : Gc} {Wx : WX} {Z : Addr → Prop} {W : Wd} {S : Sto} {σ : L2.St} {X : Cx} {k : Nat}
/-! ### enumerate -/
def enumP : Nat → List P → List P
  | _, [] => []
  | i, x :: xs => .tup [.int (i : Nat), x] :: enumP (i + 1) xs
theorem enumP_length : ∀ (i : Nat) (xs : List P), (enumP i xs).length = xs.length
  | _, [] => rfl
  | i, x :: xs => by simp [enumP, enumP_length (i + 1) xs]
theorem enumP_get : ∀ (i j : Nat) (xs : List P) (d : P), (enumP i xs)[j]? = some d → ∃ x, xs[j]? = some x ∧ d = .tup [.int ((i + j : Nat) : Int), x]
  | _, j, [], d, h => by simp [enumP] at h
  | i, 0, x :: xs, d, h => by
    simp [enumP] at h
    exact ⟨x, rfl, h.symm⟩
  | i, j + 1, x :: xs, d, h => by
    simp only [enumP, List.getElem?_cons_succ] at h
    obtain ⟨y, h1, h2⟩ := enumP_get (i + 1) j xs d h
    exact ⟨y, by simpa using h1, by rw [h2]; congr 3; omega⟩
def asL1 (S : Sto) : List D → Option (List P)
  | [d] => match d with
    | .p (.lst xs) => some xs
    | .p (.fz xs) => some xs
    | _ => none
  | _ => none
def iEnumP (f : CA) : CI := fun env S => (f env S).bind fun ds S1 => R.ofO S1 ((asL1 S1 ds).map fun xs => (enumP 0 xs, ckT))
theorem asL1_rep (cg : CtxG G X k) {ds : List D} {vs : List V} {xs : List P} (e : asL1 S ds = some xs) (r : RepDs G W ds vs) : ∃ a us, vs = [.ref a] ∧ (∀ W', Ext W W' → SqL X.K W'.H a us) ∧ Reps G W xs us := by
  unfold asL1 at e
  split at e
  · rename_i d
    match vs, r with
    | [v], r =>
      split at e
      · cases e
        obtain ⟨a, us, rfl, t, r⟩ := rep_lst r.1
        exact ⟨a, us, rfl, fun W' x => (t.ext x).sq, r⟩
      · cases e
        have r1 := r.1
        simp only [RepD, Rep] at r1
        obtain ⟨a, us, rfl, t, r⟩ := r1
        exact ⟨a, us, rfl, fun W' x => (t.ext x).sq cg.kk, r⟩
      · cases e
    | [], r => exact r.elim
    | _ :: _ :: _, r => exact r.2.elim
  · cases e
theorem itd_enum {a : Addr} {us : List V} {xs : List P} {W0 : Wd} (l : ∀ W, Ext W0 W → SqL X.K W.H a us) (r : Reps G W0 xs us) : ItD G W0 (Ite X.K a) (enumP 0 xs) ckT := fun Z W S ex st _ => by
  have l1 := l W ex
  have r1 := Reps.ext ex xs r
  have len := Reps.length _ _ r1
  refine ⟨fun i hi => ?_, ?_, fun i d x H' e hy => ?_⟩
  · rw [enumP_length] at hi
    exact ⟨us, us[i]'(by omega), l1, List.getElem?_eq_getElem _⟩
  · rw [enumP_length]
    exact ⟨us, l1, by omega⟩
  · obtain ⟨T, y, rfl, np, rfl, hx⟩ := hy
    obtain ⟨z, h1, rfl⟩ := enumP_get 0 i xs d e
    obtain ⟨v, hv, rv⟩ := Reps.get _ _ r1 h1
    have hy := hx us l1
    rw [hv] at hy
    have hy' : v = y := Option.some.inj hy
    subst hy'
    refine ⟨W.put T (.tup [.int (i : Nat), v]), rfl, put_go st np _, put_st st np _, ?_⟩
    have r2 : Reps G W [.int ((0 + i : Nat) : Int), z] [.int (i : Nat), v] := by
      simp only [Reps, Rep]
      exact ⟨by rw [Nat.zero_add], rv, trivial⟩
    exact new_tup st r2 np
theorem pfi_enum {e : Expr} {f : CA} {p pos tpos : Pos} {elts : List Expr} {kk : Nat} (cg : CtxG G X k) (hm : X.mg "enumerate" = none) (ha : PFA G X [e] f) (hg : Gl X "enumerate" := by rfl) (hs : starEach [e] X.env = [(false, eval e X.env)] := by rfl) :
    PFI G X (.Tuple elts kk tpos) (.Call (.Name "enumerate" p) [e] [] pos) (iEnumP f) := fun Wx tk => by
  refine PI.imp (pi_enum hg hm (ha Wx tk) hs) fun σ H Rr h => ?_
  obtain ⟨Z, S, W, env, rfl, st, er, p⟩ := h
  refine ⟨Z, S, W, env, rfl, st, er, ?_⟩
  unfold iEnumP at p
  cases hf : f env S with
  | bad => rw [hf] at p; exact p
  | exc c ns ds S' => rw [hf] at p; exact p
  | ok ds S1 =>
    rw [hf] at p
    simp only [R.bind_ok] at p
    intro vs W1 go1 st1 r1
    cases hj : asL1 S1 ds with
    | none => rw [hj] at p; exact p.elim
    | some xs =>
      rw [hj] at p
      obtain ⟨a, us, rfl, l, r⟩ := asL1_rep cg hj r1
      exact ⟨a, us, rfl, l W1 (Ext.refl _), p _ W1 go1 st1 (itd_enum l r)⟩

/-! ### list comprehensions -/
def wipeD (env : DEnv) : List Nat → DEnv
  | [] => env
  | v :: vs => (wipeD env vs).set v none
theorem wipe_env {env : DEnv} (h : EnvR G W env σ) : ∀ vs : List Nat, EnvR G W (wipeD env vs) (wipe σ vs)
  | [] => h
  | v :: vs => by
    have ih := wipe_env h vs
    unfold wipeD wipe
    refine ⟨by rw [List.length_set, List.length_set]; exact ih.1, fun i d e => ?_⟩
    by_cases hv : v = i
    · subst hv
      by_cases hl : v < (wipeD env vs).length
      · rw [List.getElem?_set_self hl] at e; cases e
      · rw [List.getElem?_eq_none (by simpa using hl)] at e; cases e
    · rw [List.getElem?_set_ne hv] at e
      obtain ⟨u, h1, h2⟩ := ih.2 i d e
      exact ⟨u, by rw [List.getElem?_set_ne hv]; exact h1, h2⟩
theorem wipe_set {i : Nat} {v : Option V} : ∀ {vs : List Nat} {σ : L2.St}, i ∈ vs → wipe (σ.set i v) vs = wipe σ vs
  | [], _, h => nomatch h
  | w :: vs, σ, h => by
    unfold wipe
    by_cases hi : i ∈ vs
    · rw [wipe_set hi]
    · have e : i = w := by
        rcases List.mem_cons.mp h with e | e
        · exact e
        · exact absurd e hi
      subst e
      have step : ∀ (vs : List Nat) (σ : L2.St), i ∉ vs → wipe (σ.set i v) vs = (wipe σ vs).set i v := by
        intro vs
        induction vs with
        | nil => intro σ _; rfl
        | cons a r ih =>
          intro σ hn
          unfold wipe
          rw [ih σ fun z => hn (List.mem_cons_of_mem _ z), List.set_comm _ _ (fun z : a = i => hn (by rw [z]; exact List.mem_cons_self))]
      rw [step vs σ hi, List.set_set]
/-- targets that write the slots vs alone -/
def tMGw (G : Gc) (vs : List Nat) (g : CG) : TG := fun v σ H Q => ∃ Z S W env d env' S', W.H = H ∧ StRep G W Z S ∧ EnvR G W env σ ∧ RepD G W d v ∧ g d env S = some (env', S') ∧ ∀ σ' W', Go Z W W' → StRep G W' Z S' → EnvR G W' env' σ' → wipe σ' vs = wipe σ vs → Q σ' W'.H
def tMGsw (G : Gc) (vs : List Nat) (g : CGs) : TGs := fun us σ H Q => ∃ Z S W env ds env' S', W.H = H ∧ StRep G W Z S ∧ EnvR G W env σ ∧ RepDs G W ds us ∧ g ds env S = some (env', S') ∧ ∀ σ' W', Go Z W W' → StRep G W' Z S' → EnvR G W' env' σ' → wipe σ' vs = wipe σ vs → Q σ' W'.H
theorem pfgw_name (i : Nat) {vs : List Nat} {x : Str} {pos : Pos} (hm : i ∈ vs := by decide) (hN : X.N.Nodup) (hi : X.N[i]? = some x := by rfl) (hx : Loc X.env.scope x := by first | exact Or.inl rfl | exact Or.inr rfl)
    (hf : X.fn x = true ∨ X.env.scope.names.lookup x = some .local := by first | exact .inl rfl | exact .inr rfl | assumption) : PG X (.Name x pos) (tMGw G vs (gN i)) := by
  refine PG.imp (pg_name hN hi hx hf) fun v σ H Q h => ?_
  obtain ⟨Z, S, W, env, d, env', S', rfl, st, er, r, e, q⟩ := h
  simp only [gN, Option.some.injEq, Prod.mk.injEq] at e
  obtain ⟨rfl, rfl⟩ := e
  exact q _ W (Go.refl _ _) st (er.set r i) (wipe_set hm)
theorem pfgsw_nil {vs : List Nat} : PGs X [] (tMGsw G vs gNil') := by
  refine PGs.imp pgs_nil fun us σ H Q h => ?_
  obtain ⟨Z, S, W, env, ds, env', S', rfl, st, er, r, e, q⟩ := h
  cases ds with
  | cons _ _ => simp [gNil'] at e
  | nil =>
    simp only [gNil', Option.some.injEq, Prod.mk.injEq] at e
    obtain ⟨rfl, rfl⟩ := e
    cases us with
    | cons _ _ => exact r.elim
    | nil => exact ⟨rfl, q _ W (Go.refl _ _) st er rfl⟩
theorem pfgsw_cons {vs : List Nat} {e : Expr} {es : List Expr} {g : CG} {gs : CGs} (h1 : PG X e (tMGw G vs g)) (h2 : PGs X es (tMGsw G vs gs))
    (hs : (assignEach (e :: es) X.env).map (·.2) = assign e X.env :: (assignEach es X.env).map (·.2) := by rfl) : PGs X (e :: es) (tMGsw G vs (gCons' g gs)) := by
  refine PGs.imp (pgs_cons h1 h2 hs) fun us σ H Q h => ?_
  obtain ⟨Z, S, W, env, ds, env', S', rfl, st, er, r, e, q⟩ := h
  cases ds with
  | nil => simp [gCons'] at e
  | cons d ds =>
    cases us with
    | nil => exact r.elim
    | cons v us =>
      simp only [gCons'] at e
      cases hg : g d env S with
      | none => rw [hg] at e; cases e
      | some p =>
        obtain ⟨env1, S1⟩ := p
        rw [hg] at e
        simp only [Option.bind_some] at e
        refine ⟨v, us, rfl, Z, S, W, env, d, env1, S1, rfl, st, er, r.1, hg, fun σ1 W1 go1 st1 er1 w1 => ?_⟩
        exact ⟨Z, S1, W1, env1, ds, env', S', rfl, st1, er1, RepDs.ext go1.toExt r.2, e, fun σ2 W2 go2 st2 er2 w2 => q σ2 W2 (go1.trans go2) st2 er2 (w2.trans w1)⟩
theorem pfgw_tup {vs : List Nat} {es : List Expr} {kk : Nat} {pos : Pos} {gs : CGs} {n : Nat} (cg : CtxG G X k) (h : PGs X es (tMGsw G vs gs))
    (hn : (assignEach es X.env).length = n := by rfl) (hst : (assignEach es X.env).findIdx? (·.1) = none := by rfl) : PG X (.Tuple es kk pos) (tMGw G vs (gT n gs)) := by
  refine PG.imp (pg_tup cg.calm h hn hst) fun v σ H Q h => ?_
  obtain ⟨Z, S, W, env, d, env', S', rfl, st, er, r, e, q⟩ := h
  unfold gT at e
  split at e
  · rename_i xs
    split at e
    · rename_i hl
      obtain ⟨a, us, rfl, t, r⟩ := rep_tup r
      exact ⟨a, us, rfl, t.sq cg.kk, by rw [← Reps.length _ _ r]; exact hl, Z, S, W, env, xs.map D.p, env', S', rfl, st, er, r.toD, e, q⟩
    · cases e
  · cases e
/-- the tests of a clause -/
def PFTs (G : Gc) (X : Cx) (ifs : List Expr) (f : CT) : Prop := ∀ Wx, Takes X Wx → PTs X ifs (tMT G Wx f)
theorem PTs.imp {ifs : List Expr} {t t' : TT} (h : PTs X ifs t) (i : ∀ σ H Q, t' σ H Q → t σ H Q) : PTs X ifs t' := ⟨fun pins s σ H Q I q => h.run pins s σ H Q I (i _ _ _ q)⟩
def cYes : CT := fun _ S => .ok true S
theorem pfts_nil : PFTs G X [] cYes := fun Wx tk => PTs.imp pts_nil fun σ H Q h => by
  obtain ⟨Z, S, W, env, rfl, st, er, p⟩ := h
  exact p W (Go.refl _ _) st
theorem pfts_one {c : Expr} {f : CT} (h : PFT G X c f) : PFTs G X [c] f := fun Wx tk => pts_one (h Wx tk)

def lcL (chk : Sto → Bool) (g : CG) (t : CT) (fe : CE') (env : DEnv) : List P → List P → Sto → R D
  | [], acc, S => .ok (.p (.lst acc)) S
  | d :: ds, acc, S => match g (.p d) env S with
    | none => .bad
    | some (env1, S1) => match t env1 S1 with
      | .ok true S2 => match fe env1 S2 with
        | .ok y S3 => match pureD y S3 with
          | some (x, S4) => if acc.length < sizeLine ∧ chk S4 = true then lcL chk g t fe env ds (acc ++ [x]) S4 else .bad
          | none => .bad
        | _ => .bad
      | .ok false S2 => if chk S2 = true then lcL chk g t fe env ds acc S2 else .bad
      | _ => .bad
def cLc (f : CI) (g : CG) (t : CT) (fe : CE') (vs : List Nat) : CE' := fun env S => (f env S).bind fun q S1 => if q.2 S1 = true then lcL q.2 g t fe (wipeD env vs) q.1 [] S1 else .bad
theorem takes_false {X : Cx} : Takes X (fun _ _ _ _ => False) := fun u s' ⟨_, _, _, _, _, _, _, _, _, _, _, _, _, _, _, _, h⟩ => h.elim
theorem CtxG.blk (cg : CtxG G X k) (s : Shared) (H : Hp) (scope : Scope) (cenv : Env) (fp : List Addr) : CtxG G (X.blk s H scope cenv fp) k := ⟨cg.kk, cg.calm, cg.room, cg.grd, cg.nd⟩
/-- the world with a list that grows -/
def Wd.more (W : Wd) (p : Addr) (o : HO) : Wd := { W with H := upd W.H p o, U := fun a => W.U a ∨ a = p }
def Wd.done (W : Wd) (p : Addr) : Wd := { W with U := fun a => W.U a ∧ a ≠ p }
theorem more_go (st : StRep G W Z S) {p : Addr} (np : W.H p = none) (o : HO) : Go Z W (W.more p o) :=
  have g := put_go st np o
  ⟨⟨⟨fun a q n h u => ⟨(g.kp a q n h u).1, fun z => z.elim u fun e => ne_of_none h np e⟩⟩, g.rho, g.le⟩, g.z⟩
theorem more_st (st : StRep G W Z S) {p : Addr} (np : W.H p = none) (o : HO) (nc : NC o := by exact nc_lst _) : StRep G (W.more p o) (fun a => Z a ∨ a = p) S := by
  have g := more_go st np o
  have ne : ∀ a, W.U a → a ≠ p := fun a u e => put_nu st np (e ▸ u)
  refine ⟨tab_upd st.tab np o, st.len, fun a z => z.imp (st.zu a) id, fun a u => ?_, fun i so e l => ?_, st.inj, fun a u => ?_⟩
  · rcases u with u | rfl
    · obtain ⟨q, h, n⟩ := st.ut a u
      exact ⟨q, by show upd W.H p o a = _; rw [upd_ne (ne a u)]; exact h, n⟩
    · exact ⟨o, upd_same, nc⟩
  · obtain ⟨h1, h2, h3⟩ := st.obj i so e l
    exact ⟨.inl h1, fun z => z.elim h2 (ne _ h1), ObjR.ext g.toExt (upd_ne (ne _ h1)) h3⟩
  · rcases u with u | rfl
    · exact (st.back a u).imp .inl id
    · exact .inl (.inr rfl)
/-- the list at p is written -/
theorem wr_go {p : Addr} (hz : ¬ Z p) (hu : W.U p) (o : HO) : Go Z W { W with H := upd W.H p o } :=
  ⟨⟨⟨fun a q _ h u => ⟨(upd_ne (fun e : a = p => u (by rw [e]; exact hu))).trans h, u⟩⟩, fun _ _ => rfl, Nat.le_refl _⟩, fun a z => upd_ne (fun e : a = p => hz (by rw [← e]; exact z))⟩
theorem wrZ_st {p : Addr} (hz : ¬ Z p) (st : StRep G W (fun a => Z a ∨ a = p) S) (o : HO) {xs : List V} (hp : W.H p = some (.lst xs)) (nc : NC o := by exact nc_lst _) : StRep G { W with H := upd W.H p o } (fun a => Z a ∨ a = p) S := by
  have hu : W.U p := st.zu p (.inr rfl)
  have g := wr_go hz hu o
  refine ⟨tabs_ext st.tab (fun b ps h => (upd_ne (fun e : b = p => by rw [e, hp] at h; cases h)).trans h) (fun b q h => (upd_ne (fun e : b = p => by rw [e, hp] at h; unfold LamX.CodeO at h; cases h)).trans h), st.len, st.zu, fun a u => ?_, fun i so e l => ?_, st.inj, st.back⟩
  · by_cases ha : a = p
    · subst ha; exact ⟨o, upd_same, nc⟩
    · obtain ⟨q, h, n⟩ := st.ut a u
      exact ⟨q, by show upd W.H p o a = _; rw [upd_ne ha]; exact h, n⟩
  · obtain ⟨h1, h2, h3⟩ := st.obj i so e l
    exact ⟨h1, h2, ObjR.ext g.toExt (upd_ne fun e => h2 (.inr e)) h3⟩
theorem done_go {p : Addr} (W : Wd) : Kp W (W.done p) := ⟨fun a q _ h u => ⟨h, fun z => u z.1⟩⟩
theorem done_st {p : Addr} (hz : ¬ Z p) (st : StRep G W (fun a => Z a ∨ a = p) S) : StRep G (W.done p) Z S := by
  refine ⟨st.tab, st.len, fun a z => ⟨st.zu a (.inl z), fun e => hz (e ▸ z)⟩, fun a u => st.ut a u.1, fun i so e l => ?_, st.inj, fun a u => ?_⟩
  · obtain ⟨h1, h2, h3⟩ := st.obj i so e l
    refine ⟨⟨h1, fun e => h2 (.inr e)⟩, fun z => h2 (.inl z), ?_⟩
    have kp := done_go (p := p) W
    cases so with
    | dead => trivial
    | lst ds => obtain ⟨vs, a1, a2⟩ := h3; exact ⟨vs, a1, Reps.kp kp ds a2⟩
    | dct ks ds => obtain ⟨vs, a1, a2⟩ := h3; exact ⟨vs, Reps.kp kp ds a1, a2⟩
    | ins c ns ds => obtain ⟨dx, vs, a1, a2, a3⟩ := h3; exact ⟨dx, vs, a1, a2, Reps.kp kp ds a3⟩
  · rcases st.back a u.1 with z | z
    · exact .inl (z.elim id fun e => absurd e u.2)
    · exact .inr z
theorem Go.weakZ {Z' : Addr → Prop} {W1 : Wd} (g : Go Z' W W1) (h : ∀ a, Z a → Z' a) : Go Z W W1 := ⟨g.toExt, fun a z => g.z a (h a z)⟩
theorem sNone (st : StRep G W Z S) {p : Addr} (np : W.H p = none) : ¬ Z p := fun z => put_nu st np (st.zu p z)
/-- the loop -/
theorem lc_imp {f : CI} {g : CG} {t : CT} {fe : CE'} {vs : List Nat} : ∀ σ H Q, tM G Wx (cLc f g t fe vs) σ H Q →
    tLc (tMI G Wx f) (tMGw G vs g) (tMT G (fun _ _ _ _ => False) t) (tM G (fun _ _ _ _ => False) fe) vs σ H Q := by
  rintro σ H Q ⟨Z, S, W, env, rfl, st, er, p⟩
  refine ⟨Z, S, W, env, rfl, st, er, ?_⟩
  unfold cLc at p
  cases hf : f env S with
  | bad => rw [hf] at p; exact p
  | exc c ns ds S' => rw [hf] at p; exact p
  | ok q S1 =>
    obtain ⟨ds, chk⟩ := q
    rw [hf] at p
    simp only [R.bind_ok] at p
    have hchk : chk S1 = true := Decidable.byContradiction fun hn => by
      rw [if_neg hn] at p
      exact p
    rw [if_pos hchk] at p
    intro J W1 go1 st1 hJ D nD
    have zD : ¬ Z D := sNone st1 nD
    have nuD : ¬ W1.U D := put_nu st1 nD
    have gm := more_go st1 nD (.lst [])
    have sm := more_st st1 nD (.lst [])
    refine ⟨fun i m H => ∃ (W2 : Wd) (S2 : Sto) (acc : List P) (av : List V), i ≤ ds.length ∧ m = ds.length - i ∧ W2.H = H ∧ Go Z W1 W2 ∧ StRep G W2 (fun a => Z a ∨ a = D) S2 ∧ W2.H D = some (.lst av) ∧ Reps G W2 acc av ∧ chk S2 = true ∧
        PostE G Wx Z W2 σ Q (lcL chk g t fe (wipeD env vs) (ds.drop i) acc S2),
      ⟨ds.length, W1.more D (.lst []), S1, [], [], Nat.zero_le _, rfl, rfl, gm, sm, upd_same, by simp only [Reps], hchk, by rw [List.drop_zero]; exact PostE.shift (go1.trans gm) p⟩, ?_⟩
    rintro i m H2 ⟨W2, S2, acc, av, hi, rfl, rfl, go2, st2, hD, ra, hc2, p2⟩
    obtain ⟨j1, j2, j3⟩ := hJ _ W2 S2 go2.toExt st2 hc2
    by_cases hlt : i < ds.length
    · refine .inr ⟨j1 i hlt, fun H' => ∃ m', m' < ds.length - i ∧ ∃ (W2 : Wd) (S2 : Sto) (acc : List P) (av : List V), i + 1 ≤ ds.length ∧ m' = ds.length - (i + 1) ∧ W2.H = H' ∧ Go Z W1 W2 ∧ StRep G W2 (fun a => Z a ∨ a = D) S2 ∧ W2.H D = some (.lst av) ∧ Reps G W2 acc av ∧ chk S2 = true ∧
        PostE G Wx Z W2 σ Q (lcL chk g t fe (wipeD env vs) (ds.drop (i + 1)) acc S2), fun H' hN => hN, fun x H' hy => ?_⟩
      have hd : ds[i]? = some ds[i] := List.getElem?_eq_getElem hlt
      obtain ⟨W3, rfl, go3, st3, r3⟩ := j3 i _ x H' hd hy
      rw [List.drop_eq_getElem_cons hlt] at p2
      simp only [lcL] at p2
      cases hgt : g (.p ds[i]) (wipeD env vs) S2 with
      | none => rw [hgt] at p2; exact p2.elim
      | some q =>
        obtain ⟨env3, S3⟩ := q
        rw [hgt] at p2
        simp only at p2
        have er3 : EnvR G W3 (wipeD env vs) (wipe σ vs) := wipe_env (((er.ext go1.toExt).ext go2.toExt).ext go3.toExt) vs
        refine ⟨_, S2, W3, wipeD env vs, .p ds[i], env3, S3, rfl, st3, er3, r3, hgt, fun σ4 W4 go4 st4 er4 w4 => ⟨?_, ?_⟩⟩
        · rw [w4]
          clear w4
          have : ∀ (l : List Nat) (τ : L2.St), wipe (wipe τ l) l = wipe τ l := by
            intro l
            induction l with
            | nil => intro τ; rfl
            | cons a r ih =>
              intro τ
              have e1 : wipe ((wipe τ r).set a none) (a :: r) = wipe (wipe τ r) (a :: r) := wipe_set List.mem_cons_self
              show wipe ((wipe τ r).set a none) (a :: r) = (wipe τ r).set a none
              rw [e1]
              show (wipe (wipe τ r) r).set a none = _
              rw [ih]
          exact this vs σ
        refine ⟨_, S3, W4, env3, rfl, st4, er4, ?_⟩
        have go24 := go3.trans go4
        cases ht : t env3 S3 with
        | bad => rw [ht] at p2; exact p2.elim
        | exc c ns us S5 => rw [ht] at p2; exact p2.elim
        | ok b S5 =>
          rw [ht] at p2
          cases b with
          | false =>
            simp only at p2
            split at p2
            · rename_i hc5
              intro W5 go5 st5
              rw [if_neg Bool.false_ne_true]
              have go25 := go24.trans go5
              exact ⟨ds.length - (i + 1), by omega, W5, S5, acc, av, hlt, rfl, rfl, go2.trans (go25.weakZ fun a z => .inl z), st5, (go25.z D (.inr rfl)).trans hD, Reps.ext go25.toExt acc ra, hc5, PostE.shift (go25.weakZ fun a z => .inl z) p2⟩
            · exact p2.elim
          | true =>
            simp only at p2
            intro W5 go5 st5
            rw [if_pos rfl]
            have go25 := go24.trans go5
            refine ⟨_, S5, W5, env3, rfl, st5, er4.ext go5.toExt, ?_⟩
            cases hfe : fe env3 S5 with
            | bad => rw [hfe] at p2; exact p2.elim
            | exc c ns us S6 => rw [hfe] at p2; exact p2.elim
            | ok y S6 =>
              rw [hfe] at p2
              simp only at p2
              intro v W6 go6 st6 r6
              split at p2
              · rename_i x7 S7 hp
                obtain ⟨W7, e7, g7, s7, r7⟩ := pureD_rep st6 hp r6
                split at p2
                · rename_i hcc
                  have go27 := (go25.trans go6).trans g7
                  have hD7 : W7.H D = some (.lst av) := (go27.z D (.inr rfl)).trans hD
                  have ra7 := Reps.ext go27.toExt acc ra
                  have la := Reps.length _ _ ra7
                  have hu7 : W7.U D := s7.zu D (.inr rfl)
                  have gw := wr_go (W := W7) zD hu7 (.lst (av ++ [v]))
                  refine ⟨av, by rw [← e7]; exact hD7, by rw [← la]; exact hcc.1, ds.length - (i + 1), by omega, { W7 with H := upd W7.H D (.lst (av ++ [v])) }, S7, acc ++ [x7], av ++ [v], hlt, rfl, by rw [← e7], ?_, wrZ_st zD s7 _ hD7, upd_same, ?_, hcc.2, ?_⟩
                  · exact go2.trans ((go27.weakZ fun a z => .inl z).trans gw)
                  · exact Reps.append _ _ (Reps.ext gw.toExt acc ra7) (by simp only [Reps]; exact ⟨Rep.ext gw.toExt x7 r7, trivial⟩)
                  · exact PostE.shift ((go27.weakZ fun a z => .inl z).trans gw) p2
                · exact p2.elim
              · exact p2.elim
    · have hil : i = ds.length := by omega
      subst hil
      rw [List.drop_length] at p2
      simp only [lcL] at p2
      refine .inl ⟨j2, ?_⟩
      have kp := done_go (p := D) W2
      have gd : Go Z W2 (W2.done D) := ⟨⟨kp, fun _ _ => rfl, Nat.le_refl _⟩, fun _ _ => rfl⟩
      refine p2 (.ref D) (W2.done D) gd (done_st zD st2) ?_
      simp only [RepD, Rep]
      exact ⟨D, av, rfl, ⟨fun z => z.2 rfl, hD⟩, Reps.kp kp acc ra⟩
end
end Fe
namespace Fe
open PySem PySem.Spec PyProof.Rows L2
section
variable {G : Gc} {X : Cx} {k : Nat}
theorem pf_lc {elt tg iter : Expr} {ifs : List Expr} {scope : Scope} {own : List (Str × Nat)} {pos : Pos} {f : CI} {g : CG} {t : CT} {fe : CE'} (cg : CtxG G X k) (ok : BlkOk X.N X.env.scope scope own) (hi : PFI G X tg iter f)
    (hg : ∀ (s : Shared) (H : Hp) (C : Addr) (cl : List (Str × Addr)) (fp : List Addr), PG (X.blk s H scope (compEnvC scope cl C X.env) fp) tg (tMGw G (own.map (·.2)) g))
    (ht : ∀ (s : Shared) (H : Hp) (C : Addr) (cl : List (Str × Addr)) (fp : List Addr), PFTs G (X.blk s H scope (compEnvC scope cl C X.env) fp) ifs t)
    (he : ∀ (s : Shared) (H : Hp) (C : Addr) (cl : List (Str × Addr)) (fp : List Addr), PF G (X.blk s H scope (compEnvC scope cl C X.env) fp) elt fe) (hs : ∀ x, foldedSetIterable iter X.env x = pure x := by intro _; rfl) :
    PF G X (.ListComp elt [⟨tg, iter, ifs, 0⟩] scope pos) (cLc f g t fe (own.map (·.2))) := fun Wx tk =>
  PE.imp (pe_lc cg.calm cg.nd (hi Wx tk) ok hg (fun s H C cl fp => ht s H C cl fp _ takes_false) (fun s H C cl fp => he s H C cl fp _ takes_false) hs) lc_imp
/-- name = [..] on one line -/
theorem pfs_setLc (i : Nat) {y : Str} {py : Pos} {elt tg iter : Expr} {ifs : List Expr} {scope : Scope} {own : List (Str × Nat)} {pos spos : Pos} {f : CI} {g : CG} {t : CT} {fe : CE'} (cg : CtxG G X k) (ok : BlkOk X.N X.env.scope scope own)
    (hsw : swapsWith (.ListComp elt [⟨tg, iter, ifs, 0⟩] scope pos) (some (.Name y py)) spos.line X.env = pure true) (hi : PFI G X tg iter f)
    (hg : ∀ (s : Shared) (H : Hp) (C : Addr) (cl : List (Str × Addr)) (fp : List Addr), PG (X.blk s H scope (compEnvC scope cl C X.env) fp) tg (tMGw G (own.map (·.2)) g))
    (ht : ∀ (s : Shared) (H : Hp) (C : Addr) (cl : List (Str × Addr)) (fp : List Addr), PFTs G (X.blk s H scope (compEnvC scope cl C X.env) fp) ifs t)
    (he : ∀ (s : Shared) (H : Hp) (C : Addr) (cl : List (Str × Addr)) (fp : List Addr), PF G (X.blk s H scope (compEnvC scope cl C X.env) fp) elt fe)
    (hy : X.N[i]? = some y := by rfl) (hyl : X.env.scope.names.lookup y = some .local := by rfl) (hs : ∀ x, foldedSetIterable iter X.env x = pure x := by intro _; rfl) :
    PFS G X (.Assign [.Name y py] (.ListComp elt [⟨tg, iter, ifs, 0⟩] scope pos) spos) (sSet i (cLc f g t fe (own.map (·.2)))) := fun Wx tk => by
  refine PS.imp (ps_setLc cg.calm cg.nd hy hyl hsw (hi Wx tk) ok hg (fun s H C cl fp => ht s H C cl fp _ takes_false) (fun s H C cl fp => he s H C cl fp _ takes_false) hs) fun En σ H h => ?_
  obtain ⟨Z, S, W, env, rfl, st, er, p⟩ := h
  refine lc_imp (Wx := Wx) σ W.H _ ⟨Z, S, W, env, rfl, st, er, (seqES er p).mono fun v H1 h1 => ?_⟩
  obtain ⟨d1, S1, W1, rfl, go1, st1, r1, p1⟩ := h1
  exact p1 _ W1 (Go.refl _ _) st1 ((er.ext go1.toExt).set r1 i)
end
end Fe

set_option Elab.async false
set_option linter.all false
set_option maxRecDepth 100000
set_option maxHeartbeats 1000000
namespace Fe
open PySem PySem.Spec PyProof.Rows L2

section
variable {G : Gc} {Wx : WX} {Z : Addr → Prop} {W : Wd} {S : Sto} {σ : L2.St} {X : Cx} {k j : Nat} {f : Addr} {fd : FuncData} {ps : List Str} {Fd : FD}
theorem make_guards {A : Around} {C : Addr} {us : List Value} {kw : List (Str × Value)} : (A.under (.builtin "type.__call__" ⟨.ref C :: us, kw⟩)).guards = A.guards := by
  have h : (Code.builtin "type.__call__" ⟨.ref C :: us, kw⟩).guards = [] := by
    unfold Code.guards Code.isGuard
    show (if guardIds.contains "type.__call__" = true then _ else []) = []
    rw [if_neg (by decide)]
  simp only [Around.under, h, pushGuards]
theorem allP_map (xs : List P) : allP (xs.map D.p) = some xs := by
  induction xs with
  | nil => rfl
  | cons x xs ih => simp [allP, ih]

/-! ### a new instance -/
def mkF (c : Nat) (Fi : FD) : FD := fun ds S => match allP ds with
  | none => .bad
  | some _ => match Fi (.ref 0 :: ds) [.ins c [] []] with
    | .ok (.p .non) S' => match (S'[0]? : Option SO) with
      | some (SO.ins c' ns vs) => if c' = c then .ok (.p (.obj c ns vs)) S else .bad
      | _ => .bad
    | .ok _ _ => .bad
    | .exc e ns vs _ => .exc e ns vs S
    | .bad => .bad
def Wd.born (W : Wd) (C x dx : Addr) : Wd := { H := upd (upd W.H dx (.own x)) x (.ins C dx []), U := fun a => W.U a ∨ a = x, ρ := fun _ => x, n := 1 }
section
variable {x dx : Addr} {C : Addr}
theorem born_old (nx : W.H x = none) (ndx : W.H dx = none) {a : Addr} {o : HO} (h : W.H a = some o) : (W.born C x dx).H a = some o := by
  show upd (upd W.H dx (.own x)) x (.ins C dx []) a = _
  rw [upd_ne (ne_of_none h nx), upd_ne (ne_of_none h ndx)]
  exact h
theorem born_kp (nx : W.H x = none) (ndx : W.H dx = none) : Kp W (W.born C x dx) := ⟨fun a o _ h u => ⟨born_old nx ndx h, fun z => z.elim u fun e => ne_of_none h nx e⟩⟩
theorem born_st {c : Nat} (st : StRep G W Z S) (nx : W.H x = none) (ndx : W.H dx = none) : StRep G (W.born (G.cl c) x dx) W.U [.ins c [] []] := by
  refine ⟨st.tab.ext fun b o h => born_old nx ndx h, rfl, fun _ h => .inl h, fun a u => ?_, fun i so h _ => ?_, fun i j so so' h1 h2 _ _ _ => ?_, fun a u => ?_⟩
  · rcases u with u | rfl
    · obtain ⟨o, h, n⟩ := st.ut a u
      exact ⟨o, born_old nx ndx h, n⟩
    · exact ⟨_, upd_same, nc_ins _ _ _⟩
  · cases i with
    | succ i => simp at h
    | zero =>
      simp at h
      subst h
      exact ⟨.inr rfl, put_nu st nx, dx, [], upd_same, rfl, by simp only [Reps]⟩
  · cases i with
    | succ i => simp at h1
    | zero =>
      cases j with
      | succ j => simp at h2
      | zero => rfl
  · rcases u with u | rfl
    · exact .inl u
    · exact .inr ⟨0, _, rfl, rfl, rfl⟩
theorem born_back {W' : Wd} (st : StRep G W Z S) (nx : W.H x = none) (ndx : W.H dx = none) (go : Go W.U (W.born C x dx) W') (ht : LamX.Tabs G.T W'.H) : Go Z W (W.back W') ∧ StRep G (W.back W') Z S := by
  have hz : ∀ a, W.U a → W'.H a = W.H a := fun a u => by
    obtain ⟨o, h, _⟩ := st.ut a u
    rw [go.z a u, born_old nx ndx h, h]
  have g : Go Z W (W.back W') := ⟨⟨⟨fun a o n h u => ⟨(go.kp a o n (born_old nx ndx h) ((born_kp (C := C) nx ndx).kp a o n h u).2).1, u⟩⟩, fun _ _ => rfl, Nat.le_refl _⟩, fun a z => hz a (st.zu a z)⟩
  refine ⟨g, ht, st.len, st.zu, fun a u => ?_, fun i so e l => ?_, st.inj, st.back⟩
  · obtain ⟨o, h, n⟩ := st.ut a u
    exact ⟨o, (hz a u).trans h, n⟩
  · obtain ⟨h1, h2, h3⟩ := st.obj i so e l
    exact ⟨h1, h2, ObjR.ext g.toExt (hz _ h1) h3⟩
end
theorem run_makeG {c : Nat} {pins : List (Addr × Obj)} {s : Shared} {S : Sto} {Q : VK} {us : List Value} {vs : List V} {ds : List D} {ds0 : List Value} {dD : List D} (M : Mk G.K (G.cl c) f) (F : FnG X.prog X.w G X.mg X.base j f fd ps Fd) (cg : CtxG G X k) (hj : j + 1 ≤ k) (tk : Takes X Wx)
    (hb : Binds G.K fd ps ds0) (hd : Dflt G dD ds0) (I : Inv X pins σ W.H s) (r : Vals vs us) (st : StRep G W Z S) (rd : RepDs G W ds vs) (p : PostE G Wx Z W σ Q (mkF c Fd (ds ++ dD) S)) :
    wpAny (model X.prog X.w) X.A (call (.ref (G.cl c)) us) (EP X pins σ Q) X.xe s := by
  unfold mkF at p
  cases hx : allP (ds ++ dD) with
  | none => rw [hx] at p; exact p.elim
  | some xs =>
    rw [hx] at p
    simp only at p
    have hds := allP_eq hx
    have nx : W.H (s.heap.objs.size + 1) = none := I.hok.fresh (Nat.le_succ _)
    have ndx : W.H s.heap.objs.size = none := I.hok.fresh (Nat.le_refl _)
    have I2 := Inv.made (C := G.cl c) I
    obtain ⟨dvs, vd, hdr⟩ := hd.ex
    have rd1 : RepDs G W (ds ++ dD) (vs ++ dvs) := RepDs.app rd (hdr W)
    rw [hds] at rd1 p
    have rd2 := RepDs.kpP (born_kp (C := G.cl c) nx ndx) rd1
    have r2 : Vals (V.ref (s.heap.objs.size + 1) :: (vs ++ dvs)) (Value.ref (s.heap.objs.size + 1) :: (us ++ ds0)) := .cons rfl (r.append vd)
    have kin : G.K.In s.heap := cg.kk ▸ I.kIn
    have room := (cg.room.mono hj).make (G.cl c) us []
    have st0 := born_st (c := c) st nx ndx
    have ge : (X.A.under (.builtin "type.__call__" ⟨.ref (G.cl c) :: us, []⟩)).guards = some [] := make_guards.trans cg.grd
    have e0 := Env0.cg cg.kk I2.env0
    have kin2 : G.K.In ((s.heap.push PySem.W.emptyDict).push (PySem.W.instObj (G.cl c) s.heap.objs.size)) := cg.kk ▸ I2.kIn
    have p2 : PostE G (wxE fun cc d H => Wx cc d σ H) W.U (W.born (G.cl c) (s.heap.objs.size + 1) s.heap.objs.size) [] (fun v H2 => v = .non ∧ Q (.ref (s.heap.objs.size + 1)) H2) (Fd (.ref 0 :: xs.map D.p) [.ins c [] []]) := by
      cases hF : Fd (.ref 0 :: xs.map D.p) [.ins c [] []] with
      | bad => rw [hF] at p; exact p
      | exc e ns ws S' =>
        rw [hF] at p
        intro cls d0 W' go st' xr
        obtain ⟨g1, g2⟩ := born_back st nx ndx go st'.tab
        exact p cls d0 (W.back W') g1 g2 (xr.kp (show Kp W' (W.back W') from kp_same rfl fun a (u : W.U a) => st'.zu a u))
      | ok d S' =>
        rw [hF] at p
        intro v W' go st' rv
        split at p
        · rename_i S'' hq
          cases hq
          refine ⟨rep_non rv, ?_⟩
          split at p
          · rename_i c' ns ws hs
            split at p
            · rename_i hc
              subst hc
              obtain ⟨g1, g2⟩ := born_back st nx ndx go st'.tab
              obtain ⟨k1, k2, dx', us', k3, k4, k5⟩ := st'.obj 0 _ hs rfl
              have r0 : W'.ρ 0 = s.heap.objs.size + 1 := go.rho 0 Nat.zero_lt_one
              rw [r0] at k3
              refine p (.ref (s.heap.objs.size + 1)) (W.back W') g1 g2 ?_
              simp only [RepD, Rep]
              exact ⟨_, dx', us', rfl, put_nu st nx, k3, k4, Reps.kp (show Kp W' (W.back W') from kp_same rfl fun a (u : W.U a) => st'.zu a u) ws k5⟩
            · exact p.elim
          · exact p.elim
        · exact p.elim
        · rename_i h; cases h
        · rename_i h; cases h
    have hl : (Value.ref (s.heap.objs.size + 1) :: us ++ ds0).length = ps.length := by
      have e := r2.length
      have e2 := rd2.length
      have e3 := lenOk F p2
      simp only [List.length_cons, List.length_append] at e e3 ⊢
      have e4 := rd1.length
      simp only [List.length_append] at e4
      omega
    refine wpAny_call (make_map (f := f) kin M.makes M.init (beq_iff_eq.mp M.fn) (codeAny_mono (F.run _ X.stack _ ⟨Value.ref (s.heap.objs.size + 1) :: us, []⟩ (Value.ref (s.heap.objs.size + 1) :: (us ++ ds0)) _ W.U [.ins c [] []] (W.born (G.cl c) (s.heap.objs.size + 1) s.heap.objs.size) (.ref 0 :: xs.map D.p) _ _ room ge
      (Env0.make e0 (G.cl c) us []) (hb _ (Value.ref (s.heap.objs.size + 1) :: us) kin2 hl) r2 st0 ⟨⟨Nat.zero_lt_one, rfl⟩, rd2⟩ p2) fun r s' hq' => ?_))
    cases r with
    | error e => exact tk e s' (XE.of_call I2 (fun cls d H' h => h) hq')
    | ok fl =>
      cases fl with
      | ret u =>
        obtain ⟨v, H', I3, rv, ev, q3⟩ := I2.after hq'
        subst ev
        exact ⟨rv, ⟨V.ref (s.heap.objs.size + 1), H', I3, rfl, q3⟩⟩
      | next => exact False.elim hq'
      | brk => exact False.elim hq'
      | cont => exact False.elim hq'
/-- C(e, ..) -/
theorem pf_make {c : Nat} {x : Str} {p pos : Pos} {e : Expr} {es : List Expr} {ds0 : List Value} {dD : List D} {fa : CA} (M : Mk G.K (G.cl c) f) (F : FnG X.prog X.w G X.mg X.base j f fd ps Fd) (cg : CtxG G X k) (hj : j + 1 ≤ k) (hg : Gl X x) (hm : X.mg x = some (.ref (G.cl c)))
    (hb : Binds G.K fd ps ds0) (hd : Dflt G dD ds0) (ha : PFA G X (e :: es) fa) (hdb : (x == ("__debug__" : Str)) = false := by decide) (he : starEach (e :: es) X.env = (false, eval e X.env) :: starEach es X.env := by rfl)
    (hpl : (backTo pos (starEach es X.env)).any (·.1) = false := by rfl) : PF G X (.Call (.Name x p) (e :: es) [] pos) (cCall (mkF c Fd) dD fa) := fun Wx tk => by
  refine ⟨fun pins s σ H Q I h => ?_⟩
  refine wpAny_Call_Name_kw (ld_glob I hg hm ?_ hdb)
  obtain ⟨Z, S, W, env, rfl, st, er, pp⟩ := h
  refine PySem.W.callWith_K (h₀ := X.base) I.ok.mod.kin (by rw [cg.kk]; exact M.kp) (thn ((ha Wx tk).run pos pins s σ W.H _ I ⟨Z, S, W, env, rfl, st, er, seqAE pp⟩) fun us s1 h1 => ?_) he hpl
  obtain ⟨vs, H1, I1, r, ds, S1, W1, rfl, go1, st1, rd, p1⟩ := h1
  exact ⟨I1.kIn, run_makeG M F cg hj tk hb hd I1 r st1 rd p1⟩
theorem pf_make0 {c : Nat} {x : Str} {p pos : Pos} {ds0 : List Value} {dD : List D} (M : Mk G.K (G.cl c) f) (F : FnG X.prog X.w G X.mg X.base j f fd ps Fd) (cg : CtxG G X k) (hj : j + 1 ≤ k) (hg : Gl X x) (hm : X.mg x = some (.ref (G.cl c)))
    (hb : Binds G.K fd ps ds0) (hd : Dflt G dD ds0) (hdb : (x == ("__debug__" : Str)) = false := by decide) : PF G X (.Call (.Name x p) [] [] pos) (cCall (mkF c Fd) dD cNil) := fun Wx tk => by
  refine ⟨fun pins s σ H Q I h => ?_⟩
  refine wpAny_Call_Name_kw (ld_glob I hg hm ?_ hdb)
  obtain ⟨Z, S, W, env, rfl, st, er, p1⟩ := h
  exact PySem.W.callWith_K0 I.kIn (by rw [cg.kk]; exact M.kp) (run_makeG (us := []) (vs := []) (ds := []) M F cg hj tk hb hd I .nil st True.intro p1)

/-! ### methods and properties of an instance -/
def noFld (m : Str) (S : Sto) (d : D) : Bool := (dFld m S d).isNone
theorem getField_none : ∀ {ns : List Str} {ds : List P} {vs : List V} {f : Str}, getField ns ds f = none → Reps G W ds vs → (ns.zip vs).lookup f = none
  | [], _, _, _, _, _ => by simp
  | _ :: _, [], [], _, _, _ => by simp
  | _ :: _, [], _ :: _, _, _, r => by simp [Reps] at r
  | _ :: _, _ :: _, [], _, _, r => by simp [Reps] at r
  | n :: ns, d :: ds, v :: vs, f, h, r => by
    simp only [Reps] at r
    simp only [getField] at h
    simp only [List.zip_cons_cons, List.lookup_cons]
    split at h
    · cases h
    · rename_i hn
      simp only [hn]
      exact getField_none h r.2
theorem ins_rep (st : StRep G W Z S) {d : D} {v : V} {c : Nat} (e : clsOf S d = some c) (r : RepD G W d v) : ∃ a dx fs, v = .ref a ∧ W.H a = some (.ins (G.cl c) dx fs) ∧ ∀ m, noFld m S d = true → fs.lookup m = none := by
  cases d with
  | p x =>
    cases x <;> simp only [clsOf] at e <;> try contradiction
    rename_i c' ns ds
    cases e
    simp only [RepD, Rep] at r
    obtain ⟨a, dx, vs, rfl, nu, h1, l, r⟩ := r
    refine ⟨a, dx, _, rfl, h1, fun m hm => getField_none ?_ r⟩
    simpa [noFld, dFld] using hm
  | fn _ _ _ _ _ => simp [clsOf] at e
  | ref i =>
    simp only [clsOf] at e
    split at e
    · rename_i c' ns ds hs
      cases e
      simp only [RepD] at r
      obtain ⟨_, _, dx, vs, h1, l, h2⟩ := st.obj i _ hs rfl
      refine ⟨W.ρ i, dx, _, r.2, h1, fun m hm => getField_none ?_ h2⟩
      simpa [noFld, dFld, hs] using hm
    · cases e
def cMeth (c : Nat) (m : Str) (Fd : FD) (dD : List D) (fo : CE') (fa : CA) : CE' := fun env S => (fo env S).bind fun o S1 => if clsOf S1 o = some c ∧ noFld m S1 o = true then (fa env S1).bind fun ds S2 => Fd (o :: (ds ++ dD)) S2 else .bad
theorem pf_meth {c : Nat} {m : Str} {o e : Expr} {es : List Expr} {pos apos : Pos} {pl : Sem Bool} {ds0 : List Value} {dD : List D} {fo : CE'} {fa : CA} (cl : Cls G.K (G.cl c)) (hm : Meth G.K (G.cl c) m f) (F : FnG X.prog X.w G X.mg X.base j f fd ps Fd) (cg : CtxG G X k) (hj : j ≤ k)
    (hb : Binds G.K fd ps ds0) (hd : Dflt G dD ds0) (ho : PF G X o fo) (ha : PFA G X (e :: es) fa)
    (hst : starEach (e :: es) X.env = (false, eval e X.env) :: starEach es X.env := by rfl) (hpl : (backTo pos (starEach es X.env)).any (·.1) = false := by rfl)
    (ht : eval (.Call (.Attribute o m apos) (e :: es) [] pos) X.env = (do
      let ov ← eval o X.env
      standAt apos.atName
      let (f, first) ← holding [ov] (getMethod ov m pl)
      callWith pos f first (backTo pos (starEach (e :: es) X.env)) (backToKw pos (keywordEach [] X.env))) := by rfl) :
    PF G X (.Call (.Attribute o m apos) (e :: es) [] pos) (cMeth c m Fd dD fo fa) := fun Wx tk => by
  refine ⟨fun pins s σ H Q I h => ?_⟩
  obtain ⟨Z, S, W, env, rfl, st, er, pp⟩ := h
  refine PySem.W.methodCall_KW (pl := pl) (thn ((ho Wx tk).run pins s σ W.H _ I ⟨Z, S, W, env, rfl, st, er, seqEE pp⟩) fun u s1 h1 => ?_) ht
  obtain ⟨v, H1, I1, rv, od, S1, W1, rfl, go1, st1, r1, p1⟩ := h1
  split at p1
  · rename_i hc
    obtain ⟨a, dx, fs, rfl, ea, nf⟩ := ins_rep st1 hc.1 r1
    obtain rfl : u = Value.ref a := rv
    refine getmeth_ok I1 ea (cg.kk ▸ cl) (cg.kk ▸ hm) (nf m hc.2) ?_
    refine PySem.W.callWith_K (first := [.ref a]) (h₀ := X.base) I.ok.mod.kin (by rw [cg.kk]; exact hm.kp) (thn ((ha Wx tk).run pos pins s1 σ W1.H _ I1 ⟨Z, S1, W1, env, rfl, st1, er.ext go1.toExt, seqAE p1⟩) fun us s2 h2 => ?_) hst hpl
    obtain ⟨vs, H2, I2, r, ds, S2, W2, rfl, go2, st2, rd, p2⟩ := h2
    refine ⟨I2.kIn, ?_⟩
    obtain ⟨dvs, vd, hdr⟩ := hd.ex
    have rd2 : RepDs G W2 (od :: (ds ++ dD)) (V.ref a :: (vs ++ dvs)) := ⟨RepD.ext go2.toExt r1, RepDs.app rd (hdr W2)⟩
    have r2 : Vals (V.ref a :: (vs ++ dvs)) (Value.ref a :: (us ++ ds0)) := .cons rfl (r.append vd)
    have hl : (Value.ref a :: us ++ ds0).length = ps.length := by
      have e1 := r2.length
      have e2 := rd2.length
      have e3 := lenOk F p2
      simp only [List.length_cons, List.length_append] at e1 e2 e3 ⊢
      omega
    have kin : G.K.In s2.heap := cg.kk ▸ I2.kIn
    exact wp_of_code (run_fnG F cg hj tk (hb s2 (Value.ref a :: us) kin hl) I2 r2 st2 rd2 p2)
  · exact p1.elim
theorem pf_meth0 {c : Nat} {m : Str} {o : Expr} {pos apos : Pos} {pl : Sem Bool} {ds0 : List Value} {dD : List D} {fo : CE'} (cl : Cls G.K (G.cl c)) (hm : Meth G.K (G.cl c) m f) (F : FnG X.prog X.w G X.mg X.base j f fd ps Fd) (cg : CtxG G X k) (hj : j ≤ k)
    (hb : Binds G.K fd ps ds0) (hd : Dflt G dD ds0) (ho : PF G X o fo)
    (ht : eval (.Call (.Attribute o m apos) [] [] pos) X.env = (do
      let ov ← eval o X.env
      standAt apos.atName
      let (f, first) ← holding [ov] (getMethod ov m pl)
      callWith pos f first (backTo pos (starEach [] X.env)) (backToKw pos (keywordEach [] X.env))) := by rfl) :
    PF G X (.Call (.Attribute o m apos) [] [] pos) (cMeth c m Fd dD fo cNil) := fun Wx tk => by
  refine ⟨fun pins s σ H Q I h => ?_⟩
  obtain ⟨Z, S, W, env, rfl, st, er, pp⟩ := h
  refine PySem.W.methodCall_KW (pl := pl) (thn ((ho Wx tk).run pins s σ W.H _ I ⟨Z, S, W, env, rfl, st, er, seqEE pp⟩) fun u s1 h1 => ?_) ht
  obtain ⟨v, H1, I1, rv, od, S1, W1, rfl, go1, st1, r1, p1⟩ := h1
  split at p1
  · rename_i hc
    obtain ⟨a, dx, fs, rfl, ea, nf⟩ := ins_rep st1 hc.1 r1
    obtain rfl : u = Value.ref a := rv
    refine getmeth_ok I1 ea (cg.kk ▸ cl) (cg.kk ▸ hm) (nf m hc.2) ?_
    obtain ⟨dvs, vd, hdr⟩ := hd.ex
    have p2 : PostE G Wx Z W1 σ Q (Fd (od :: ([] ++ dD)) S1) := p1
    have rd2 : RepDs G W1 (od :: ([] ++ dD)) (V.ref a :: dvs) := ⟨r1, hdr W1⟩
    have r2 : Vals (V.ref a :: dvs) (Value.ref a :: ds0) := .cons rfl vd
    have hl : ([Value.ref a] ++ ds0).length = ps.length := by
      have e1 := r2.length
      have e2 := rd2.length
      have e3 := lenOk F p2
      simp only [List.length_cons, List.length_append, List.nil_append, List.length_nil] at e1 e2 e3 ⊢
      omega
    have kin : G.K.In s1.heap := cg.kk ▸ I1.kIn
    exact PySem.W.callWith_K0 (first := [.ref a]) I1.kIn (by rw [cg.kk]; exact hm.kp) (wp_of_code (run_fnG (us := Value.ref a :: ds0) F cg hj tk (hb s1 [Value.ref a] kin hl) I1 r2 st1 rd2 p2))
  · exact p1.elim
/-- o.f, a property whose getter raises nothing -/
def cProp (c : Nat) (Fd : FD) (dD : List D) (fo : CE') : CE' := fun env S => (fo env S).bind fun o S1 => if clsOf S1 o = some c then (match Fd (o :: dD) S1 with
  | .ok d S2 => .ok d S2
  | _ => .bad) else .bad
theorem pf_prop {c : Nat} {m : Str} {o : Expr} {pos : Pos} {pp : Addr} {ds0 : List Value} {dD : List D} {fo : CE'} (cl : Cls G.K (G.cl c)) (hp : PropOf G.K (G.cl c) m pp f) (F : FnG X.prog X.w G X.mg X.base j f fd ps Fd) (cg : CtxG G X k) (hj : j + 1 ≤ k)
    (hb : Binds G.K fd ps ds0) (hd : Dflt G dD ds0) (ho : PF G X o fo) (hab : attributeBase o m X.env (eval o X.env) = eval o X.env := by rfl) : PF G X (.Attribute o m pos) (cProp c Fd dD fo) := fun Wx tk => by
  refine ⟨fun pins s σ H Q I h => ?_⟩
  obtain ⟨Z, S, W, env, rfl, st, er, pq⟩ := h
  refine attr_of hab (thn ((ho Wx tk).run pins s σ W.H _ I ⟨Z, S, W, env, rfl, st, er, seqEE pq⟩) fun u s1 h1 => ?_)
  obtain ⟨v, H1, I1, rv, od, S1, W1, rfl, go1, st1, r1, p1⟩ := h1
  split at p1
  · rename_i hc
    obtain ⟨a, dx, fs, rfl, ea, nf⟩ := ins_rep st1 hc r1
    obtain rfl : u = Value.ref a := rv
    cases hF : Fd (od :: dD) S1 with
    | bad => rw [hF] at p1; exact p1.elim
    | exc c ns ds S2 => rw [hF] at p1; exact p1.elim
    | ok d S2 =>
      rw [hF] at p1
      have c' : Cls X.K (G.cl c) := cg.kk ▸ cl
      have hp' : PropOf X.K (G.cl c) m pp f := cg.kk ▸ hp
      obtain ⟨mA, O, _, _, _, _⟩ := ins_get I1.hok ea
      obtain ⟨ob, J, _⟩ := O.look
      obtain ⟨rest, hrec⟩ := hp'.rec_
      have I2 := I1.tok (s1.toks + 1)
      obtain ⟨dvs, vd, hdr⟩ := hd.ex
      have rd2 : RepDs G W1 (od :: dD) (V.ref a :: dvs) := ⟨r1, hdr W1⟩
      have r2 : Vals (V.ref a :: dvs) (Value.ref a :: ds0) := .cons rfl vd
      have p2 : PostE G (wxE fun _ _ _ => False) Z W1 [] Q (Fd (od :: dD) S1) := by rw [hF]; exact p1
      have hl : ([Value.ref a] ++ ds0).length = ps.length := by
        have e1 := r2.length
        have e2 := rd2.length
        have e3 := lenOk F p2
        simp only [List.length_cons, List.length_append, List.length_nil] at e1 e2 e3 ⊢
        omega
      have kin : G.K.In s1.heap := cg.kk ▸ I1.kIn
      refine PySem.W.get_bind I1.kIn J (PySem.W.plainGet_of (c'.get m)).1 (PySem.W.findObj_data (by
        obtain ⟨cd, hc, _⟩ := PySem.W.any_some c'.hd
        rw [hc]
        rfl) hp'.at_ hp'.get hp'.tak) (PySem.W.plainGet_of (c'.get m)).2 (wpAny_call (PySem.W.prop_get (s := { s1 with toks := s1.toks + 1 }) I1.kIn hrec ?_))
      refine codeAny_mono (F.run X.A.in1 X.stack { s1 with toks := s1.toks + 1 } ⟨[.ref a], []⟩ (.ref a :: ds0) (.ref a :: dvs) Z S1 W1 (od :: dD) Q (fun _ _ _ => False) (cg.room.mono hj).in1 cg.grd (Env0.in1 (Env0.cg cg.kk I2.env0)) (hb _ [.ref a] kin hl) r2 st1 rd2 p2) fun r s' hq => ?_
      cases r with
      | error er =>
        obtain ⟨_, _, _, _, _, _, _, _, _, _, _, _, z⟩ := hq
        exact z.elim
      | ok fl =>
        cases fl with
        | ret u =>
          obtain ⟨v, H', I3, rv, q3⟩ := I2.after hq
          show wpAny _ _ (handedOut u) _ _ _
          rw [PySem.W.handedOut_of (handed_of rv)]
          exact wpAny_pure ⟨v, H', I3, rv, q3⟩
        | next => exact False.elim hq
        | brk => exact False.elim hq
        | cont => exact False.elim hq
  · exact p1.elim
end
end Fe

set_option Elab.async false
set_option linter.all false
set_option maxRecDepth 100000
set_option maxHeartbeats 1000000
namespace Fe
open PySem PySem.Spec PyProof.Rows L2

section
variable {G : Gc} {Wx : WX} {Z : Addr → Prop} {W : Wd} {S : Sto} {σ : L2.St} {X : Cx} {k j : Nat}
/-! ### isinstance -/
/-- the kinds of values -/
inductive Tg where
  | non | bl | int | str | tup | lst | dct
  | cls (c : Nat)
  | xc (c : Nat)
  deriving DecidableEq
def tyV (G : Gc) : Tg → Value
  | .non => .type "NoneType"
  | .bl => .type "bool"
  | .int => .type "int"
  | .str => .type "str"
  | .tup => .type "tuple"
  | .lst => .type "list"
  | .dct => .type "dict"
  | .cls c => .ref (G.cl c)
  | .xc c => .ref (G.cl c)
def tgP : P → Tg
  | .non => .non
  | .bl _ => .bl
  | .int _ => .int
  | .str _ => .str
  | .tup _ => .tup
  | .lst _ => .lst
  | .fz _ => .lst
  | .dct _ _ => .dct
  | .obj c _ _ => .cls c
  | .exc c _ _ => .xc c
def tgD (S : Sto) : D → Option Tg
  | .p x => some (tgP x)
  | .ref i => match S[i]? with
    | some (.lst _) => some .lst
    | some (.dct _ _) => some .dct
    | some (.ins c _ _) => some (.cls c)
    | _ => none
  | .fn _ _ _ _ _ => none
/-- what isinstance asks of an own class, of an own exception -/
structure InsC (K : PySem.W.Frag) (C : Addr) : Prop where
  cl : Cls K C
  ha : PySem.W.findIn K (.ref C) "__class__" = some (some (.builtin "object.__class__"))
  hn : PySem.W.specialIn K (.builtin "object.__class__") "__get__" = some (some (.builtin "getset_descriptor.__get__"))
  ht : PySem.W.takesIn K (.builtin "object.__class__") = some true
  hm : PySem.W.mroIn K C (.type "object") = some true
structure ExcK (K : PySem.W.Frag) (C : Addr) : Prop where
  hcl : (PySem.W.clsIn K C).isSome = true
  ga : PySem.W.findIn K (.ref C) "__getattribute__" = some (some (.builtin "BaseException.__getattribute__"))
  gg : PySem.W.findIn K (.ref C) "__getattr__" = some none
  hs : PySem.W.subIn K (.ref C) (.type "BaseException") = some true
  ha : PySem.W.findIn K (.ref C) "__class__" = some (some (.builtin "object.__class__"))
  hn : PySem.W.specialIn K (.builtin "object.__class__") "__get__" = some (some (.builtin "getset_descriptor.__get__"))
  ht : PySem.W.takesIn K (.builtin "object.__class__") = some true
  hm : PySem.W.mroIn K C (.type "object") = some true
def TgOk (G : Gc) : Tg → Prop
  | .cls c => InsC G.K (G.cl c)
  | .xc c => ExcK G.K (G.cl c)
  | _ => True
theorem ty_tup (hk : X.K = G.K) {a : Addr} {vs : List V} (t : TupAt G W a vs) : TyX X.K W.H (.ref a) (.type "tuple") := by
  rcases t with ⟨_, h | ⟨o, h⟩⟩ | ⟨o, _, _, e, c, _⟩
  · exact .base (.tup h)
  · exact .fTuple h
  · exact .kTuple (by rw [hk]; exact e) c
/-- the exception's object as it lies -/
theorem xobj_at {pins : List (Addr × Obj)} {s : Shared} {H : Hp} (I : Inv X pins σ H s) {a C : Addr} {dx : Option Addr} (h : H a = some (XObj (.ref C) dx a)) (hdx : dx = none ∨ ∃ d0 fs, dx = some d0 ∧ H d0 = some (.xd fs)) :
    ∃ oe od, PySem.W.InstAt s.heap a oe C od ∧ (∀ d0 fs, dx = some d0 → H d0 = some (.xd fs) → ∃ (o : Obj) (mA : Str → Option Value), od = some o ∧ (∀ f, PySem.W.lookIn f o = some (mA f)) ∧ ∀ f, RelO (fs.lookup f) (mA f)) := by
  obtain ⟨⟨oe, vs, h1, ⟨h2, h3⟩, h4⟩, _, _⟩ := I.hok a _ h
  rcases hdx with rfl | ⟨d0, fs, rfl, hd⟩
  · exact ⟨oe, none, ⟨h1, h2, by unfold PySem.W.notCls; rw [h4] <;> rfl, by rw [h3]; trivial⟩, fun _ _ z => nomatch z⟩
  · obtain ⟨mA, hns, hr⟩ := (show ObjOk X.prog X.w H s.heap d0 (.xd fs) from I.hok d0 _ hd)
    obtain ⟨od, ho, hl⟩ := lookIn_ns hns
    refine ⟨oe, some od, ⟨h1, h2, by unfold PySem.W.notCls; rw [h4] <;> rfl, by rw [h3]; exact ho⟩, fun d1 fs1 e1 e2 => ?_⟩
    cases e1
    rw [hd] at e2
    cases e2
    exact ⟨od, mA, rfl, hl, hr⟩
theorem kit_tg {pins : List (Addr × Obj)} {s : Shared} (cg : CtxG G X k) (I : Inv X pins σ W.H s) (st : StRep G W Z S) {d : D} {v : V} {u : Value} {tg : Tg} (e : tgD S d = some tg) (ok : TgOk G tg) (r : RepD G W d v) (rv : RelV v u) :
    ∃ P : Heap → Prop, PySem.W.KitX X.K u (tyV G tg) P ∧ P s.heap ∧ u ≠ .builtin "__main__.__loader__#opaque" := by
  cases d with
  | fn _ _ _ _ _ => simp [tgD] at e
  | ref i =>
    have rr := r.2
    subst rr
    simp only [tgD] at e
    split at e
    · rename_i ds hs
      cases e
      obtain ⟨_, _, vs, h1, _⟩ := st.obj i _ hs rfl
      exact kit_of I rv (.base (.lst h1))
    · rename_i ks ds hs
      cases e
      obtain ⟨_, _, vs, _, h1⟩ := st.obj i _ hs rfl
      rcases h1 with ⟨kk, _, _, h1⟩ | ⟨_, kk, _, _, h1⟩
      · exact kit_of I rv (.base (.dK h1))
      · exact kit_of I rv (.base (.dT h1))
    · rename_i c ns ds hs
      cases e
      obtain ⟨_, _, dx, vs, h1, _, _⟩ := st.obj i _ hs rfl
      have ok' : InsC G.K (G.cl c) := ok
      rw [← cg.kk] at ok'
      exact kit_of I rv (.base (.ins h1 ok'.cl ok'.ha ok'.hn ok'.ht ok'.hm))
    · cases e
  | p x =>
    simp only [tgD, Option.some.injEq] at e
    subst e
    cases x with
    | non => rw [rep_non r] at rv; exact kit_of I rv (.base .non)
    | bl b => rw [rep_bl r] at rv; exact kit_of I rv (.base (.bl b))
    | int b => rw [rep_int r] at rv; exact kit_of I rv (.base (.int b))
    | str b => rw [rep_str r] at rv; exact kit_of I rv (.base (.str b))
    | tup b => obtain ⟨a, vs, rfl, t, _⟩ := rep_tup r; exact kit_of I rv (ty_tup cg.kk t)
    | lst b => obtain ⟨a, vs, rfl, t, _⟩ := rep_lst r; exact kit_of I rv (.base (.lst t.2))
    | fz b =>
      simp only [RepD, Rep] at r
      obtain ⟨a, vs, rfl, t, _⟩ := r
      rcases t with ⟨_, o, h⟩ | ⟨o, _, _, e, c, _⟩
      · exact kit_of I rv (.base (.frz h))
      · exact kit_of I rv (.kList (by rw [cg.kk]; exact e) c)
    | dct ks b =>
      simp only [RepD, Rep] at r
      obtain ⟨a, vs, rfl, t, _⟩ := r
      rcases t with ⟨_, kk, _, _, h | ⟨o, h⟩⟩ | ⟨_, kk, _, _, h | ⟨o, h⟩⟩
      · exact kit_of I rv (.base (.dK h))
      · exact kit_of I rv (.fDict h)
      · exact kit_of I rv (.base (.dT h))
      · cases (show u = Value.ref a from rv)
        obtain ⟨_, _, _, xs, _, o2, es, ep, h1, h2, _⟩ := (show ObjOk X.prog X.w W.H s.heap a (.frz o (.dT _)) from I.hok a _ h)
        exact ⟨_, PySem.W.kitx_dict, ⟨o2, h1, h2.1⟩, fun z => nomatch z⟩
    | obj c ns ds =>
      simp only [RepD, Rep] at r
      obtain ⟨a, dx, vs, rfl, nu, h1, l, r⟩ := r
      have ok' : InsC G.K (G.cl c) := ok
      rw [← cg.kk] at ok'
      exact kit_of I rv (.base (.ins h1 ok'.cl ok'.ha ok'.hn ok'.ht ok'.hm))
    | exc c ns ds =>
      simp only [RepD, Rep] at r
      obtain ⟨a, dx, rfl, nu, h1, h2⟩ := r
      have ok' : ExcK G.K (G.cl c) := ok
      rw [← cg.kk] at ok'
      cases (show u = Value.ref a from rv)
      obtain ⟨oe, od, J, _⟩ := xobj_at I h1 (by
        rcases h2 with ⟨_, _, h⟩ | ⟨d0, vs, e, h3, _⟩
        · exact .inl h
        · exact .inr ⟨d0, _, e, h3⟩)
      exact ⟨_, PySem.W.kitx_exc ok'.hcl ok'.ga ok'.gg ok'.hs ok'.ha ok'.hn ok'.ht ok'.hm, J, fun z => nomatch z⟩
/-- isinstance's answers for one class -/
def IsaTab (G : Gc) (T : Value) (tab : Tg → Option Bool) : Prop := ∀ tg b, tab tg = some b → TgOk G tg ∧ PySem.W.kitOne G.K (tyV G tg) T = some b
def cIsi (tab : Tg → Option Bool) (f : CE') : CE' := fun env S => (f env S).bind fun d S1 => R.ofO S1 (((tgD S1 d).bind tab).map fun b => .p (.bl b))
theorem pf_isi {T : Value} {c : V} {e ce : Expr} {f : CE'} {p pos : Pos} {tab : Tg → Option Bool} (ht : IsaTab G T tab) (cg : CtxG G X k) (hm : X.mg "isinstance" = none) (he : PF G X e f) (hce : PE X ce (tC c)) (kc : ClsV c T) (hg : Gl X "isinstance" := by rfl)
    (h1 : starEach [e, ce] X.env = (false, eval e X.env) :: starEach [ce] X.env := by rfl) (h2 : starEach [ce] X.env = (false, eval ce X.env) :: starEach [] X.env := by rfl) (hpl : (backTo pos (starEach [ce] X.env)).any (·.1) = false := by rfl) :
    PF G X (.Call (.Name "isinstance" p) [e, ce] [] pos) (cIsi tab f) := fun Wx tk => by
  have hc : CallR X (.builtin "isinstance") (fun xs H Q => ∃ Z S W d v tg b, xs = [v, c] ∧ W.H = H ∧ StRep G W Z S ∧ RepD G W d v ∧ tgD S d = some tg ∧ tab tg = some b ∧ Q (.bl b) H) := by
    intro pins s σ H xs us Q I r h
    obtain ⟨Z, S, W, d, v, tg, b, rfl, rfl, st, rd, etg, etab, q⟩ := h
    obtain ⟨u1, u2, rfl, r1, r2⟩ := vals2 r
    have e2 := kc.eq r2
    subst e2
    obtain ⟨ok, ek⟩ := ht tg b etab
    obtain ⟨P, Zk, pk, hx⟩ := kit_tg cg I st etg ok rd r1
    exact PySem.W.kia_one Zk I.kIn pk (by rw [cg.kk]; exact ek) hx fun tk => ⟨.bl b, W.H, I.tok tk, rfl, q⟩
  refine PE.imp (pe_callB hc hg hm (by decide +kernel) (pa_cons (he Wx tk) (pa_cons hce pa_nil h2) h1) (by decide) (by decide) h1 hpl) fun σ H Q h => ?_
  obtain ⟨Z, S, W, env, rfl, st, er, p⟩ := h
  refine ⟨Z, S, W, env, rfl, st, er, (seqEE p).mono fun v H1 h1 => ?_⟩
  obtain ⟨d1, S1, W1, rfl, go1, st1, r1, p1⟩ := h1
  obtain ⟨d, ed, q⟩ := ofO_post p1
  obtain ⟨b, hb, rfl⟩ := Option.map_eq_some_iff.mp ed
  obtain ⟨tg, h1, h2⟩ := Option.bind_eq_some_iff.mp hb
  exact ⟨Z, S1, W1, d1, v, tg, b, rfl, rfl, st1, r1, h1, h2, q _ W1 (Go.refl _ _) st1 (mk_bl _)⟩
/-- isinstance(x, (c1, c2, ..)) -/
def IsaTabs (G : Gc) (Ts : List Value) (tab : Tg → Option Bool) : Prop := ∀ tg b, tab tg = some b → TgOk G tg ∧ PySem.W.kitAny G.K (tyV G tg) Ts = some b
/-- class expressions -/
inductive PCls (X : Cx) : List Expr → List V → Prop where
  | nil : PCls X [] []
  | cons {e : Expr} {es : List Expr} {c : V} {cs : List V} (h : PE X e (tC c)) (hr : PCls X es cs) (hs : starEach (e :: es) X.env = (false, eval e X.env) :: starEach es X.env) : PCls X (e :: es) (c :: cs)
def tConsts (cs : List V) : TA := fun _ H Q => Q cs H
theorem PCls.pa {es : List Expr} {cs : List V} (h : PCls X es cs) : PA X es (tConsts cs) := by
  induction h with
  | nil => exact PA.imp pa_nil fun σ H Q h => h
  | cons h hr hs ih => exact PA.imp (pa_cons h ih hs) fun σ H Q h => h
theorem pf_isiT {Ts : List Value} {cs : List V} {e : Expr} {ces : List Expr} {f : CE'} {p pos tp : Pos} {kk} {tab : Tg → Option Bool} (ht : IsaTabs G Ts tab) (cg : CtxG G X k) (hm : X.mg "isinstance" = none) (he : PF G X e f) (hce : PCls X ces cs) (kc : Paired ClsV cs Ts) (hlen : cs.length ≤ 100) (hg : Gl X "isinstance" := by rfl)
    (h1 : starEach [e, .Tuple ces kk tp] X.env = (false, eval e X.env) :: starEach [.Tuple ces kk tp] X.env := by rfl) (h2 : starEach [.Tuple ces kk tp] X.env = (false, eval (.Tuple ces kk tp) X.env) :: starEach [] X.env := by rfl) (hpl : (backTo pos (starEach [.Tuple ces kk tp] X.env)).any (·.1) = false := by rfl) :
    PF G X (.Call (.Name "isinstance" p) [e, .Tuple ces kk tp] [] pos) (cIsi tab f) := fun Wx tk => by
  have hc : CallR X (.builtin "isinstance") (fun xs H Q => ∃ Z S W d v tg b tpa, xs = [v, .ref tpa] ∧ W.H = H ∧ StRep G W Z S ∧ RepD G W d v ∧ H tpa = some (.tup cs) ∧ tgD S d = some tg ∧ tab tg = some b ∧ Q (.bl b) H) := by
    intro pins s σ H xs us Q I r h
    obtain ⟨Z, S, W, d, v, tg, b, tpa, rfl, rfl, st, rd, hT, etg, etab, q⟩ := h
    obtain ⟨u1, u2, rfl, r1, r2⟩ := vals2 r
    cases (show u2 = Value.ref tpa from r2)
    obtain ⟨ok, ek⟩ := ht tg b etab
    obtain ⟨P, Zk, pk, hx⟩ := kit_tg cg I st etg ok rd r1
    obtain ⟨_, its, rv, o, h1, h2, n, h3⟩ := (show ObjOk X.prog X.w W.H s.heap tpa (.tup cs) from I.hok tpa _ hT)
    have e3 := ClsV.all kc rv
    subst e3
    obtain ⟨oc, od, dt, sl⟩ := o
    simp only at h2 h3
    subst h2 h3
    exact PySem.W.kia_tup Zk I.kIn pk h1 (by rw [cg.kk]; exact ek) hx fun tk => ⟨.bl b, W.H, I.tok tk, rfl, q⟩
  refine PE.imp (pe_callB hc hg hm (by decide +kernel) (pa_cons (he Wx tk) (pa_cons (pe_tup hce.pa) pa_nil h2) h1) (by decide) (by decide) h1 hpl) fun σ H Q h => ?_
  obtain ⟨Z, S, W, env, rfl, st, er, p⟩ := h
  refine ⟨Z, S, W, env, rfl, st, er, (seqEE p).mono fun v H1 h1 => ?_⟩
  obtain ⟨d1, S1, W1, rfl, go1, st1, r1, p1⟩ := h1
  refine ⟨small_sz _ (by omega), fun q np => ?_⟩
  obtain ⟨d, ed, qq⟩ := ofO_post p1
  obtain ⟨b, hb, rfl⟩ := Option.map_eq_some_iff.mp ed
  obtain ⟨tg, h1, h2⟩ := Option.bind_eq_some_iff.mp hb
  have go2 := put_go st1 np (.tup cs)
  exact ⟨Z, S1, W1.put q (.tup cs), d1, v, tg, b, q, rfl, rfl, put_st st1 np _, RepD.ext go2.toExt r1, upd_same, h1, h2, qq _ _ go2 (put_st st1 np _) (mk_bl _)⟩
/-! ### the field of a caught exception -/
def dXf (f : Str) (ok : Nat → Bool) (d : D) : Option D := match d with
  | .p (.exc c ns vs) => if ok c = true then (getField ns vs f).map D.p else none
  | _ => none
def cXf (f : Str) (ok : Nat → Bool) (fo : CE') : CE' := fun env S => (fo env S).bind fun d S1 => R.ofO S1 (dXf f ok d)
theorem pf_xf {o : Expr} {f : Str} {ok : Nat → Bool} {fo : CE'} {pos : Pos} (cg : CtxG G X k) (T : ∀ c, ok c = true → XfC G.K (G.cl c) ∧ PySem.W.findIn G.K (.ref (G.cl c)) f = some none) (ho : PF G X o fo) (hb : attributeBase o f X.env (eval o X.env) = eval o X.env := by rfl) :
    PF G X (.Attribute o f pos) (cXf f ok fo) := fun Wx tk => by
  refine ⟨fun pins s σ H Q I h => ?_⟩
  obtain ⟨Z, S, W, env, rfl, st, er, pp⟩ := h
  refine attr_of hb (thn ((ho Wx tk).run pins s σ W.H _ I ⟨Z, S, W, env, rfl, st, er, seqEE pp⟩) fun u s1 h1 => ?_)
  obtain ⟨v, H1, I1, rv, d1, S1, W1, rfl, go1, st1, r1, p1⟩ := h1
  obtain ⟨d, ed, q⟩ := ofO_post p1
  unfold dXf at ed
  split at ed
  · rename_i c ns vs
    split at ed
    · rename_i hok
      obtain ⟨x, hx, rfl⟩ := Option.map_eq_some_iff.mp ed
      obtain ⟨T1, T2⟩ := T c hok
      rw [← cg.kk] at T1 T2
      simp only [RepD, Rep] at r1
      obtain ⟨a, dx, rfl, nu, e1, h2⟩ := r1
      cases (show u = Value.ref a from rv)
      rcases h2 with ⟨rfl, rfl, rfl⟩ | ⟨d0, us, rfl, e2, nu2, l, rr⟩
      · simp [getField] at hx
      · obtain ⟨oe, od, J, hJ⟩ := xobj_at I1 e1 (.inr ⟨d0, _, rfl, e2⟩)
        obtain ⟨od', mA, rfl, hl, hr⟩ := hJ d0 _ rfl e2
        obtain ⟨w, hw, rw'⟩ := getField_rep hx rr
        obtain ⟨u, hu, ru⟩ := RelO.some_of (v := w) (o := mA f) (by rw [← hw]; exact hr f)
        exact HandSPX.exc_get I1.kIn J T1.ga T1.gg T1.exC (PySem.W.findObj_own T1.hdC T2 rfl (by rw [hl, hu])) (handed_of ru) ⟨w, W1.H, I1.tok _, ru, q w W1 (Go.refl _ _) st1 rw'⟩
    · cases ed
  · cases ed
end
end Fe

set_option Elab.async false
set_option linter.all false
set_option maxRecDepth 100000
set_option maxHeartbeats 1000000
namespace Fe
open PySem PySem.Spec PyProof.Rows L2

section
variable {G : Gc} {Wx : WX} {Z : Addr → Prop} {W : Wd} {S : Sto} {σ : L2.St} {X : Cx} {k j : Nat}
/-! ### writing at a place -/
def Wd.wrp (W : Wd) (a : Addr) (o : HO) : Wd := { W with H := upd W.H a o }
theorem wrp_go (st : StRep G W Z S) {i : Nat} {so : SO} (e : S[i]? = some so) (l : so.live = true) (o : HO) : Go Z W (W.wrp (W.ρ i) o) := by
  obtain ⟨h1, h2, _⟩ := st.obj i so e l
  refine ⟨⟨⟨fun a q _ h u => ⟨?_, u⟩⟩, fun _ _ => rfl, Nat.le_refl _⟩, fun a z => ?_⟩
  · show upd W.H (W.ρ i) o a = _
    rw [upd_ne (fun z : a = W.ρ i => u (by rw [z]; exact h1))]; exact h
  · show upd W.H (W.ρ i) o a = _
    rw [upd_ne (fun q : a = W.ρ i => h2 (by rw [← q]; exact z))]
theorem wrp_st (st : StRep G W Z S) {i : Nat} {so so' : SO} (e : S[i]? = some so) (l : so.live = true) {o : HO} (l' : so'.live = true) (ho : ObjR G (W.wrp (W.ρ i) o) (W.ρ i) so') : StRep G (W.wrp (W.ρ i) o) Z (S.set i so') := by
  have go := wrp_go st e l o
  obtain ⟨h1, h2, h3⟩ := st.obj i so e l
  have htc := obj_tc l h3
  have hi : i < S.length := (List.getElem?_eq_some_iff.mp e).1
  refine ⟨tabs_ext st.tab (fun b ps h => (upd_ne (fun e : b = W.ρ i => htc.1 ps (by rw [← e]; exact h))).trans h) (fun b q h => (upd_ne (fun e : b = W.ρ i => htc.2 b q (by rw [← e]; exact h))).trans h), by rw [List.length_set]; exact st.len, st.zu, fun a u => ?_, fun j so1 h l1 => ?_, fun j j' so1 so2 a1 a2 l1 l2 q => ?_, fun a u => ?_⟩
  · by_cases ha : a = W.ρ i
    · exact ⟨o, by show upd W.H (W.ρ i) o a = _; rw [ha, upd_same], obj_nc l' ho upd_same⟩
    · obtain ⟨q, h, n⟩ := st.ut a u
      exact ⟨q, by show upd W.H (W.ρ i) o a = _; rw [upd_ne ha]; exact h, n⟩
  · by_cases hj : i = j
    · subst hj
      rw [List.getElem?_set_self hi] at h
      cases h
      exact ⟨h1, h2, ho⟩
    · rw [List.getElem?_set_ne hj] at h
      obtain ⟨b1, b2, b3⟩ := st.obj j so1 h l1
      have ne : W.ρ j ≠ W.ρ i := fun q => hj (st.inj j i so1 so h e l1 l q).symm
      exact ⟨b1, b2, ObjR.ext go.toExt (by show upd W.H (W.ρ i) o (W.ρ j) = _; exact upd_ne ne) b3⟩
  · have back : ∀ {j : Nat} {so3 : SO}, (S.set i so')[j]? = some so3 → so3.live = true → ∃ so4, S[j]? = some so4 ∧ so4.live = true := fun {j so3} h l3 => by
      by_cases hj : i = j
      · subst hj; exact ⟨so, e, l⟩
      · rw [List.getElem?_set_ne hj] at h; exact ⟨so3, h, l3⟩
    obtain ⟨s3, b1, b2⟩ := back a1 l1
    obtain ⟨s4, c1, c2⟩ := back a2 l2
    exact st.inj j j' s3 s4 b1 c1 b2 c2 q
  · rcases st.back a u with z | ⟨j, so1, h, l1, q⟩
    · exact .inl z
    · by_cases hj : i = j
      · subst hj
        exact .inr ⟨i, so', by rw [List.getElem?_set_self hi], l', q⟩
      · exact .inr ⟨j, so1, by rw [List.getElem?_set_ne hj]; exact h, l1, q⟩
theorem wrp_lst (st : StRep G W Z S) {i : Nat} {so : SO} (e : S[i]? = some so) (l : so.live = true) {ys : List P} {us : List V} (r : Reps G W ys us) : StRep G (W.wrp (W.ρ i) (.lst us)) Z (S.set i (.lst ys)) :=
  wrp_st st e l rfl ⟨us, upd_same, Reps.ext (wrp_go st e l _).toExt ys r⟩
theorem pureD_len {d : D} {S S1 : Sto} {x : P} (h : pureD d S = some (x, S1)) : S1.length = S.length := by
  cases d with
  | p y => simp only [pureD, Option.some.injEq, Prod.mk.injEq] at h; rw [h.2]
  | fn _ _ _ _ _ => simp [pureD] at h
  | ref i =>
    simp only [pureD] at h
    split at h <;> simp only [Option.some.injEq, Prod.mk.injEq, reduceCtorEq] at h <;> (rw [← h.2, List.length_set])

theorem pureDs_len : ∀ {ds : List D} {S S1 : Sto} {xs : List P}, pureDs ds S = some (xs, S1) → S1.length = S.length
  | [], S, S1, xs, h => by simp only [pureDs, Option.some.injEq, Prod.mk.injEq] at h; rw [h.2]
  | d :: ds, S, S1, xs, h => by
    simp only [pureDs] at h
    split at h
    · rename_i x S2 h1
      split at h
      · rename_i ys S3 h2
        simp only [Option.some.injEq, Prod.mk.injEq] at h
        rw [← h.2, pureDs_len h2, pureD_len h1]
      · cases h
    · cases h

/-! ### o[i] = v -/
/-- an expression that raises nothing -/
def okE (f : CE') (env : DEnv) (S : Sto) : Option (D × Sto) := match f env S with
  | .ok d S1 => some (d, S1)
  | _ => none
def setL (S : Sto) (o ix d : D) : Option Sto := match o, ix with
  | .ref i, .p (.int j) => match pureD d S with
    | some (x, S1) => match S1[i]? with
      | some (.lst xs) => match ixN xs.length j with
        | some n => some (S1.set i (.lst (xs.set n x)))
        | none => none
      | _ => none
    | none => none
  | _, _ => none
def gSet (fo fi : CE') : CG := fun d env S => match okE fo env S with
  | some (o, S1) => match okE fi env S1 with
    | some (ix, S2) => (setL S2 o ix d).map fun S3 => (env, S3)
    | none => none
  | none => none
theorem okE_post {f : CE'} {env : DEnv} {S : Sto} {d : D} {S1 : Sto} {Q : VK} (h : okE f env S = some (d, S1)) (q : ∀ v W1, Go Z W W1 → StRep G W1 Z S1 → RepD G W1 d v → Q v W1.H) : PostE G Wx Z W σ Q (f env S) := by
  unfold okE at h
  cases hf : f env S with
  | bad => rw [hf] at h; cases h
  | exc c ns ds S' => rw [hf] at h; cases h
  | ok d' S' =>
    rw [hf] at h
    cases h
    exact q
theorem pfg_set {o ie : Expr} {fo fi : CE'} {pos : Pos} (ho : PF G X o fo) (hi : PF G X ie fi)
    (ha : ∀ v, assign (.Subscript o ie pos) X.env v = (do
      let ov ← holding [v] (eval o X.env)
      let iv ← holding [v, ov] (eval ie X.env)
      standAt pos
      holding [v, ov, iv] (setItem ov iv v)
      release [v, ov, iv] []) := by intro _; rfl) : PG X (.Subscript o ie pos) (tMG G (gSet fo fi)) := by
  refine PG.imp (pg_sub (ho _ takes_false) (hi _ takes_false) set_list ha) fun v σ H Q h => ?_
  obtain ⟨Z, S, W, env, d, env', S', rfl, st, er, r, e, q⟩ := h
  unfold gSet at e
  split at e
  · rename_i od S1 h1
    split at e
    · rename_i ix S2 h2
      obtain ⟨S3, h3, e⟩ := Option.map_eq_some_iff.mp e
      cases e
      refine ⟨Z, S, W, env, rfl, st, er, okE_post h1 fun ov W1 go1 st1 r1 => ?_⟩
      refine ⟨Z, S1, W1, env, rfl, st1, er.ext go1.toExt, okE_post h2 fun iv W2 go2 st2 r2 => ?_⟩
      unfold setL at h3
      split at h3
      · rename_i i jj
        split at h3
        · rename_i x S4 hp
          obtain ⟨W4, e4, g4, s4, r4⟩ := pureD_rep st2 hp (RepD.ext (go1.trans go2).toExt r)
          split at h3
          · rename_i xs hs
            split at h3
            · rename_i n hn
              cases h3
              obtain ⟨u1, u2, vs, h5, h6⟩ := s4.obj i _ hs rfl
              have ro := (RepD.ext (go2.trans g4).toExt r1)
              have len := Reps.length _ _ h6
              refine ⟨W4.ρ i, vs, jj, n, ro.2, rep_int r2, by rw [← e4]; exact h5, by rw [← len]; exact hn, ?_⟩
              have r5 := Reps.set (G := G) (W := W4) n h6 r4
              have go5 := wrp_go s4 hs rfl (.lst (vs.set n v))
              have := q σ (W4.wrp (W4.ρ i) (.lst (vs.set n v))) ((go1.trans go2).trans (g4.trans go5)) (wrp_lst s4 hs rfl r5) (er.ext ((go1.trans go2).trans (g4.trans go5)).toExt)
              have e6 : (W4.wrp (W4.ρ i) (.lst (vs.set n v))).H = upd W2.H (W4.ρ i) (.lst (vs.set n v)) := by show upd W4.H _ _ = _; rw [e4]
              rw [e6] at this
              exact this
            · cases h3
          · cases h3
        · cases h3
      · cases h3
    · cases e
  · cases e

/-! ### the methods of a list that stands at a place -/
def lmS (m : List P → List P → Option (P × List P)) (S : Sto) (o : D) (ds : List D) : R D := match o with
  | .ref i => match pureDs ds S with
    | some (xs, S1) => match S1[i]? with
      | some (.lst ys) => match m ys xs with
        | some (x, zs) => .ok (.p x) (S1.set i (.lst zs))
        | none => .bad
      | _ => .bad
    | none => .bad
  | _ => .bad
def isL (S : Sto) : D → Bool
  | .ref i => match S[i]? with
    | some (.lst _) => true
    | _ => false
  | _ => false
def cLm (m : List P → List P → Option (P × List P)) (fo : CE') (fa : CA) : CE' := fun env S => (fo env S).bind fun o S1 => if isL S1 o = true then (fa env S1).bind fun ds S2 => lmS m S2 o ds else .bad
/-- what a list's method does, by values -/
def LmOk (G : Gc) (m : List P → List P → Option (P × List P)) (r : V → List V → Hp → VK → Prop) : Prop := ∀ (W : Wd) (a : Addr) (ys xs : List P) (vs ws : List V) (x : P) (zs : List P) (Q : VK), W.H a = some (.lst vs) → Reps G W ys vs → Reps G W xs ws → m ys xs = some (x, zs) →
  (∀ v us, Rep G W x v → Reps G W zs us → Q v (upd W.H a (.lst us))) → r (.ref a) ws W.H Q
theorem lm_post {m : List P → List P → Option (P × List P)} {r : V → List V → Hp → VK → Prop} (hr : LmOk G m r) (st : StRep G W Z S) {i : Nat} {ds : List D} {ws : List V} {Q : VK} (rd : RepDs G W ds ws) (p : PostE G Wx Z W σ Q (lmS m S (.ref i) ds)) : r (.ref (W.ρ i)) ws W.H Q := by
  simp only [lmS] at p
  split at p
  · rename_i xs S1 hp
    obtain ⟨W2, e2, g2, s2, r2⟩ := pureDs_rep st hp rd
    split at p
    · rename_i ys hs
      split at p
      · rename_i x zs hm
        obtain ⟨u1, u2, vs, h5, h6⟩ := s2.obj i _ hs rfl
        have hi : i < W.n := by
          have h7 := (List.getElem?_eq_some_iff.mp hs).1
          rw [st.len]
          have := pureDs_len hp
          omega
        have rho : W2.ρ i = W.ρ i := g2.rho i hi
        rw [← e2, ← rho]
        refine hr W2 (W2.ρ i) ys xs vs ws x zs Q h5 h6 r2 hm fun v us rv ru => ?_
        have go5 := wrp_go s2 hs rfl (.lst us)
        exact p v (W2.wrp (W2.ρ i) (.lst us)) (g2.trans go5) (wrp_lst s2 hs rfl ru) (Rep.ext go5.toExt x rv)
      · exact p.elim
    · exact p.elim
  · exact p.elim
theorem isL_rep (st : StRep G W Z S) {d : D} {v : V} (e : isL S d = true) (r : RepD G W d v) : ∃ i ys vs, d = .ref i ∧ S[i]? = some (.lst ys) ∧ v = .ref (W.ρ i) ∧ W.H (W.ρ i) = some (.lst vs) := by
  cases d with
  | p x => simp [isL] at e
  | fn _ _ _ _ _ => simp [isL] at e
  | ref i =>
    simp only [isL] at e
    split at e
    · rename_i ys hs
      obtain ⟨u1, u2, vs, h5, h6⟩ := st.obj i _ hs rfl
      exact ⟨i, ys, vs, rfl, hs, r.2, h5⟩
    · cases e
theorem pf_lm {m : List P → List P → Option (P × List P)} {name : Str} {id : String} {r : V → List V → Hp → VK → Prop} {o e : Expr} {es : List Expr} {fo : CE'} {fa : CA} {apos cpos : Pos} (hr : LmOk G m r) (slot : Slot "list" name id) (hty : typeOf (.builtin id) = pure (.type "method_descriptor")) (hm : MtR X id r) (ho : PF G X o fo) (ha : PFA G X (e :: es) fa)
    (hbase : attributeBase o name X.env (eval o X.env) = eval o X.env := by rfl)
    (hfew : ((backTo cpos (starEach (e :: es) X.env)).all (fun x => !x.1) && (backToKw cpos (keywordEach [] X.env)).all (fun x => x.1.isSome)
      && decide ((e :: es).length + ([] : List Keyword).length + (if ([] : List Keyword).isEmpty then 0 else 1) < 30)) = true := by rfl)
    (hline : (apos.endLine == cpos.line) = true := by rfl) (hs : starEach (e :: es) X.env = (false, eval e X.env) :: starEach es X.env := by rfl) (hplain : (backTo cpos (starEach es X.env)).any (·.1) = false := by rfl) :
    PF G X (.Call (.Attribute o name apos) (e :: es) [] cpos) (cLm m fo fa) := fun Wx tk => by
  refine PE.imp (pe_bm PySem.F.plainAttrs_list slot hty hm (ho Wx tk) (ha Wx tk) hbase hfew hline hs hplain) fun σ H Q h => ?_
  obtain ⟨Z, S, W, env, rfl, st, er, p⟩ := h
  refine ⟨Z, S, W, env, rfl, st, er, (seqEE p).mono fun v H1 h1 => ?_⟩
  obtain ⟨d1, S1, W1, rfl, go1, st1, r1, p1⟩ := h1
  split at p1
  · rename_i hl
    obtain ⟨i, ys, vs, rfl, hs1, rfl, h5⟩ := isL_rep st1 hl r1
    refine ⟨.inl ⟨rfl, vs, .inl (.inl h5)⟩, Z, S1, W1, env, rfl, st1, er.ext go1.toExt, (seqAE p1).mono fun ws H2 h2 => ?_⟩
    obtain ⟨ds, S2, W2, rfl, go2, st2, r2, p2⟩ := h2
    have := lm_post hr st2 (i := i) r2 p2
    rw [go2.rho i (by rw [st1.len]; exact (List.getElem?_eq_some_iff.mp hs1).1)] at this
    exact this
  · exact p1.elim
theorem pf_lm0 {m : List P → List P → Option (P × List P)} {name : Str} {id : String} {r : V → List V → Hp → VK → Prop} {o : Expr} {fo : CE'} {apos cpos : Pos} (hr : LmOk G m r) (slot : Slot "list" name id) (hty : typeOf (.builtin id) = pure (.type "method_descriptor")) (hm : MtR X id r) (ho : PF G X o fo)
    (hbase : attributeBase o name X.env (eval o X.env) = eval o X.env := by rfl) (hline : (apos.endLine == cpos.line) = true := by rfl) : PF G X (.Call (.Attribute o name apos) [] [] cpos) (cLm m fo cNil) := fun Wx tk => by
  refine PE.imp (pe_bm0 PySem.F.plainAttrs_list slot hty hm (ho Wx tk) hbase hline) fun σ H Q h => ?_
  obtain ⟨Z, S, W, env, rfl, st, er, p⟩ := h
  refine ⟨Z, S, W, env, rfl, st, er, (seqEE p).mono fun v H1 h1 => ?_⟩
  obtain ⟨d1, S1, W1, rfl, go1, st1, r1, p1⟩ := h1
  split at p1
  · rename_i hl
    obtain ⟨i, ys, vs, rfl, hs1, rfl, h5⟩ := isL_rep st1 hl r1
    have p2 : PostE G Wx Z W1 σ Q (lmS m S1 (.ref i) []) := p1
    exact ⟨.inl ⟨rfl, vs, .inl (.inl h5)⟩, lm_post hr st1 (i := i) (ds := []) (ws := []) True.intro p2⟩
  · exact p1.elim
/-- append, extend, pop, reverse, clear -/
def mAppend (ys xs : List P) : Option (P × List P) := match xs with
  | [x] => if ys.length < sizeLine then some (.non, ys ++ [x]) else none
  | _ => none
theorem mAppend_ok : LmOk G mAppend rAppend := fun W a ys xs vs ws x zs Q hH r1 r2 hm q => by
  unfold mAppend at hm
  split at hm
  · split at hm
    · rename_i y hl
      cases hm
      cases ws with
      | nil => simp [Reps] at r2
      | cons w ws =>
        cases ws with
        | cons _ _ => simp [Reps] at r2
        | nil => exact ⟨a, vs, w, rfl, rfl, hH, by rw [← Reps.length _ _ r1]; exact hl, q _ _ (by simp only [Rep]) (Reps.append _ _ r1 r2)⟩
    · cases hm
  · cases hm
def mPop (ys xs : List P) : Option (P × List P) := match xs with
  | [] => match ys[ys.length - 1]? with
    | some y => some (y, ys.dropLast)
    | none => none
  | _ => none
theorem Reps.dropLast : ∀ {ds : List P} {vs : List V}, Reps G W ds vs → Reps G W ds.dropLast vs.dropLast
  | [], [], h => h
  | [], _ :: _, h => by simp [Reps] at h
  | _ :: _, [], h => by simp [Reps] at h
  | [d], [v], h => by simp [Reps]
  | [d], _ :: _ :: _, h => by simp [Reps] at h
  | _ :: _ :: _, [_], h => by simp [Reps] at h
  | d :: d' :: ds, v :: v' :: vs, h => by
    simp only [Reps] at h
    simp only [List.dropLast_cons_cons, Reps]
    exact ⟨h.1, Reps.dropLast (ds := d' :: ds) (vs := v' :: vs) (by simp only [Reps]; exact h.2)⟩
theorem mPop_ok : LmOk G mPop rPop := fun W a ys xs vs ws x zs Q hH r1 r2 hm q => by
  unfold mPop at hm
  split at hm
  · split at hm
    · rename_i y hl
      cases hm
      obtain ⟨v, hv, rv⟩ := Reps.get _ _ r1 hl
      cases ws with
      | cons w ws => simp [Reps] at r2
      | nil => exact ⟨a, vs, v, rfl, rfl, hH, by rw [← Reps.length _ _ r1]; exact hv, q _ _ rv (Reps.dropLast r1)⟩
    · cases hm
  · cases hm
theorem Reps.reverse : ∀ {ds : List P} {vs : List V}, Reps G W ds vs → Reps G W ds.reverse vs.reverse
  | [], [], h => h
  | [], _ :: _, h => by simp [Reps] at h
  | _ :: _, [], h => by simp [Reps] at h
  | d :: ds, v :: vs, h => by
    simp only [Reps] at h
    rw [List.reverse_cons, List.reverse_cons]
    exact Reps.append _ _ (Reps.reverse h.2) (by simp only [Reps]; exact ⟨h.1, trivial⟩)
def mReverse (ys xs : List P) : Option (P × List P) := match xs with
  | [] => some (.non, ys.reverse)
  | _ => none
theorem mReverse_ok : LmOk G mReverse rReverse := fun W a ys xs vs ws x zs Q hH r1 r2 hm q => by
  unfold mReverse at hm
  split at hm
  · cases hm
    cases ws with
    | cons w ws => simp [Reps] at r2
    | nil => exact ⟨a, vs, rfl, rfl, hH, q _ _ (by simp only [Rep]) (Reps.reverse r1)⟩
  · cases hm
def mClear (ys xs : List P) : Option (P × List P) := match xs with
  | [] => some (.non, [])
  | _ => none
theorem mClear_ok : LmOk G mClear rClear := fun W a ys xs vs ws x zs Q hH r1 r2 hm q => by
  unfold mClear at hm
  split at hm
  · cases hm
    cases ws with
    | cons w ws => simp [Reps] at r2
    | nil => exact ⟨a, vs, rfl, rfl, hH, q _ _ (by simp only [Rep]) (by simp only [Reps])⟩
  · cases hm
def mExtend (ys xs : List P) : Option (P × List P) := match xs with
  | [.lst zs] => if ys.length + zs.length ≤ sizeLine then some (.non, ys ++ zs) else none
  | _ => none
theorem mExtend_ok : LmOk G mExtend rExtend := fun W a ys xs vs ws x zs Q hH r1 r2 hm q => by
  unfold mExtend at hm
  split at hm
  · split at hm
    · rename_i y hl
      cases hm
      cases ws with
      | nil => simp [Reps] at r2
      | cons w ws =>
        cases ws with
        | cons _ _ => simp [Reps] at r2
        | nil =>
          simp only [Reps] at r2
          obtain ⟨b, us, rfl, t, r⟩ := rep_lst (show RepD G W (.p (.lst y)) w from r2.1)
          exact ⟨a, b, vs, us, rfl, rfl, hH, t.2, by rw [← Reps.length _ _ r1, ← Reps.length _ _ r]; exact hl, q _ _ (by simp only [Rep]) (Reps.append _ _ r1 r)⟩
    · cases hm
  · cases hm

/-! ### while -/
/-- a loop of at most n turns -/
def whL (t : CT) (b : CS) : Nat → DEnv → Sto → RS
  | 0, _, _ => .bad
  | n + 1, env, S => (t env S).toST env fun c S1 => if c = true then (match b env S1 with
      | .nx e S2 => whL t b n e S2
      | .ct e S2 => whL t b n e S2
      | .bk e S2 => .nx e S2
      | .rt x S2 => .rt x S2
      | .exc c ns vs e S2 => .exc c ns vs e S2
      | .bad => .bad) else .nx env S1
def sWhile (t : CT) (b : CS) (fuel : DEnv → Sto → Nat) : CS := fun env S => whL t b (fuel env S) env S
theorem pfs_while {c : Expr} {body : List Stmt} {t : CT} {b : CS} {pos : Pos} (fuel : DEnv → Sto → Nat) (own : PassesOwn (model X.prog X.w) X.A X.env X.xe) (hc : PFT G X c t) (hb : PFSs G X body b) : PFS G X (.While c body [] pos) (sWhile t b fuel) := fun Wx tk => by
  refine PS.imp (ps_while own (hc Wx tk) (hb Wx tk)) fun En σ H h => ?_
  obtain ⟨Z, S, W, env, rfl, st, er, p⟩ := h
  refine ⟨fun m σ H => ∃ W2 S2 env2, W2.H = H ∧ Go Z W W2 ∧ StRep G W2 Z S2 ∧ EnvR G W2 env2 σ ∧ PostS G Wx Z W2 En (whL t b m env2 S2), ⟨_, W, S, env, rfl, Go.refl _ _, st, er, p⟩, ?_⟩
  rintro m σ2 H2 ⟨W2, S2, env2, rfl, go2, st2, er2, p2⟩
  cases m with
  | zero => exact p2.elim
  | succ m =>
    simp only [whL] at p2
    refine ⟨Z, S2, W2, env2, rfl, st2, er2, (seqTS er2 p2).mono fun cc H1 h1 => ?_⟩
    obtain ⟨S3, W3, rfl, go3, st3, p3⟩ := h1
    cases cc with
    | false => exact p3 σ2 W3 (Go.refl _ _) st3 (er2.ext go3.toExt)
    | true =>
      rw [if_pos rfl] at p3 ⊢
      refine ⟨fun σ' H' => ∃ m', m' < m + 1 ∧ ∃ W2 S2 env2, W2.H = H' ∧ Go Z W W2 ∧ StRep G W2 Z S2 ∧ EnvR G W2 env2 σ' ∧ PostS G Wx Z W2 En (whL t b m' env2 S2), fun σ' H' hN => hN, Z, S3, W3, env2, rfl, st3, er2.ext go3.toExt, ?_⟩
      cases hbb : b env2 S3 with
      | bad => rw [hbb] at p3; exact p3
      | nx e S5 => rw [hbb] at p3; exact fun σ5 W5 go5 st5 er5 => ⟨m, Nat.lt_succ_self _, W5, S5, e, rfl, go2.trans (go3.trans go5), st5, er5, PostS.shift go5 p3⟩
      | ct e S5 => rw [hbb] at p3; exact fun σ5 W5 go5 st5 er5 => ⟨m, Nat.lt_succ_self _, W5, S5, e, rfl, go2.trans (go3.trans go5), st5, er5, PostS.shift go5 p3⟩
      | bk e S5 => rw [hbb] at p3; exact fun σ5 W5 go5 st5 er5 => p3 σ5 W5 go5 st5 er5
      | rt e S5 => rw [hbb] at p3; exact fun σ5 W5 go5 st5 er5 => p3 σ5 W5 go5 st5 er5
      | exc c ns vs e S5 => rw [hbb] at p3; exact fun σ5 a1 a2 W5 go5 st5 er5 x5 => p3 σ5 a1 a2 W5 go5 st5 er5 x5

/-! ### raise C('text') -/
def sRaise (c : Nat) : CS := fun env S => .exc c [] [] env S
theorem pfs_raise {c : Nat} {bmB : List Value} {B newId initId : String} {x m : Str} {jj : Nat} {p p2 pos pos' : Pos} (F : ExcBaseFacts B newId initId bmB) (q : PySem.W.excIn G.K (G.cl c) bmB newId = true) (kC : PySem.W.keepIn G.K (.ref (G.cl c)) = true) (h1 : PySem.W.subIn G.K (.ref (G.cl c)) (.type "BaseException") = some true) (h2 : PySem.W.typeIn G.K (.ref (G.cl c)) = some (.type "type"))
    (cg : CtxG G X k) (gC : X.mg x = some (.ref (G.cl c))) (hg : Gl X x) (hdb : (x == ("__debug__" : Str)) = false := by decide) : PFS G X (.Raise (some (.Call (.Name x p) [.Constant (.str m) jj p2] [] pos)) none pos') (sRaise c) := fun Wx tk => by
  have q' : PySem.W.excIn X.K (G.cl c) bmB newId = true := cg.kk ▸ q
  have kC' : PySem.W.keepIn X.K (.ref (G.cl c)) = true := cg.kk ▸ kC
  have r : Raises X (.ref (G.cl c)) := raises_own (cg.kk ▸ h1) (cg.kk ▸ h2)
  refine PS.imp (ps_raise cg.calm tk (pmk_own F q' gC kC' r hg hdb)) fun En σ H h => ?_
  obtain ⟨Z, S, W, env, rfl, st, er, p⟩ := h
  exact p σ (.ref (G.cl c)) none W (Go.refl _ _) st er ⟨rfl, .inl ⟨rfl, rfl, rfl⟩⟩
end
end Fe

set_option Elab.async false
set_option linter.all false
set_option maxRecDepth 100000
set_option maxHeartbeats 1000000
namespace Fe
open PySem PySem.Spec PyProof.Rows L2

section
variable {G : Gc} {Wx : WX} {Z : Addr → Prop} {W : Wd} {S : Sto} {σ : L2.St} {X : Cx} {k j : Nat}
/-- an exception's object, caught, is known from here on -/
theorem inv_track {pins : List (Addr × Obj)} {H : Hp} {s : Shared} {a : Addr} {oe : Obj} {vs : Array Value} {cls : Value} {d : Option Addr} (J : Inv X pins σ H s) (na : H a = none) (e : s.heap.get? a = some oe) (z : Zc cls d oe) (dd : oe.data = .fields vs)
    (n0 : X.s_0.heap.get? a = none) (nL : a ≠ X.env.locals) (nP : ∀ p ∈ X.pn ++ pins, p.1 ≠ a) : Inv X pins σ (upd H a (XObj cls d a)) s := by
  have ne : ∀ b u, H b = some u → b ≠ a := fun b u h q => by rw [q, na] at h; cases h
  have nC : ∀ x c, X.env.cells.lookup x = some c → c ≠ a := fun x c h q => by
    obtain ⟨v, o, ho, hd⟩ := J.cell x c h
    rw [q, e] at ho
    cases ho
    rw [dd] at hd
    cases hd
  refine ⟨J.ok, J.os, J.bare, ⟨J.base.keep, J.base.slot, fun b o h1 h2 h3 => ?_, J.base.there, fun b xs h => ?_, fun b o u h => ?_, fun b ps h => ?_⟩, J.loc, J.cell, ?_, fun x c h => ?_, fun p hp => ?_, fun b u h => ?_, J.len⟩
  · rw [upd_ne (fun q : b = a => by rw [q, n0] at h1; cases h1)]
    exact J.base.free b o h1 h2 h3
  · have h' := J.base.tups b xs h
    rw [upd_ne (ne b _ h')]; exact h'
  · have h' := J.base.frzs b o u h
    rw [upd_ne (ne b _ h')]; exact h'
  · obtain ⟨m, h'⟩ := J.base.tbls b ps h
    exact ⟨m, by rw [upd_ne (ne b _ h')]; exact h'⟩
  · rw [upd_ne (Ne.symm nL)]; exact J.free
  · rw [upd_ne (nC x c h)]; exact J.freeC x c h
  · obtain ⟨p1, p2, p3, p4, p5⟩ := J.pin p hp
    exact ⟨p1, by rw [upd_ne (nP p hp)]; exact p2, p3, p4, p5⟩
  · by_cases hb : b = a
    · subst hb
      rw [upd_same] at h
      cases h
      exact ⟨⟨oe, vs, e, z, dd⟩, ⟨oe, e⟩, fun h1 h2 ⟨o1, v1, q1, q2, q3⟩ k => ⟨o1, v1, k o1 q1, q2, q3⟩⟩
    · rw [upd_ne hb] at h
      exact (J.hok b u h).stay (fun c v _ q => q) (fun c q => by rw [upd_ne (ne c _ q)]; exact q) fun c xs q => by rw [upd_ne (ne c _ q)]; exact q
def RS.clr (i : Nat) : RS → RS
  | .nx env S => .nx (env.set i none) S
  | .bk env S => .bk (env.set i none) S
  | .ct env S => .ct (env.set i none) S
  | .rt d S => .rt d S
  | _ => .bad
/-- try: fb / except C as n: fs, where C takes all that fb raises -/
def sTry (tab : Nat → Bool) (i : Nat) (fb fs : CS) : CS := fun env S => match fb env S with
  | .exc c ns vs env' S' => if tab c = true then (fs (env'.set i (some (.p (.exc c ns vs)))) S').clr i else .bad
  | r => r
theorem EnvR.clear {env : DEnv} {i : Nat} (h : EnvR G W env σ) : EnvR G W (env.set i none) (σ.set i none) := by
  refine ⟨by simp [h.1], fun j e hj => ?_⟩
  by_cases hij : i = j
  · subst hij
    by_cases hl : i < env.length
    · rw [List.getElem?_set_self hl] at hj; cases hj
    · rw [List.getElem?_eq_none (by simpa using hl)] at hj; cases hj
  · rw [List.getElem?_set_ne hij] at hj
    obtain ⟨u, h1, h2⟩ := h.2 j e hj
    exact ⟨u, by rw [List.getElem?_set_ne hij]; exact h1, h2⟩
theorem pfs_try {x n : Str} {c : Value} {body suite : List Stmt} {b₀ : Stmt} {np pos pos' : Pos} {fb fs : CS} (i : Nat) (tab : Nat → Bool) (cg : CtxG G X k) (hst : X.stack = X.env :: X.outer) (hf : X.env.frame = some X.env.locals) (hex : X.ex = []) (hc : Names X x c)
    (ht : ∀ e, tab e = true → PySem.W.exmOne G.K (.ref (G.cl e)) c = some true)
    (hb : ∀ (pn : List (Addr × Obj)) (xe : Value → Shared → Prop), CtxG G (X.tr pn xe) k → PassesOwn (model X.prog X.w) X.A X.env xe → PFSs G (X.tr pn xe) body fb)
    (hsu : ∀ (a : Addr) (pn : List (Addr × Obj)), PFSs G (X.suite a pn) (b₀ :: suite) fs)
    (hi : X.N[i]? = some n := by rfl) (hln : X.env.kindOf n = some .local := by rfl) :
    PFS G X (.Try body [.ExceptHandler (some (.Name x np)) (some n) (b₀ :: suite) pos'] [] [] pos) (sTry tab i fb fs) := fun Wx tk => by
  refine ⟨fun pins s σ H D I h => ?_⟩
  obtain ⟨Z, S, W, env, rfl, st, er, p⟩ := h
  have ok := I.ok
  have hfr : X.A.frames = some (X.env :: X.outer) := by rw [ok.frames, hst]
  -- what is known of the body's exception
  let WB : WX := fun cls d σ' H' => ∃ W' e ns ds env' S', W'.H = H' ∧ Go Z W W' ∧ StRep G W' Z S' ∧ EnvR G W' env' σ' ∧ ExcR G W' e ns ds cls d ∧ fb env S = .exc e ns ds env' S'
  have pb : PostS G WB Z W D (fb env S) := by
    unfold sTry at p
    cases hfb : fb env S with
    | bad => rw [hfb] at p; exact p
    | nx e S2 => rw [hfb] at p; exact p
    | rt e S2 => rw [hfb] at p; exact p
    | bk e S2 => rw [hfb] at p; exact p
    | ct e S2 => rw [hfb] at p; exact p
    | exc c ns ds e S2 => exact fun σ' cls dx W' go st' er' x => ⟨W', c, ns, ds, e, S2, rfl, go, st', er', x, hfb⟩
  refine wpAny_Try_except ?_
  refine wpAny_mono ((hb (X.pn ++ pins) (fun e s₁ => wpAny (model X.prog X.w) X.A (noteFrame e X.env) (fun _ s₂ => wpAny (model X.prog X.w) X.A (setFlight e none) (fun _ s₃ =>
    wpAny (model X.prog X.w) X.A (handleBy e X.env [.ExceptHandler (some (.Name x np)) (some n) (b₀ :: suite) pos']) (SP X pins D) X.xe s₃) X.xe s₂) X.xe s₁) ⟨cg.kk, cg.calm, cg.room, cg.grd, cg.nd⟩ PassesOwn.looking WB fun u s' xx => ?_).run [] s σ _ D (I.toTry _) ⟨Z, S, W, env, rfl, st, er, pb⟩) (fun f s1 hsp => ?_) fun e s1 he => he
  · obtain ⟨a, B, sI, pins', σ', H', cls, d, rfl, J', nb, up, sky, na, os, ag, W', e, ns, ds, env', S', rfl, go, st', er', xr, hfb⟩ := xx
    have J : Inv X pins σ' W'.H sI := J'.ofTry ok
    unfold sTry at p
    rw [hfb] at p
    simp only at p
    split at p
    case isFalse => exact p.elim
    rename_i htab
    have sky' : Sky B (X.env :: X.outer) a (Zc cls d) X.env.locals s'.heap := by rw [← hst]; exact sky
    show wpAny (model X.prog X.w) X.A (noteFrame (.ref a) X.env) _ _ _
    refine Sky.land Zc.steady hfr hf sky' fun h3 fl3 up3 => ?_
    have J3 : Inv X pins σ' W'.H { s' with heap := h3 } := J.landed nb fl3.1 (up.trans up3) os ag
    obtain ⟨oe3, vs3, he3, hz3, hd3⟩ := fl3.there
    have nfr : a ∉ frs (X.env :: X.outer) := fun hm => by
      obtain ⟨_, o', e', hnf⟩ := fl3.2.2.1.mem hm
      rw [he3] at e'; cases e'
      exact hnf _ hd3
    have nL : a ≠ X.env.locals := fun z => nfr (List.mem_filterMap.mpr ⟨X.env, List.mem_cons_self, by rw [hf, z]⟩)
    have nB : B.get? a = none := fl3.2.1
    have nI : sI.heap.get? a = none := by
      cases q : sI.heap.get? a with
      | none => rfl
      | some o =>
        have z := nb a o q (by rw [hst]; exact nfr)
        rw [nB] at z; cases z
    have n0 : X.s_0.heap.get? a = none := by
      cases q : X.s_0.heap.get? a with
      | none => rfl
      | some o =>
        obtain ⟨o', z⟩ := J.base.there a o q (by rw [hex]; exact fun z => nomatch z)
        rw [nI] at z; cases z
    have nP : ∀ p ∈ X.pn ++ pins, p.1 ≠ a := fun p hp q => by
      have z := (J.pin p hp).1
      rw [q, nI] at z; cases z
    refine wpAny_handleBy_cons (codeAny_handlers_test ?_) (by intro q; cases q)
    have LT : PySem.W.Looks (model X.prog X.w) h3 (typeOf (.ref a)) cls := fun A Q E s k q => wpAny_typeOf_ref (k _ _ he3) (by rw [hz3.1]; exact q)
    have hcls : cls = .ref (G.cl e) := xr.1
    have LM := PySem.W.exm_one (M := model X.prog X.w) (J3.kIn) LT (by rw [hcls, cg.kk]; exact ht e htab)
    have okS : ∀ pn, (∀ p ∈ pn, p ∈ X.pn ++ pins) → Inv (X.suite a pn) [] σ' W'.H { s' with heap := h3 } := fun pn hpn => ⟨ok.suite _ _, J3.os, J3.bare, J3.base, J3.loc, J3.cell, J3.free, J3.freeC, fun p hp => J3.pin p (hpn p (by rw [List.append_nil] at hp; exact hp)), J3.hok, J3.len⟩
    have test : ∀ {Q : Value → Shared → Prop} {E : Value → Shared → Prop}, Q c { s' with heap := h3 } → wpAny (model X.prog X.w) (X.A.mark (some (.ref a))) (eval (.Name x np) X.env) Q E { s' with heap := h3 } := fun {Q E} q => by
      obtain ⟨hg, hdbg, hm | ⟨hm, hv, hnn⟩⟩ := hc
      · exact ld_glob (X := X.suite a (X.pn ++ pins)) (okS _ fun p hp => hp) hg hm q hdbg
      · exact ld_blt (X := X.suite a (X.pn ++ pins)) (okS _ fun p hp => hp) hg hm hv q hnn hdbg
    refine test (LM.here ?_)
    refine codeAny_handlers_suite_as ?_
    refine HandSPX.lands_againZ fl3 fun h4 fl4 up4 => ?_
    have J4 : Inv X pins σ' W'.H { s' with heap := h4 } := J.landed nb fl4.1 ((up.trans up3).trans up4) os ag
    obtain ⟨oe4, vs4, he4, hz4, hd4⟩ := fl4.there
    have J5 := inv_track J4 na he4 hz4 hd4 n0 nL nP
    have S5 : Inv (X.suite a (X.pn ++ pins)) [] σ' (upd W'.H a (XObj cls d a)) { s' with heap := h4 } := ⟨ok.suite _ _, J5.os, J5.bare, J5.base, J5.loc, J5.cell, J5.free, J5.freeC, fun p hp => J5.pin p (by rw [List.append_nil] at hp; exact hp), J5.hok, J5.len⟩
    have gp := put_go st' na (XObj cls d a)
    have sp := put_st st' na (XObj cls d a)
    have rep : Rep G (W'.put a (XObj cls d a)) (.exc e ns ds) (.ref a) := by
      simp only [Rep]
      refine ⟨a, d, rfl, put_nu st' na, by rw [← hcls]; exact put_at, ?_⟩
      rcases xr.2 with h | ⟨d0, vs, e1, e2, e3, e4, e5⟩
      · exact .inl h
      · exact .inr ⟨d0, vs, e1, (gp.keep d0 _ e2 e3).1, (gp.keep d0 _ e2 e3).2, e4, Reps.ext gp.toExt ds e5⟩
    refine store_ok (X := X.suite a (X.pn ++ pins)) (v := .ref a) S5 cg.nd hi (.inl hln) rfl (fun s6 S6 => ?_) (.inr hln)
    let D' : Ends := { nx := fun σ' H' => D.nx (σ'.set i none) H', rt := D.rt, bk := fun σ' H' => D.bk (σ'.set i none) H', ct := fun σ' H' => D.ct (σ'.set i none) H' }
    have ps : PostS G (fun _ _ _ _ => False) Z (W'.put a (XObj cls d a)) D' (fs (env'.set i (some (.p (.exc e ns ds)))) S') := by
      have p' := PostS.shift (go.trans gp) p
      cases hfs : fs (env'.set i (some (.p (.exc e ns ds)))) S' with
      | bad => rw [hfs] at p'; exact p'
      | nx e S2 => rw [hfs] at p'; exact fun σ1 W1 g1 s1 e1 => p' _ W1 g1 s1 e1.clear
      | rt e S2 => rw [hfs] at p'; exact p'
      | bk e S2 => rw [hfs] at p'; exact fun σ1 W1 g1 s1 e1 => p' _ W1 g1 s1 e1.clear
      | ct e S2 => rw [hfs] at p'; exact fun σ1 W1 g1 s1 e1 => p' _ W1 g1 s1 e1.clear
      | exc c ns ds e S2 => rw [hfs] at p'; exact p'.elim
    refine wpAny_mono ((hsu a (X.pn ++ pins) _ (takes_false (X := X.suite a (X.pn ++ pins)))).run [] s6 _ _ D' S6 ⟨Z, S', W'.put a (XObj cls d a), _, rfl, sp, (er'.ext gp.toExt).set (d := .p (.exc e ns ds)) rep i, ps⟩) (fun f s7 hsp => ?_) fun _ _ z => False.elim z
    have fin : ∀ {σ7 : L2.St} {H7 : Hp} {Q : Shared → Prop}, Inv (X.suite a (X.pn ++ pins)) [] σ7 H7 s7 → (∀ s8, Inv X pins (σ7.set i none) H7 s8 → Q s8) →
        wpAny (model X.prog X.w) X.A (do bindName X.env n .none; unbindBehindTheSuite X.env n pos') (fun _ s8 => Q s8) X.xe s7 := fun {σ7 H7 Q} S7 hq =>
      gone_ok (X := X) (pins := pins) ⟨ok, S7.os, S7.bare, S7.base, S7.loc, S7.cell, S7.free, S7.freeC, fun p hp => S7.pin p (by rw [List.append_nil]; exact hp), S7.hok, S7.len⟩ cg.nd hi hln hq
    cases f with
    | next =>
      obtain ⟨σ7, H7, S7, q7⟩ := hsp
      exact fin S7 fun s8 J8 => ⟨_, _, J8, q7⟩
    | brk =>
      obtain ⟨σ7, H7, S7, q7⟩ := hsp
      exact fin S7 fun s8 J8 => ⟨_, _, J8, q7⟩
    | cont =>
      obtain ⟨σ7, H7, S7, q7⟩ := hsp
      exact fin S7 fun s8 J8 => ⟨_, _, J8, q7⟩
    | ret u =>
      obtain ⟨v7, σ7, H7, S7, r7, q7⟩ := hsp
      exact fin S7 fun s8 J8 => ⟨_, _, _, J8, r7, q7⟩
  · cases f with
    | next =>
      obtain ⟨σ', H', J', q⟩ := hsp
      exact wpAny_execs_nil ⟨σ', H', J'.ofTry ok, q⟩
    | brk =>
      obtain ⟨σ', H', J', q⟩ := hsp
      exact ⟨σ', H', J'.ofTry ok, q⟩
    | cont =>
      obtain ⟨σ', H', J', q⟩ := hsp
      exact ⟨σ', H', J'.ofTry ok, q⟩
    | ret u =>
      obtain ⟨v, σ', H', J', r, q⟩ := hsp
      exact ⟨v, σ', H', J'.ofTry ok, r, q⟩
end
end Fe

set_option Elab.async false
set_option linter.all false
set_option maxRecDepth 100000
set_option maxHeartbeats 1000000
namespace Fe
open PySem PySem.Spec PyProof.Rows L2

section
variable {G : Gc} {Wx : WX} {Z : Addr → Prop} {W : Wd} {S : Sto} {σ : L2.St} {X : Cx} {k j : Nat} {f : Addr} {fd : FuncData} {ps : List Str} {Fd : FD}
/-! ### a list that a def returns becomes a place of its caller's -/
def freshF (F : FD) : FD := fun ds S => match allP ds with
  | some _ => match F ds [] with
    | .ok (.ref i) S' => match S'[i]? with
      | some so => if so.live = true then .ok (.ref S.length) (S ++ [so]) else .bad
      | none => .bad
    | .ok _ _ => .bad
    | .exc c ns vs _ => .exc c ns vs S
    | .bad => .bad
  | none => .bad
/-- the caller's world behind a callee that left one place -/
def Wd.take (W W' : Wd) (a : Addr) : Wd := { H := W'.H, U := fun b => W.U b ∨ b = a, ρ := fun i => if i = W.n then a else W.ρ i, n := W.n + 1 }
theorem take_all {W' : Wd} {S' : Sto} {i : Nat} {so : SO} (st : StRep G W Z S) (go : Go W.U W.bare W') (s2 : StRep G W' W.U S') (e : S'[i]? = some so) (l : so.live = true) :
    Go Z W (W.take W' (W'.ρ i)) ∧ StRep G (W.take W' (W'.ρ i)) Z (S ++ [so]) ∧ RepD G (W.take W' (W'.ρ i)) (.ref S.length) (.ref (W'.ρ i)) := by
  obtain ⟨k1, k2, k3⟩ := s2.obj i so e l
  have kp : Kp W' (W.take W' (W'.ρ i)) := kp_same rfl fun a u => by
    rcases u with u | rfl
    · exact s2.zu a u
    · exact k1
  have g : Go Z W (W.take W' (W'.ρ i)) := by
    refine ⟨⟨⟨fun a o n h u => ⟨(go.kp a o n h u).1, fun z => ?_⟩⟩, fun j hj => ?_, Nat.le_succ _⟩, fun a z => go.z a (st.zu a z)⟩
    · rcases z with z | rfl
      · exact u z
      · exact (go.kp _ o n h u).2 k1
    · show (if j = W.n then _ else W.ρ j) = W.ρ j
      rw [if_neg (Nat.ne_of_lt hj)]
  have rhoN : (W.take W' (W'.ρ i)).ρ S.length = W'.ρ i := by
    show (if S.length = W.n then W'.ρ i else W.ρ S.length) = _
    rw [if_pos st.len.symm]
  have rho : ∀ j, j < S.length → (W.take W' (W'.ρ i)).ρ j = W.ρ j := fun j hj => g.rho j (by rw [st.len]; exact hj)
  have ob : ∀ {so}, ObjR G W' (W'.ρ i) so → ObjR G (W.take W' (W'.ρ i)) (W'.ρ i) so := fun {so} h => by
    cases so with
    | dead => trivial
    | lst ds => obtain ⟨vs, a1, a2⟩ := h; exact ⟨vs, a1, Reps.kp kp ds a2⟩
    | dct ks ds => obtain ⟨vs, a1, a2⟩ := h; exact ⟨vs, Reps.kp kp ds a1, a2⟩
    | ins c ns ds => obtain ⟨dx, vs, a1, a2, a3⟩ := h; exact ⟨dx, vs, a1, a2, Reps.kp kp ds a3⟩
  have get : ∀ {j : Nat} {so' : SO}, (S ++ [so])[j]? = some so' → (j < S.length ∧ S[j]? = some so') ∨ (j = S.length ∧ so' = so) := fun {j so'} h => by
    by_cases hj : j < S.length
    · rw [List.getElem?_append_left hj] at h
      exact .inl ⟨hj, h⟩
    · rw [List.getElem?_append_right (Nat.le_of_not_lt hj)] at h
      have : j - S.length = 0 := by
        cases hh : j - S.length with
        | zero => rfl
        | succ m => rw [hh] at h; simp at h
      rw [this] at h
      simp at h
      exact .inr ⟨by omega, h.symm⟩
  have nz : ¬ W.U (W'.ρ i) := k2
  refine ⟨g, ⟨s2.tab, by rw [List.length_append]; show W.n + 1 = _; rw [st.len]; rfl, fun a z => .inl (st.zu a z), fun a u => ?_, fun j so' h l' => ?_, fun j j' so1 so2 h1 h2 l1 l2 q => ?_, fun a u => ?_⟩, ⟨by show S.length < W.n + 1; rw [st.len]; exact Nat.lt_succ_self _, by rw [rhoN]⟩⟩
  · rcases u with u | rfl
    · obtain ⟨o, h, n⟩ := st.ut a u
      exact ⟨o, (go.z a u).trans h, n⟩
    · exact s2.ut _ k1
  · rcases get h with ⟨hj, h⟩ | ⟨rfl, rfl⟩
    · rw [rho j hj]
      obtain ⟨b1, b2, b3⟩ := st.obj j so' h l'
      exact ⟨.inl b1, b2, ObjR.ext g.toExt (go.z _ b1) b3⟩
    · rw [rhoN]
      exact ⟨.inr rfl, fun z => nz (st.zu _ z), ob k3⟩
  · have ne : ∀ {j so'}, S[j]? = some so' → so'.live = true → W.ρ j ≠ W'.ρ i := fun {j so'} h l' q => nz (q ▸ (st.obj j so' h l').1)
    rcases get h1 with ⟨hj, h1'⟩ | ⟨ej, _⟩
    · rcases get h2 with ⟨hj', h2'⟩ | ⟨ej', _⟩
      · rw [rho j hj, rho j' hj'] at q
        exact st.inj j j' so1 so2 h1' h2' l1 l2 q
      · rw [rho j hj, ej', rhoN] at q
        exact absurd q (ne h1' l1)
    · rcases get h2 with ⟨hj', h2'⟩ | ⟨ej', _⟩
      · rw [rho j' hj', ej, rhoN] at q
        exact absurd q.symm (ne h2' l2)
      · rw [ej, ej']
  · rcases u with u | rfl
    · rcases st.back a u with z | ⟨j, so', h, l', q⟩
      · exact .inl z
      · have hj := (List.getElem?_eq_some_iff.mp h).1
        exact .inr ⟨j, so', by rw [List.getElem?_append_left hj]; exact h, l', by rw [rho j hj]; exact q⟩
    · exact .inr ⟨S.length, so, by simp, l, rhoN⟩
theorem FnG.fresh {Pr : Program} {w : World} {mg : Str → Option Value} {base : Heap} {F : FD} (h : FnG Pr w G mg base k f fd ps F) : FnG Pr w G mg base k f fd ps (freshF F) := by
  refine ⟨fun ds S hl => ?_, fun A outer s args us vs Z S W ds Q E hr hgd e0 hb r st rd p => ?_⟩
  · unfold freshF
    split
    · rw [h.len ds [] hl]
    · rfl
  · unfold freshF at p
    split at p
    · rename_i xs hx
      have hds := allP_eq hx
      subst hds
      refine h.run A outer s args us vs W.U [] W.bare _ Q E hr hgd e0 hb r (bare_st st) (RepDs.kpP (show Kp W W.bare from kp_same rfl fun _ z => z) rd) ?_
      cases hF : F (xs.map D.p) [] with
      | bad => rw [hF] at p; exact p
      | exc c ns ds S' =>
        rw [hF] at p
        exact fun cls dx W' go st' x => p cls dx (W.back W') (back_go st go) (back_st st go st'.tab) (x.kp (show Kp W' (W.back W') from kp_same rfl fun a (u : W.U a) => st'.zu a u))
      | ok d S' =>
        rw [hF] at p
        cases d with
        | p x => exact p.elim
        | fn _ _ _ _ _ => exact p.elim
        | ref i =>
          intro v W' go st' r'
          simp only at p
          split at p
          · rename_i so hs
            split at p
            · rename_i l
              obtain ⟨g1, g2, g3⟩ := take_all st go st' hs l
              have e := r'.2
              subst e
              exact p (.ref (W'.ρ i)) (W.take W' (W'.ρ i)) g1 g2 g3
            · exact p.elim
          · exact p.elim
    · exact p.elim

/-! ### o.f = e, o an instance at a place -/
def putP (f : Str) (x : P) : List Str → List P → List Str × List P
  | n :: ns, v :: vs => if n = f then (n :: ns, x :: vs) else ((n :: (putP f x ns vs).1), (v :: (putP f x ns vs).2))
  | _, _ => ([f], [x])
theorem putP_rep {f : Str} {x : P} {v : V} (r : Rep G W x v) : ∀ {ns : List Str} {ds : List P} {vs : List V}, ns.length = vs.length → Reps G W ds vs → ∃ us, putF f v (ns.zip vs) = (putP f x ns ds).1.zip us ∧ (putP f x ns ds).1.length = us.length ∧ Reps G W (putP f x ns ds).2 us
  | [], [], [], _, _ => ⟨[v], rfl, rfl, by simp only [putP, Reps]; exact ⟨r, trivial⟩⟩
  | [], _ :: _, [], _, h => by simp [Reps] at h
  | [], _, _ :: _, l, _ => by simp at l
  | _ :: _, _, [], l, _ => by simp at l
  | _ :: _, [], _ :: _, _, h => by simp [Reps] at h
  | n :: ns, d :: ds, u :: vs, l, h => by
    simp only [Reps] at h
    simp only [putP]
    by_cases hn : n = f
    · rw [if_pos hn]
      exact ⟨v :: vs, by show putF f v ((n, u) :: ns.zip vs) = _; unfold putF; rw [if_pos hn]; rfl, by simpa using l, by simp only [Reps]; exact ⟨r, h.2⟩⟩
    · rw [if_neg hn]
      obtain ⟨us, e1, e2, e3⟩ := putP_rep (f := f) r (ns := ns) (ds := ds) (vs := vs) (by simpa using l) h.2
      exact ⟨u :: us, by show putF f v ((n, u) :: ns.zip vs) = _; unfold putF; rw [if_neg hn, e1]; rfl, by simpa using e2, by simp only [Reps]; exact ⟨h.1, e3⟩⟩
def fldS (c : Nat) (f : Str) (S : Sto) (o d : D) : Option Sto := match o with
  | .ref i => match pureD d S with
    | some (x, S1) => match S1[i]? with
      | some (.ins c' ns vs) => if c' = c ∧ ns.length < 1000 then some (S1.set i (.ins c (putP f x ns vs).1 (putP f x ns vs).2)) else none
      | _ => none
    | none => none
  | _ => none
def sFldP (c : Nat) (f : Str) (fo fe : CE') : CS := fun env S => (fe env S).toS env fun d S1 => (fo env S1).toS env fun o S2 => match fldS c f S2 o d with
  | some S3 => .nx env S3
  | none => .bad
theorem pfs_fld {c : Nat} {f : Str} {o e : Expr} {fo fe : CE'} {pos pos' : Pos} (cg : CtxG G X k) (cl : Cls G.K (G.cl c)) (na : NoAttr G.K (G.cl c) f) (ho : PF G X o fo) (he : PF G X e fe) (hs : swapsWith e (some (.Attribute o f pos')) pos.line X.env = pure false := by rfl) :
    PFS G X (.Assign [.Attribute o f pos'] e pos) (sFldP c f fo fe) := fun Wx tk => by
  refine PS.imp (ps_fld (ho Wx tk) (he Wx tk) hs) fun En σ H h => ?_
  obtain ⟨Z, S, W, env, rfl, st, er, p⟩ := h
  refine ⟨Z, S, W, env, rfl, st, er, (seqES er p).mono fun v H1 h1 => ?_⟩
  obtain ⟨d1, S1, W1, rfl, go1, st1, r1, p1⟩ := h1
  have er1 := er.ext go1.toExt
  refine ⟨Z, S1, W1, env, rfl, st1, er1, (seqES er1 p1).mono fun v2 H2 h2 => ?_⟩
  obtain ⟨o2, S2, W2, rfl, go2, st2, r2, p2⟩ := h2
  split at p2
  · rename_i S3 hf
    unfold fldS at hf
    split at hf
    · rename_i i
      split at hf
      · rename_i x S4 hp
        obtain ⟨W4, e4, g4, s4, r4⟩ := pureD_rep st2 hp (RepD.ext go2.toExt r1)
        split at hf
        · rename_i c' ns vs hs4
          split at hf
          · rename_i hc
            cases hf
            obtain ⟨rfl, hl⟩ := hc
            obtain ⟨u1, u2, dx, us, h5, h6, h7⟩ := s4.obj i _ hs4 rfl
            have ro : v2 = .ref (W4.ρ i) := (RepD.ext g4.toExt r2).2
            obtain ⟨ws, q1, q2, q3⟩ := putP_rep (f := f) r4 h6 h7
            refine ⟨W4.ρ i, G.cl c', dx, _, ro, by rw [← e4]; exact h5, cg.kk ▸ cl, cg.kk ▸ na, by rw [List.length_zip]; omega, ?_⟩
            rw [q1, ← e4]
            have go5 := wrp_go s4 hs4 rfl (.ins (G.cl c') dx ((putP f x ns vs).1.zip ws))
            have st5 : StRep G (W4.wrp (W4.ρ i) (.ins (G.cl c') dx ((putP f x ns vs).1.zip ws))) Z (S4.set i (.ins c' (putP f x ns vs).1 (putP f x ns vs).2)) :=
              wrp_st s4 hs4 rfl rfl ⟨dx, ws, upd_same, q2, Reps.ext go5.toExt _ q3⟩
            exact p2 σ _ (g4.trans go5) st5 (er1.ext ((go2.trans g4).trans go5).toExt)
          · cases hf
        · cases hf
      · cases hf
    · cases hf
  · exact p2.elim

/-! ### a list times an int that is written later -/
def mulR (S : Sto) (x y : D) : Option (List P) := match x, y with
  | .p (.lst a), .p (.int j) => if -(2 ^ 63) ≤ j ∧ j < 2 ^ 63 ∧ a.length * j.toNat ≤ sizeLine then some (repP j.toNat a) else none
  | _, _ => none
def cMulR (fa fb : CE') : CE' := fun env S => (fa env S).bind fun x S1 => (fb env S1).bind fun y S2 => match mulR S2 x y with
  | some xs => .ok (.ref S2.length) (S2 ++ [.lst xs])
  | none => .bad
theorem pf_mulR {a b : Expr} {fa fb : CE'} {pos : Pos} (ha : PF G X a fa) (hb : PF G X b fb) : PF G X (.BinOp a .Mult b pos) (cMulR fa fb) := fun Wx tk => by
  refine PE.imp (pe_op op_rep (ha Wx tk) (hb Wx tk)) fun σ H Q h => ?_
  obtain ⟨Z, S, W, env, rfl, st, er, p⟩ := h
  refine ⟨Z, S, W, env, rfl, st, er, (seqEE p).mono fun v H1 h1 => ?_⟩
  obtain ⟨d1, S1, W1, rfl, go1, st1, r1, p1⟩ := h1
  refine ⟨Z, S1, W1, env, rfl, st1, er.ext go1.toExt, (seqEE p1).mono fun v2 H2 h2 => ?_⟩
  obtain ⟨d2, S2, W2, rfl, go2, st2, r2, p2⟩ := h2
  split at p2
  · rename_i xs hm
    unfold mulR at hm
    split at hm
    · rename_i ys jj
      split at hm
      · rename_i hl
        cases hm
        obtain ⟨q, vs, rfl, t, r⟩ := rep_lst (RepD.ext go2.toExt r1)
        have l1 := Reps.length _ _ r
        refine ⟨q, jj, vs, rfl, rep_int r2, t.2, hl.1, hl.2.1, by rw [← l1]; exact hl.2.2, fun p np => ?_⟩
        have gg := grow_go st2 np (.lst (List.replicate jj.toNat vs).flatten)
        refine p2 (.ref p) _ gg (grow_st st2 np rfl ⟨_, upd_same, Reps.ext gg.toExt _ (Reps.rep r _)⟩) ⟨by rw [← st2.len]; exact Nat.lt_succ_self _, ?_⟩
        show _ = V.ref (if S2.length = W2.n then p else W2.ρ S2.length)
        rw [if_pos st2.len.symm]
      · cases hm
    · cases hm
  · exact p2.elim

/-! ### *e in a display, in arguments -/
def cStar (fe : CE') (fr : CA) : CA := fun env S => (fe env S).bind fun d S1 => match asSeq S1 d with
  | some xs => (fr env S1).bind fun ds S2 => .ok (xs.map D.p ++ ds) S2
  | none => .bad
theorem reps_toD : ∀ {xs : List P} {vs : List V}, Reps G W xs vs → RepDs G W (xs.map D.p) vs
  | [], [], _ => True.intro
  | [], _ :: _, h => by simp [Reps] at h
  | _ :: _, [], h => by simp [Reps] at h
  | x :: xs, v :: vs, h => by
    simp only [Reps] at h
    exact ⟨h.1, reps_toD h.2⟩
theorem pfa_star {e : Expr} {es : List Expr} {fe : CE'} {fr : CA} {p : Pos} (cg : CtxG G X k) (he : PF G X e fe) (hr : PFA G X es fr) (hs : starEach (.Starred e p :: es) X.env = (true, eval e X.env) :: starEach es X.env := by rfl) : PFA G X (.Starred e p :: es) (cStar fe fr) := fun Wx tk => by
  refine PA.imp (StX.pa_star (he Wx tk) (hr Wx tk) hs) fun σ H Q h => ?_
  obtain ⟨Z, S, W, env, rfl, st, er, p⟩ := h
  refine ⟨Z, S, W, env, rfl, st, er, (seqEA p).mono fun v H1 h1 => ?_⟩
  obtain ⟨d1, S1, W1, rfl, go1, st1, r1, p1⟩ := h1
  split at p1
  · rename_i xs hx
    obtain ⟨a, vs, rfl, t, r⟩ := asSeq_rep cg.kk st1 hx r1
    refine ⟨a, vs, rfl, t.symm, Z, S1, W1, env, rfl, st1, er.ext go1.toExt, (seqAA p1).mono fun ws H2 h2 => ?_⟩
    obtain ⟨ds, S2, W2, rfl, go2, st2, r2, p2⟩ := h2
    exact p2 _ W2 (Go.refl _ _) st2 (RepDs.app (reps_toD (Reps.ext go2.toExt xs r)) r2)
  · exact p1.elim

/-! ### keyword calls -/
def PFK (G : Gc) (X : Cx) (kws : List Keyword) (f : CA) : Prop := ∀ Wx, Takes X Wx → PK X kws (tMA G Wx f)
theorem PK.imp {kws : List Keyword} {t t' : TA} (h : PK X kws t) (i : ∀ σ H Q, t' σ H Q → t σ H Q) : PK X kws t' := ⟨fun pos pins s σ H Q I q => h.run pos pins s σ H Q I (i _ _ _ q)⟩
theorem pfk_nil : PFK G X [] cNil := fun Wx tk => PK.imp pk_nil fun σ H Q h => by
  obtain ⟨Z, S, W, env, rfl, st, er, p⟩ := h
  exact p [] W (Go.refl _ _) st True.intro
theorem pfk_cons {nm : Option Str} {e : Expr} {kpos : Pos} {kws : List Keyword} {fa : CE'} {fr : CA} (ha : PF G X e fa) (hr : PFK G X kws fr) : PFK G X (⟨nm, e, kpos⟩ :: kws) (cCons fa fr) := fun Wx tk => by
  refine PK.imp (pk_cons (ha Wx tk) (hr Wx tk)) fun σ H Q h => ?_
  obtain ⟨Z, S, W, env, rfl, st, er, p⟩ := h
  refine ⟨Z, S, W, env, rfl, st, er, (seqEA p).mono fun v H1 h1 => ?_⟩
  obtain ⟨d1, S1, W1, rfl, go1, st1, r1, p1⟩ := h1
  refine ⟨Z, S1, W1, env, rfl, st1, er.ext go1.toExt, (seqAA p1).mono fun vs H2 h2 => ?_⟩
  obtain ⟨ds, S2, W2, rfl, go2, st2, r2, p2⟩ := h2
  exact p2 (v :: vs) W2 (Go.refl _ _) st2 ⟨RepD.ext go2.toExt r1, r2⟩
/-- the keywords stand in the parameters' order, the defaults behind -/
structure KB (K : PySem.W.Frag) (fd : FuncData) (ps ks : List Str) (ds0 : List Value) : Prop where
  to : ∀ (s : Shared) (us ws : List Value), K.In s.heap → ws.length = ks.length → (us ++ ws ++ ds0).length = ps.length → BindsTo s fd ⟨us, ks.zip ws⟩ (ps.zip (us ++ ws ++ ds0))
def cCallK (nk : Nat) (Fd : FD) (dD : List D) (fa fk : CA) : CE' := fun env S => (fa env S).bind fun ds S1 => (fk env S1).bind fun es S2 => if es.length = nk then Fd (ds ++ es ++ dD) S2 else .bad
theorem pf_callK {x : Str} {p pos : Pos} {e : Expr} {es : List Expr} {kws : List Keyword} {ks : List Str} {ds0 : List Value} {dD : List D} {fa fk : CA} (F : FnG X.prog X.w G X.mg X.base j f fd ps Fd) (cg : CtxG G X k) (hj : j ≤ k) (hg : Gl X x) (hm : X.mg x = some (.ref f)) (hk : PySem.W.keepIn G.K (.ref f) = true)
    (hb : KB G.K fd ps ks ds0) (hd : Dflt G dD ds0) (ha : PFA G X (e :: es) fa) (hkw : PFK G X kws fk) (hall : (backToKw pos (keywordEach kws X.env)).all (·.1.isSome) = true := by rfl) (hks : (backToKw pos (keywordEach kws X.env)).filterMap (·.1) = ks := by rfl)
    (hdb : (x == ("__debug__" : Str)) = false := by decide) (he : starEach (e :: es) X.env = (false, eval e X.env) :: starEach es X.env := by rfl)
    (hpl : ((backTo pos (starEach (e :: es) X.env)).any (·.1) || (backToKw pos (keywordEach kws X.env)).any (·.1.isNone)) = false := by rfl) : PF G X (.Call (.Name x p) (e :: es) kws pos) (cCallK ks.length Fd dD fa fk) := fun Wx tk => by
  refine ⟨fun pins s σ H Q I h => ?_⟩
  refine wpAny_Call_Name_kw (ld_glob I hg hm ?_ hdb)
  obtain ⟨Z, S, W, env, rfl, st, er, pp⟩ := h
  refine PySem.W.callWith_KW (h₀ := X.base) I.ok.mod.kin (by rw [cg.kk]; exact hk) hall (thn ((ha Wx tk).run pos pins s σ W.H _ I ⟨Z, S, W, env, rfl, st, er, seqAE pp⟩) fun us s1 h1 => ?_) hpl he
  obtain ⟨vs, H1, I1, r, ds, S1, W1, rfl, go1, st1, rd, p1⟩ := h1
  refine thn ((hkw Wx tk).run pos pins s1 σ W1.H _ I1 ⟨Z, S1, W1, env, rfl, st1, er.ext go1.toExt, seqAE p1⟩) fun ws s2 h2 => ?_
  obtain ⟨zs, H2, I2, rz, es2, S2, W2, rfl, go2, st2, re, p2⟩ := h2
  split at p2
  case isFalse => exact p2.elim
  rename_i hnk
  have hw : ws.length = ks.length := by rw [← rz.length, ← re.length]; exact hnk
  refine ⟨I2.kIn, ?_⟩
  rw [hks]
  obtain ⟨dvs, vd, hdr⟩ := hd.ex
  have rd2 := RepDs.app (RepDs.app (RepDs.ext go2.toExt rd) re) (hdr W2)
  have r2 : Vals (vs ++ zs ++ dvs) (us ++ ws ++ ds0) := (r.append rz).append vd
  have hl : (us ++ ws ++ ds0).length = ps.length := by rw [← r2.length, ← rd2.length]; exact lenOk F p2
  have kin : G.K.In s2.heap := cg.kk ▸ I2.kIn
  exact wp_of_code (run_fnG F cg hj tk (hb.to s2 us ws kin hw hl) I2 r2 st2 rd2 p2)
theorem pf_callK0 {x : Str} {p pos : Pos} {kws : List Keyword} {ks : List Str} {ds0 : List Value} {dD : List D} {fk : CA} (F : FnG X.prog X.w G X.mg X.base j f fd ps Fd) (cg : CtxG G X k) (hj : j ≤ k) (hg : Gl X x) (hm : X.mg x = some (.ref f)) (hk : PySem.W.keepIn G.K (.ref f) = true)
    (hb : KB G.K fd ps ks ds0) (hd : Dflt G dD ds0) (hkw : PFK G X kws fk) (hall : (backToKw pos (keywordEach kws X.env)).all (·.1.isSome) = true := by rfl) (hks : (backToKw pos (keywordEach kws X.env)).filterMap (·.1) = ks := by rfl)
    (hdb : (x == ("__debug__" : Str)) = false := by decide)
    (hpl : ((backTo pos (starEach [] X.env)).any (·.1) || (backToKw pos (keywordEach kws X.env)).any (·.1.isNone)) = false := by rfl) : PF G X (.Call (.Name x p) [] kws pos) (cCallK ks.length Fd dD cNil fk) := fun Wx tk => by
  refine ⟨fun pins s σ H Q I h => ?_⟩
  refine wpAny_Call_Name_kw (ld_glob I hg hm ?_ hdb)
  obtain ⟨Z, S, W, env, rfl, st, er, p1⟩ := h
  refine PySem.W.callWith_KW0 (h₀ := X.base) I.ok.mod.kin (by rw [cg.kk]; exact hk) hall ?_ hpl
  have p1' : PostE G Wx Z W σ Q ((fk env S).bind fun es S2 => if es.length = ks.length then Fd ([] ++ es ++ dD) S2 else .bad) := p1
  refine thn ((hkw Wx tk).run pos pins s σ W.H _ I ⟨Z, S, W, env, rfl, st, er, seqAE p1'⟩) fun ws s2 h2 => ?_
  obtain ⟨zs, H2, I2, rz, es2, S2, W2, rfl, go2, st2, re, p2⟩ := h2
  split at p2
  case isFalse => exact p2.elim
  rename_i hnk
  have hw : ws.length = ks.length := by rw [← rz.length, ← re.length]; exact hnk
  refine ⟨I2.kIn, ?_⟩
  rw [hks]
  obtain ⟨dvs, vd, hdr⟩ := hd.ex
  have rd2 : RepDs G W2 ([] ++ es2 ++ dD) (zs ++ dvs) := RepDs.app re (hdr W2)
  have r2 : Vals (zs ++ dvs) (([] : List Value) ++ ws ++ ds0) := rz.append vd
  have hl : (([] : List Value) ++ ws ++ ds0).length = ps.length := by rw [← r2.length, ← rd2.length]; exact lenOk F p2
  have kin : G.K.In s2.heap := cg.kk ▸ I2.kIn
  exact wp_of_code (run_fnG F cg hj tk (hb.to s2 [] ws kin hw hl) I2 r2 st2 rd2 p2)

/-! ### or, and of values -/
def truD (S : Sto) : D → Option Bool
  | .p .non => some false
  | .p (.bl b) => some b
  | .p (.int i) => some (i != 0)
  | .p (.str y) => if y.length ≤ sizeLine then some ((y.length : Int) != 0) else none
  | d => (asSeq S d).map fun xs => !xs.isEmpty
theorem truD_rep {K : PySem.W.Frag} (hk : K = G.K) (st : StRep G W Z S) {d : D} {v : V} {b : Bool} (e : truD S d = some b) (r : RepD G W d v) : TruV K v W.H b := by
  unfold truD at e
  split at e
  · cases e; rw [rep_non r]; rfl
  · cases e; rw [rep_bl r]; rfl
  · cases e; rw [rep_int r]; rfl
  · split at e
    · rename_i h
      cases e; rw [rep_str r]; exact ⟨h, rfl⟩
    · cases e
  · obtain ⟨xs, h, rfl⟩ := Option.map_eq_some_iff.mp e
    obtain ⟨a, vs, rfl, t, r⟩ := asSeq_rep hk st h r
    have l := Reps.length _ _ r
    have e : (!xs.isEmpty) = !vs.isEmpty := by
      cases xs <;> cases vs <;> simp at l ⊢
    rw [e]
    rcases t with t | t
    · exact .inl ⟨vs, t, rfl⟩
    · exact .inr (.inl ⟨vs, t, rfl⟩)
def cOrT (fa fb : CE') : CE' := fun env S => (fa env S).bind fun d S1 => match truD S1 d with
  | some true => .ok d S1
  | some false => fb env S1
  | none => .bad
def cAndT (fa fb : CE') : CE' := fun env S => (fa env S).bind fun d S1 => match truD S1 d with
  | some false => .ok d S1
  | some true => fb env S1
  | none => .bad
theorem pf_orT {a b : Expr} {rest : List Expr} {fa fb : CE'} {pos : Pos} (cg : CtxG G X k) (ha : PF G X a fa) (hb : PF G X (.BoolOp .Or (b :: rest) pos) fb) : PF G X (.BoolOp .Or (a :: b :: rest) pos) (cOrT fa fb) := fun Wx tk => by
  refine PE.imp (pe_orT (ha Wx tk) (hb Wx tk)) fun σ H Q h => ?_
  obtain ⟨Z, S, W, env, rfl, st, er, p⟩ := h
  refine ⟨Z, S, W, env, rfl, st, er, (seqEE p).mono fun v H1 h1 => ?_⟩
  obtain ⟨d1, S1, W1, rfl, go1, st1, r1, p1⟩ := h1
  split at p1
  · rename_i ht
    exact ⟨true, truD_rep cg.kk st1 ht r1, by rw [if_pos rfl]; exact p1 v W1 (Go.refl _ _) st1 r1⟩
  · rename_i ht
    exact ⟨false, truD_rep cg.kk st1 ht r1, by rw [if_neg Bool.false_ne_true]; exact ⟨Z, S1, W1, env, rfl, st1, er.ext go1.toExt, p1⟩⟩
  · exact p1.elim
theorem pf_andT {a b : Expr} {rest : List Expr} {fa fb : CE'} {pos : Pos} (cg : CtxG G X k) (ha : PF G X a fa) (hb : PF G X (.BoolOp .And (b :: rest) pos) fb) : PF G X (.BoolOp .And (a :: b :: rest) pos) (cAndT fa fb) := fun Wx tk => by
  refine PE.imp (pe_andT (ha Wx tk) (hb Wx tk)) fun σ H Q h => ?_
  obtain ⟨Z, S, W, env, rfl, st, er, p⟩ := h
  refine ⟨Z, S, W, env, rfl, st, er, (seqEE p).mono fun v H1 h1 => ?_⟩
  obtain ⟨d1, S1, W1, rfl, go1, st1, r1, p1⟩ := h1
  split at p1
  · rename_i ht
    exact ⟨false, truD_rep cg.kk st1 ht r1, by rw [if_neg Bool.false_ne_true]; exact p1 v W1 (Go.refl _ _) st1 r1⟩
  · rename_i ht
    exact ⟨true, truD_rep cg.kk st1 ht r1, by rw [if_pos rfl]; exact ⟨Z, S1, W1, env, rfl, st1, er.ext go1.toExt, p1⟩⟩
  · exact p1.elim

/-! ### repr -/
/-- the text of a thing -/
def shownP : PyData → Str
  | .none => "None"
  | .bool b => if b then "True" else "False"
  | .int i => (toString i : String)
  | .str x => reprText x
  | d => d.shown
def dRepr (S : Sto) (x : D) : Option D := match toPyD S x with
  | some d => match d with
    | .none => some (.p (.str "None"))
    | .bool b => some (.p (.str (if b then "True" else "False")))
    | .int i => if i.natAbs.log2 < 1920 then some (.p (.str (toString i : String))) else none
    | .str z => if (reprText z).length ≤ sizeLine then some (.p (.str (reprText z))) else none
    | d => if d.showable = true ∧ d.hasDict = false ∧ d.depth < 100 ∧ d.shown.length ≤ sizeLine then some (.p (.str d.shown)) else none
  | none => none
theorem c_repr (cg : CtxG G X k) : CallR X (.builtin "repr") (vsD G (on1 dRepr)) := call1 fun pins s σ x u Q Z S W d1 d I ru st r1 e q => by
  unfold dRepr at e
  split at e
  · rename_i pd hp
    obtain ⟨as, rd⟩ := Dp.reads I pd x u (toPyD_dp cg.kk st hp r1) ru
    split at e
    · cases e
      cases rd
      exact PySem.P.repr_of_none ⟨.str _, W.H, I.tok _, ⟨_, rfl⟩, q _ W (Go.refl _ _) st (mk_str _)⟩
    · cases e
      cases rd
      exact PySem.P.repr_of_bool ⟨.str _, W.H, I.tok _, ⟨_, rfl⟩, q _ W (Go.refl _ _) st (mk_str _)⟩
    · split at e
      · rename_i hl
        cases e
        cases rd
        exact PySem.P.repr_of_int hl ⟨.str _, W.H, I.tok _, ⟨_, rfl⟩, q _ W (Go.refl _ _) st (mk_str _)⟩
      · cases e
    · split at e
      · rename_i hl
        cases e
        cases rd
        exact PySem.P.repr_of_str ⟨.str _, W.H, I.tok _, ⟨_, rfl⟩, q _ W (Go.refl _ _) st (mk_str _)⟩ hl
      · cases e
    · split at e
      · rename_i h1 h2 h3 h4 hl
        cases e
        have hu : X.A.units + (pd.depth + 1) < cLine := by
          have := cg.room.un
          omega
        have fin : ∀ a, u = .ref a → wpAny (model X.prog X.w) X.A (call (.builtin "repr") [u]) (EP X pins σ Q) X.xe s := fun a ea => by
          subst ea
          exact repr_of_reads' rd hl.1 (fun z => by rw [hl.2.1] at z; cases z) cg.grd hu (fun _ _ z => z) (fun h' u tk kp => ⟨.str pd.shown, W.H, I.kept (t' := tk) kp, ⟨_, rfl⟩, q _ W (Go.refl _ _) st (mk_str _)⟩) hl.2.2.2
        cases rd with
        | none => exact absurd rfl h1
        | bool b => exact absurd rfl (h2 b)
        | int i t => exact absurd rfl (h3 i)
        | str i t => exact absurd rfl (h4 i)
        | list _ _ _ _ => exact fin _ rfl
        | tuple _ _ _ _ => exact fin _ rfl
        | dict _ _ _ _ _ => exact fin _ rfl
      · cases e
  · cases e
end
end Fe

set_option Elab.async false
set_option linter.all false
set_option maxRecDepth 100000
set_option maxHeartbeats 1000000
namespace Fe
open PySem PySem.Spec PyProof.Rows L2

/-- the law answers True -/
def SaysTrue (r : R D) : Prop := ∃ S, r = .ok (.p (.bl true)) S
def scriptD (ns : List Int) : D := .p (.fz (ns.map Fe.P.int))
section
variable {P : Program} {w : World} {G : Gc} {mg mb : Str → Option Value} {k : Nat} {fa a : Addr} {fd : FuncData} {x : Str} {s₁ : Shared} {vs : List Value} {ns : List Int} {Fd : FD}
theorem reps_ints {G : Gc} {W : Wd} : ∀ ns : List Int, Reps G W (ns.map Fe.P.int) (ns.map V.int)
  | [] => by simp [Reps]
  | n :: ns => by
    simp only [List.map_cons, Reps, Rep]
    exact ⟨trivial, reps_ints ns⟩
/-- the start: only the script may be tracked -/
theorem start_from {H : Hp} (KX : G.K.In s₁.heap) (hns : s₁.heap.Ns mainGlobals mg) (hb : s₁.heap.Ns builtinsNs mb) (hbb : ∀ x : Str, x ≠ "__name__" → mb x = bootBuiltins x) (hlim : s₁.heap.NoLimit) (hg : s₁.gens = #[])
    (ha : s₁.heap.get? a = some { cls := .type "list", data := .seq vs.toArray }) (hr : Room k callerA)
    (F : ∀ base : Heap, G.K.In base → base.Ns mainGlobals mg → FnG P w G mg base k fa fd [x] Fd) (hbind : ∀ (s : Shared) (u : Value), BindsTo s fd ⟨[u], []⟩ [(x, u)])
    (hF : SaysTrue (Fd [scriptD ns] [])) (hok : HOk P w H s₁.heap) (hA : ∀ b, H b ≠ none → b = a) (hfz : ∀ b u, H b = some u → ∃ o xs, u = .frz o (.lst xs)) (hK : H a ≠ none → G.K.lookup a = none)
    (hT : LamX.Tabs G.T H) (rep : RepD G { H := H, U := fun _ => False, ρ := fun _ => 0, n := 0 } (scriptD ns) (.ref a)) :
    codeAny (model P w) callerA (.call (.ref fa) ⟨[.ref a], []⟩) (fun r s' => r = .ok (.ret (.bool true)) ∧ OldK s₁.heap s'.heap ∧ s'.os = s₁.os ∧ AllBare s'.gens) s₁ := by
  have keepsB : ∀ {b : Addr} {o : Obj}, s₁.heap.get? b = some o → H b = none → (hidT s₁.heap H).get? b = some o := fun e n => hidT_get e n
  have free : ∀ {b : Addr}, b ≠ a → H b = none := fun {b} hb => by
    cases q : H b with
    | none => rfl
    | some u => exact absurd (hA b (by rw [q]; simp)) hb
  have nsK : ∀ {b : Addr} {m : Str → Option Value}, s₁.heap.Ns b m → (hidT s₁.heap H).Ns b m := fun {b m} ⟨o, es, ep, e, d, r⟩ =>
    ⟨o, es, ep, keepsB e (free fun q => by
      subst q
      rw [ha] at e
      cases e
      cases d), d, r⟩
  have hKb : G.K.In (hidT s₁.heap H) := fun b o e => keepsB (KX b o e) (by
    by_cases hb : b = a
    · subst hb
      cases q : H b with
      | none => rfl
      | some u => rw [hK (by rw [q]; simp)] at e; cases e
    · exact free hb)
  have hM : Mod G.K mg (hidT s₁.heap H) := ⟨hKb, nsK hns, ⟨mb, nsK hb, hbb⟩, let ⟨mc, h1, h2⟩ := hlim; ⟨mc, nsK h1, h2⟩⟩
  have e0 : Env0 P w G.K mg (hidT s₁.heap H) callerA [] s₁ H := ⟨rfl, hM, fun b o e => of_hidT e, Nat.le_of_eq (hidT_size _ _), trivial, fun b hb => absurd (show b ∈ ([] : List Addr) from hb) (by simp), hok, .of_eq hg⟩
  obtain ⟨S', hF⟩ := hF
  let W : Wd := { H := H, U := fun _ => False, ρ := fun _ => 0, n := 0 }
  have st : StRep G W (fun _ => False) [] := ⟨hT, rfl, fun _ z => z, fun _ z => z.elim, fun i so e => by simp at e, fun i j so so' e => by simp at e, fun _ z => z.elim⟩
  refine codeAny_mono ((F _ hKb (nsK hns)).run callerA [] s₁ ⟨[.ref a], []⟩ [.ref a] [.ref a] (fun _ => False) [] W [scriptD ns] (fun v _ => v = .bl true) (fun _ _ _ => False) hr rfl e0 (hbind s₁ (.ref a)) (.cons rfl .nil) st ⟨rep, True.intro⟩ (by
    rw [hF]
    exact fun v W' go st' r => rep_bl r)) fun r s' h => ?_
  cases r with
  | error e =>
    obtain ⟨_, _, _, _, _, _, _, _, _, _, _, _, z⟩ := h
    exact z.elim
  | ok fl =>
    cases fl with
    | next => exact False.elim h
    | brk => exact False.elim h
    | cont => exact False.elim h
    | ret u =>
      obtain ⟨v, H', os, bare, un, hok', r', q⟩ := h
      have q' : v = .bl true := q
      subst q'
      obtain rfl : u = Value.bool true := r'
      refine ⟨rfl, OldK.of_keep fun b o e => ?_, os, bare⟩
      cases q : H b with
      | none => exact un.keep b o e q (by intro z; exact absurd (show b ∈ ([] : List Addr) from z) (by simp)) (by simp)
      | some u =>
        obtain ⟨ob, xs, rfl⟩ := hfz b u q
        obtain ⟨e1, _⟩ := hok b _ q
        obtain ⟨e2, _⟩ := hok' b _ (un.frzs b ob _ q)
        rw [e] at e1; cases e1
        exact e2
theorem law_callG (KX : G.K.In s₁.heap) (hns : s₁.heap.Ns mainGlobals mg) (hb : s₁.heap.Ns builtinsNs mb) (hbb : ∀ x : Str, x ≠ "__name__" → mb x = bootBuiltins x) (hlim : s₁.heap.NoLimit) (hg : s₁.gens = #[])
    (ha : s₁.heap.get? a = some { cls := .type "list", data := .seq vs.toArray }) (hi : IntsAre vs ns) (hl : ns.length ≤ sizeLine) (hr : Room k callerA)
    (hG : G.T = []) (F : ∀ base : Heap, G.K.In base → base.Ns mainGlobals mg → FnG P w G mg base k fa fd [x] Fd) (hbind : ∀ (s : Shared) (u : Value), BindsTo s fd ⟨[u], []⟩ [(x, u)])
    (hF : SaysTrue (Fd [scriptD ns] [])) :
    codeAny (model P w) callerA (.call (.ref fa) ⟨[.ref a], []⟩) (fun r s' => r = .ok (.ret (.bool true)) ∧ OldK s₁.heap s'.heap ∧ s'.os = s₁.os ∧ AllBare s'.gens) s₁ := by
  have rv := vals_ints hi
  have lenV := hi.length
  cases hk : G.K.lookup a with
  | some o =>
    have e := KX a o hk
    rw [ha] at e
    cases e
    refine start_from (H := fun _ => none) KX hns hb hbb hlim hg ha hr F hbind hF (fun b u z => by cases (show (none : Option HO) = some u from z)) (fun b z => absurd rfl z) (fun b u z => by cases (show (none : Option HO) = some u from z)) (fun z => absurd rfl z) (by rw [hG]; exact fun p hp => absurd hp (by simp)) ?_
    simp only [scriptD, RepD, Rep]
    exact ⟨a, ns.map V.int, rfl, .inr ⟨_, vs.toArray, _, hk, rfl, rfl, rfl, by rw [List.size_toArray, lenV]; exact hl, by simpa using rv⟩, reps_ints ns⟩
  | none =>
    have one : ∀ {b : Addr} {u : HO}, (fun b => if b = a then some (HO.frz { cls := .type "list", data := .seq vs.toArray } (.lst (ns.map V.int))) else none) b = some u → b = a ∧ u = .frz { cls := .type "list", data := .seq vs.toArray } (.lst (ns.map V.int)) := fun {b u} z => by
      by_cases hb : b = a
      · exact ⟨hb, Option.some.inj (z.symm.trans (if_pos hb))⟩
      · cases (if_neg hb).symm.trans z
    refine start_from (H := fun b => if b = a then some (.frz { cls := .type "list", data := .seq vs.toArray } (.lst (ns.map V.int))) else none) KX hns hb hbb hlim hg ha hr F hbind hF (fun b u z => ?_) (fun b z => ?_) (fun b u z => ⟨_, _, (one z).2⟩) (fun _ => hk) (by rw [hG]; exact fun p hp => absurd hp (by simp)) ?_
    · obtain ⟨rfl, rfl⟩ := one z
      exact ⟨ha, by rw [List.length_map]; exact hl, vs, _, rv, ha⟩
    · by_cases hb : b = a
      · exact hb
      · exact absurd (if_neg hb) z
    · simp only [scriptD, RepD, Rep]
      exact ⟨a, ns.map V.int, rfl, .inl ⟨fun z => z, _, if_pos rfl⟩, reps_ints ns⟩
end
theorem walk_ofG {l : PySem.W.OpenLaw} {n k : Nat} {q : Program} {loose : List Str} {XP : (Str → Option Value) → Heap → Prop} {YP : World → Heap → Prop} {d : DefRec} {K : Params → PySem.W.Frag} {x : Str} {Fd : FD}
    (hn : l.most = some n) (hn2 : n ≤ sizeLine) (hdf : d.params.defaults = []) (hr : Room k callerA)
    (hY : ∀ (w : World) (h : Heap), YP w h → (K w.params).In h)
    (F : ∀ (w : World) (mg : Str → Option Value) (fa : Addr) (h : Heap), (K w.params).In h → h.Ns mainGlobals mg → mg d.name = some (.ref fa) →
      ∃ (cl : Nat → Addr) (fd : FuncData), (∀ (s : Shared) (u : Value), BindsTo s fd ⟨[u], []⟩ [(x, u)]) ∧
        ∀ base : Heap, (K w.params).In base → base.Ns mainGlobals mg → FnG l.prog w ⟨K w.params, cl, []⟩ mg base k fa fd [x] Fd)
    (hF : ∀ ns : List Int, ns.length ≤ n → SaysTrue (Fd [scriptD ns] [])) :
    PySem.W.WalkO q loose XP YP l.row.toRowW d [] (fun f vs => PySem.call f vs) := by
  refine Att.attach_call hn hdf fun w s₀ s₁ mg mb fa o pm cd doc a vs ns Gr Y ho hd hcd hmg hobj hints hlen hg => ?_
  have KX := hY w _ Y
  obtain ⟨cl, fd, hb, hFn⟩ := F w mg fa _ KX Gr.T.g hmg
  exact law_callG (G := ⟨K w.params, cl, []⟩) KX Gr.T.g Gr.T.b Gr.T.builtins Gr.T.nolimit hg hobj hints (Nat.le_trans hlen hn2) hr rfl hFn hb (hF ns hlen)

/-! ### facts about classes -/
theorem kitOne_ref {K : PySem.W.Frag} {t : Value} {C : Addr} {b : Bool} (h1 : (PySem.W.clsIn K C).isSome = true) (h2 : PySem.W.typeIn K (.ref C) = some (.type "type")) (h3 : PySem.W.subIn K t (.ref C) = some b) (hne : t ≠ .ref C) : PySem.W.kitOne K t (.ref C) = some b := by
  unfold PySem.W.kitOne
  rw [if_neg (by simpa using hne)]
  unfold PySem.W.kitCls
  simp only [h1, h2, h3]
  rfl
theorem kitOne_self {K : PySem.W.Frag} {t : Value} : PySem.W.kitOne K t t = some true := by
  unfold PySem.W.kitOne
  rw [if_pos (by simp)]
theorem exmOne_ref {K : PySem.W.Frag} {C : Addr} {cls : Value} {b : Bool} (h1 : PySem.W.subIn K (.ref C) (.type "BaseException") = some true) (hc : (PySem.W.clsIn K C).isSome = true) (ht : PySem.W.typeIn K (.ref C) = some (.type "type")) (h4 : PySem.W.subIn K cls (.ref C) = some b) : PySem.W.exmOne K cls (.ref C) = some b := by
  have e1 : (PySem.W.subIn K (.ref C) (.type "BaseException") == some true) = true := by rw [h1]; rfl
  have e2 : ((PySem.W.clsIn K C).isSome && PySem.W.typeIn K (.ref C) == some (.type "type")) = true := by rw [hc, ht]; rfl
  show (if (PySem.W.subIn K (.ref C) (.type "BaseException") == some true) = true then (if ((PySem.W.clsIn K C).isSome && PySem.W.typeIn K (.ref C) == some (.type "type")) = true then PySem.W.subIn K cls (.ref C) else none) else none) = some b
  rw [if_pos e1, if_pos e2]
  exact h4

/-! ### an empty dict -/
def cD0 : CE' := cP (.dct [] [])
theorem pf_d0 {G : Gc} {X : Cx} {pos : Pos} : PF G X (.Dict [] [] pos) cD0 := fun Wx tk => by
  refine PE.imp pe_dnewK fun σ H Q h => ?_
  obtain ⟨Z, S, W, env, rfl, st, er, p⟩ := h
  intro q np
  refine p (.ref q) (W.put q (.dK [])) (put_go st np _) (put_st st np _) ?_
  simp only [RepD, Rep]
  exact ⟨q, [], rfl, .inl ⟨put_nu st np, [], rfl, rfl, .inl put_at⟩, by simp only [Reps]⟩

/-! ### a dict of ints that the module holds -/
structure KInts (K : PySem.W.Frag) (a : Addr) (tab : List (Int × Int)) : Prop where
  ex : ∃ es n, K.lookup a = some ⟨.type "dict", none, .dict es n, #[]⟩ ∧ Paired (fun (e : DictEntry) (p : Int × Int) => (∃ t, e.key = .int p.1 t) ∧ (∃ t, e.val = .int p.2 t) ∧ e.hash = hashInt p.1) es.toList tab
  nd : (tab.map fun p => (.inl p.1 : Key)).Nodup
  sm : (a == sysModules) = false
section
variable {G : Gc} {Wx : WX} {Z : Addr → Prop} {W : Wd} {S : Sto} {σ : L2.St} {X : Cx} {k : Nat}
def kvI (tab : List (Int × Int)) : List (Key × Value) := tab.map fun p => (.inl p.1, .int p.2 0)
theorem kints_dict {a : Addr} {tab : List (Int × Int)} {h : Heap} {P : Program} {w : World} (D : KInts G.K a tab) (kin : G.K.In h) : ∃ vs : List (Key × Value), h.DictOf (mixKind P w) a vs ∧ KV (tab.map fun p => ((.inl p.1 : Key), V.int p.2)) vs := by
  obtain ⟨es, n, hl, hp⟩ := D.ex
  have key : ∀ {l : List DictEntry} {tab : List (Int × Int)}, Paired (fun (e : DictEntry) (p : Int × Int) => (∃ t, e.key = .int p.1 t) ∧ (∃ t, e.val = .int p.2 t) ∧ e.hash = hashInt p.1) l tab →
      ∃ vs : List (Key × Value), Pairs (mixKind P w) l vs ∧ KV (tab.map fun p => ((.inl p.1 : Key), V.int p.2)) vs ∧ vs.map (·.1) = tab.map (fun p => (.inl p.1 : Key)) ∧ ∀ e ∈ l, ∃ k, (mixKind P w).is k e.key = true ∧ e.hash = (mixKind P w).hash k := by
    intro l tab hp
    induction hp with
    | nil => exact ⟨[], .nil, .nil, rfl, fun e he => by simp at he⟩
    | @cons e p l tab hc hr ih =>
      obtain ⟨vs, i1, i2, i3, i4⟩ := ih
      obtain ⟨⟨t, h1⟩, ⟨t2, h2⟩, h3⟩ := hc
      refine ⟨(.inl p.1, e.val) :: vs, .cons (by show keyIs (.inl p.1) e.key = true; rw [h1]; exact keyIs_int _ _) rfl i1, .cons ⟨rfl, by rw [h2]; exact ⟨t2, rfl⟩⟩ i2, by simp [i3], fun e' he => ?_⟩
      rcases List.mem_cons.mp he with rfl | he
      · exact ⟨.inl p.1, by show keyIs (.inl p.1) _ = true; rw [h1]; exact keyIs_int _ _, h3⟩
      · exact i4 e' he
  obtain ⟨vs, i1, i2, i3, i4⟩ := key hp
  refine ⟨vs, ⟨_, es, n, kin _ _ hl, ⟨rfl, rfl, rfl⟩, rfl, fun e he => i4 e (by simpa using he), i1, ?_⟩, i2⟩
  rw [i3]
  exact D.nd
def getI (tab : List (Int × Int)) (d : D) : Option D := match d with
  | .p (.int i) => match tab.find? fun p => p.1 = i with
    | some p => some (.p (.int p.2))
    | none => some (.p .non)
  | _ => none
def cKget (tab : List (Int × Int)) (fe : CE') : CE' := fun env S => (fe env S).bind fun d S1 => R.ofO S1 (getI tab d)
theorem valV_tab (i : Int) : ∀ tab : List (Int × Int), valV (tab.map fun p => ((.inl p.1 : Key), V.int p.2)) (.inl i) = (tab.find? fun p => p.1 = i).map fun p => V.int p.2
  | [] => rfl
  | p :: tab => by
    simp only [List.map_cons, List.find?_cons]
    by_cases h : p.1 = i
    · rw [valV_pos (by rw [h]), decide_eq_true h]; rfl
    · rw [valV_neg (fun q => h (Sum.inl.inj q)), decide_eq_false h]
      exact valV_tab i tab
theorem pf_kget {x : Str} {a : Addr} {tab : List (Int × Int)} {e : Expr} {fe : CE'} {px apos cpos : Pos} (D : KInts G.K a tab) (cg : CtxG G X k) (hg : Gl X x) (hm : X.mg x = some (.ref a)) (he : PF G X e fe) (hdb : (x == ("__debug__" : Str)) = false := by decide)
    (hbase : attributeBase (.Name x px) "get" X.env (eval (.Name x px) X.env) = eval (.Name x px) X.env := by rfl)
    (hfew : ((backTo cpos (starEach [e] X.env)).all (fun x => !x.1) && (backToKw cpos (keywordEach [] X.env)).all (fun x => x.1.isSome)
      && decide (([e] : List Expr).length + ([] : List Keyword).length + (if ([] : List Keyword).isEmpty then 0 else 1) < 30)) = true := by rfl)
    (hline : (apos.endLine == cpos.line) = true := by rfl) (hs : starEach [e] X.env = (false, eval e X.env) :: starEach [] X.env := by rfl) :
    PF G X (.Call (.Attribute (.Name x px) "get" apos) [e] [] cpos) (cKget tab fe) := fun Wx tk => by
  refine ⟨fun pins s σ H Q I h => ?_⟩
  obtain ⟨Z, S, W, env, rfl, st, er, pp⟩ := h
  have kin : G.K.In s.heap := cg.kk ▸ I.kIn
  obtain ⟨es, n, hl, hp⟩ := D.ex
  refine wpAny_Call_method hbase hfew hline PySem.F.plainAttrs_dict PySem.F.slot_dict_get PySem.F.type_dict_get (ld_glob I hg hm ?_ hdb)
  have h0 := kin _ _ hl
  refine ⟨⟨_, h0, rfl⟩, fun b q => (by cases q; exact ⟨_, h0, rfl⟩), ?_⟩
  rw [hs]
  refine Calls.callWith_builtin rfl (Calls.evalArgs_plain (Calls.spliced_cons (thn ((he Wx tk).run pins s σ W.H _ I ⟨Z, S, W, env, rfl, st, er, seqEE pp⟩) fun iv s2 h2 => Calls.spliced_nil ?_)))
  obtain ⟨y, H2, I2, ry, d, S1, W1, rfl, go1, st1, r1, p1⟩ := h2
  obtain ⟨r, er2, q⟩ := ofO_post p1
  unfold getI at er2
  split at er2
  · rename_i i
    have ey := rep_int r1
    subst ey
    have kin2 : G.K.In s2.heap := cg.kk ▸ I2.kIn
    obtain ⟨vs, dd, rel⟩ := kints_dict (P := X.prog) (w := X.w) D kin2
    refine call_meetsIn PySem.F.slot_dict_get dd.typeIs PySem.F.entry_dict_get (PySem.F.args_dict_get_2 _ _) (meets_dict_get (mixKind X.prog X.w) a (kV_is (k := .inl i) ry) D.sm) ⟨_, dd.mapOf, ?_⟩
    have rv := (rel.val (.inl i)).getD (d := .non) (d' := .none) rfl
    rw [valV_tab] at rv
    split at er2
    · rename_i p hf
      cases er2
      rw [hf] at rv
      exact ⟨_, W1.H, I2.tok _, rv, q _ W1 (Go.refl _ _) st1 (mk_int _)⟩
    · rename_i hf
      cases er2
      rw [hf] at rv
      exact ⟨_, W1.H, I2.tok _, rv, q _ W1 (Go.refl _ _) st1 (by simp only [RepD, Rep]; rfl)⟩
  · cases er2
end
end Fe

set_option Elab.async false
set_option linter.all false
set_option maxRecDepth 100000
set_option maxHeartbeats 1000000
namespace Fe
open PySem PySem.Spec PyProof.Rows L2

section
variable {G : Gc} {Wx : WX} {Z : Addr → Prop} {W : Wd} {S : Sto} {σ : L2.St} {X : Cx} {k j : Nat}
/-! ### own exceptions with a field -/
/-- Base.__init__(self, ..), Base an own class over ValueError without an __init__ of its own -/
theorem pe_baseinit {CR : Addr} {x : Str} {e : Expr} {es : List Expr} {ta : TA} {p1 p2 pos : Pos} {pl : Sem Bool} (hg : Gl X x) (gC : X.mg x = some (.ref CR)) (hsp : PySem.W.specialIn X.K (.ref CR) "__getattribute__" = some (some (.builtin "type.__getattribute__")))
    (hr : PySem.W.readsIn X.K CR (.type "type") = true) (hf : PySem.W.findCls X.K (.ref CR) (.type "type") "__init__" = some (.val (.builtin "ValueError.__init__"))) (ha : PA X (e :: es) ta) (hdb : (x == ("__debug__" : Str)) = false := by decide)
    (hc : eval (.Call (.Attribute (.Name x p1) "__init__" p2) (e :: es) [] pos) X.env = (do
      let ov ← eval (.Name x p1) X.env
      standAt p2.atName
      let (f, first) ← holding [ov] (getMethod ov "__init__" pl)
      callWith pos f first (backTo pos (starEach (e :: es) X.env)) (backToKw pos (keywordEach [] X.env))) := by rfl)
    (he : starEach (e :: es) X.env = (false, eval e X.env) :: starEach es X.env := by rfl) (hpl : (backTo pos (starEach es X.env)).any (·.1) = false := by rfl) :
    PE X (.Call (.Attribute (.Name x p1) "__init__" p2) (e :: es) [] pos) (tVeI X.K ta) := by
  refine ⟨fun pins s σ H Q I h => ?_⟩
  refine PySem.W.methodCall_KW (ld_glob I hg gC ?_ hdb) hc
  refine PySem.W.method_cls I.kIn hsp (PySem.W.cls_value I.kIn hr hf (by decide +kernel) ?_)
  refine PyProof.Rows.callWith_method1 (thn (ha.run pos pins _ σ H _ (I.tok _) h) fun us s1 hq => ?_) he hpl
  obtain ⟨vs, H1, I1, r1, a, C, ws, ev, hl, T, ea, q⟩ := hq
  subst ev
  cases r1 with
  | @cons _ u0 _ ur ra rw' =>
    obtain rfl : u0 = Value.ref a := ra
    have hlen : ur.length ≤ sizeLine := by
      rw [← rw'.length, sizeLine_eq]
      omega
    exact oinit_ok T I1 ea hlen fun s' J => ⟨.non, H1, J, rfl, q⟩
/-- the promise of such an __init__ -/
def spX (K : PySem.W.Frag) (C : Addr) (f : Str) : Sp := fun vs H Q _ => ∃ (a : Addr) (y : V), vs = [.ref a, y] ∧ H a = some (exo a C none) ∧ OexC K C ∧ PySem.W.findIn K (.ref C) f = some none ∧
  ∀ dx, H dx = none → dx ≠ a → Q .non (upd (upd H dx (exd dx [(f, y)])) a (exo a C (some dx)))
/-- an exception that was made, as a value -/
theorem pe_of_mk {e : Expr} {t : L2.St → Hp → XK → Prop} (h : PMk X e t) : PE X e (fun σ H Q => t σ H fun cls d H' => ∀ a, H' a = none → Q (.ref a) (upd H' a (XObj cls d a))) := by
  refine ⟨fun pins s σ H Q I hq => ?_⟩
  refine wpAny_mono (h pins s σ H _ I hq) (fun u s' hm => ?_) fun _ _ z => z
  obtain ⟨a, oe, vs, sI, H', cls, d, rfl, J, kp, hne, he, hz, hd, h1, na, os, ag, hr, q⟩ := hm
  have J1 : Inv X pins σ (upd H' a (XObj cls d a)) s' := J.call' (ch := []) os (Un.laidN kp hne na) (J.hok.laidN kp na ⟨⟨oe, vs, he, hz, hd⟩, ⟨oe, he⟩, fun h1 h2 ⟨o1, v1, q1, q2, q3⟩ k => ⟨o1, v1, k o1 q1, q2, q3⟩⟩) ag (fun _ z => nomatch z)
  exact ⟨.ref a, _, J1, rfl, q a na⟩
theorem mko_of {c : Nat} {f : Str} {Q : XK} {d : D} {y : V} {x : P} {S2 : Sto} (hk : X.K = G.K) (T : OexC G.K (G.cl c)) (no : PySem.W.findIn G.K (.ref (G.cl c)) f = some none) (st : StRep G W Z S) (r : RepD G W d y) (hp : pureD d S = some (x, S2))
    (q : ∀ dd W', Go Z W W' → StRep G W' Z S2 → ExcR G W' c [f] [x] (.ref (G.cl c)) (some dd) → Q (.ref (G.cl c)) (some dd) W'.H) :
    ([y] : List V).length ≤ 1000 ∧ ∀ a, W.H a = none → spX X.K (G.cl c) f (.ref a :: ([y] ++ [])) (upd W.H a (exo a (G.cl c) none))
      (fun v H2 => v = .non ∧ ∃ (dd : Addr) (fs : List (Str × V)), H2 a = some (exo a (G.cl c) (some dd)) ∧ H2 dd = some (exd dd fs) ∧ W.H dd = none ∧ Q (.ref (G.cl c)) (some dd) (upd (del H2 a) dd (.xd fs))) (fun _ _ _ => False) := by
  refine ⟨by simp, fun a na => ⟨a, y, rfl, upd_same, hk ▸ T, hk ▸ no, fun dx ndx nea => ⟨rfl, dx, [(f, y)], upd_same, by rw [upd_ne nea, upd_same], by rw [upd_ne nea] at ndx; exact ndx, ?_⟩⟩⟩
  rw [upd_ne nea] at ndx
  obtain ⟨W2, e2, g2, s2, r2⟩ := pureD_rep st hp r
  have e : upd (del (upd (upd (upd W.H a (exo a (G.cl c) none)) dx (exd dx [(f, y)])) a (exo a (G.cl c) (some dx))) a) dx (.xd [(f, y)]) = (W2.put dx (.xd (([f] : List Str).zip [y]))).H := by
    funext b
    show _ = upd W2.H dx _ b
    rw [e2]
    by_cases hb : b = dx
    · subst hb; rw [upd_same, upd_same]; rfl
    · rw [upd_ne hb, upd_ne hb]
      by_cases ha : b = a
      · subst ha; rw [del_same, na]
      · rw [del_ne ha, upd_ne ha, upd_ne hb, upd_ne ha]
  rw [e]
  have nd : W2.H dx = none := by rw [e2]; exact ndx
  have gp := put_go s2 nd (.xd (([f] : List Str).zip [y]))
  refine q dx _ (g2.trans gp) (put_st s2 nd _) ⟨rfl, .inr ⟨dx, [y], rfl, put_at, put_nu s2 nd, rfl, ?_⟩⟩
  simp only [Reps]
  exact ⟨Rep.ext gp.toExt x r2, trivial⟩
def sRaiseX (c : Nat) (f : Str) (fa : CA) : CS := fun env S => match fa env S with
  | .ok [d] S1 => match pureD d S1 with
    | some (x, S2) => .exc c [f] [x] env S2
    | none => .bad
  | .exc c ns ds S1 => .exc c ns ds env S1
  | _ => .bad
def cExcX (c : Nat) (f : Str) (fa : CA) : CE' := fun env S => match fa env S with
  | .ok [d] S1 => match pureD d S1 with
    | some (x, S2) => .ok (.p (.exc c [f] [x])) S2
    | none => .bad
  | .exc c ns ds S1 => .exc c ns ds S1
  | _ => .bad
section
variable {c : Nat} {f x : Str} {fI : Addr} {fd : FuncData} {ps : List Str} {e : Expr} {es : List Expr} {fa : CA} {p pos pos' : Pos}
/-- C(e): makes the exception -/
theorem pmk_x (T : OexC G.K (G.cl c)) (iC : PySem.W.findIn G.K (.ref (G.cl c)) "__init__" = some (some (.ref fI))) (tI : PySem.W.typeIn G.K (.ref fI) = some (.type "function")) (F1 : FnOk X.prog X.w G.K X.mg X.base CX0 j fI fd ps (spX G.K (G.cl c) f)) (cg : CtxG G X k) (hj : j + 1 ≤ k) (hb : Binds G.K fd ps [])
    (hg : Gl X x) (hm : X.mg x = some (.ref (G.cl c))) {ta : TA} (ha : PA X (e :: es) ta) (hdb : (x == ("__debug__" : Str)) = false := by decide)
    (he : starEach (e :: es) X.env = (false, eval e X.env) :: starEach es X.env := by rfl) (hpl : (backTo pos (starEach es X.env)).any (·.1) = false := by rfl) : PMk X (.Call (.Name x p) (e :: es) [] pos) (tMkO (G.cl c) (spX X.K (G.cl c) f) [] ta) := by
  have hk := cg.kk
  rw [← hk] at T iC tI F1 hb
  exact pmk_oex T iC tI F1 (cg.room.mono hj) hb .nil (fun _ _ _ _ _ _ _ h => h.elim) hg hm ha hdb he hpl
theorem pfs_raiseX (T : OexC G.K (G.cl c)) (no : PySem.W.findIn G.K (.ref (G.cl c)) f = some none) (iC : PySem.W.findIn G.K (.ref (G.cl c)) "__init__" = some (some (.ref fI))) (tI : PySem.W.typeIn G.K (.ref fI) = some (.type "function")) (F1 : FnOk X.prog X.w G.K X.mg X.base CX0 j fI fd ps (spX G.K (G.cl c) f)) (cg : CtxG G X k) (hj : j + 1 ≤ k) (hb : Binds G.K fd ps [])
    (hg : Gl X x) (hm : X.mg x = some (.ref (G.cl c))) (ha : PFA G X (e :: es) fa) (hdb : (x == ("__debug__" : Str)) = false := by decide)
    (he : starEach (e :: es) X.env = (false, eval e X.env) :: starEach es X.env := by rfl) (hpl : (backTo pos (starEach es X.env)).any (·.1) = false := by rfl) : PFS G X (.Raise (some (.Call (.Name x p) (e :: es) [] pos)) none pos') (sRaiseX c f fa) := fun Wx tk => by
  refine PS.imp (ps_raise cg.calm tk (pmk_x T iC tI F1 cg hj hb hg hm (ha Wx tk) hdb he hpl)) fun En σ H h => ?_
  obtain ⟨Z, S, W, env, rfl, st, er, pp⟩ := h
  refine ⟨Z, S, W, env, rfl, st, er, ?_⟩
  unfold sRaiseX at pp
  cases hf : fa env S with
  | bad => rw [hf] at pp; exact pp.elim
  | exc c ns ds S' => rw [hf] at pp; exact fun cls dx W' go st' x => pp σ cls dx W' go st' (er.ext go.toExt) x
  | ok ds S1 =>
    rw [hf] at pp
    intro vs W1 go1 st1 rd
    match ds, vs, rd, pp with
    | [d], [y], rd, pp =>
      simp only at pp
      split at pp
      · rename_i x S2 hp
        exact mko_of (Q := fun cls d H' => Wx cls d σ H') cg.kk T no st1 rd.1 hp fun dd W' go' st' xr => pp σ _ _ W' (go1.trans go') st' (er.ext (go1.trans go').toExt) xr
      · exact pp.elim
    | [], _, _, pp => exact pp.elim
    | _ :: _ :: _, _, _, pp => exact pp.elim
    | [_], [], rd, _ => exact rd.elim
    | [_], _ :: _ :: _, rd, _ => exact rd.2.elim
theorem pf_excX (T : OexC G.K (G.cl c)) (no : PySem.W.findIn G.K (.ref (G.cl c)) f = some none) (iC : PySem.W.findIn G.K (.ref (G.cl c)) "__init__" = some (some (.ref fI))) (tI : PySem.W.typeIn G.K (.ref fI) = some (.type "function")) (F1 : FnOk X.prog X.w G.K X.mg X.base CX0 j fI fd ps (spX G.K (G.cl c) f)) (cg : CtxG G X k) (hj : j + 1 ≤ k) (hb : Binds G.K fd ps [])
    (hg : Gl X x) (hm : X.mg x = some (.ref (G.cl c))) (ha : PFA G X (e :: es) fa) (hdb : (x == ("__debug__" : Str)) = false := by decide)
    (he : starEach (e :: es) X.env = (false, eval e X.env) :: starEach es X.env := by rfl) (hpl : (backTo pos (starEach es X.env)).any (·.1) = false := by rfl) : PF G X (.Call (.Name x p) (e :: es) [] pos) (cExcX c f fa) := fun Wx tk => by
  refine PE.imp (pe_of_mk (pmk_x T iC tI F1 cg hj hb hg hm (ha Wx tk) hdb he hpl)) fun σ H Q h => ?_
  obtain ⟨Z, S, W, env, rfl, st, er, pp⟩ := h
  refine ⟨Z, S, W, env, rfl, st, er, ?_⟩
  unfold cExcX at pp
  cases hf : fa env S with
  | bad => rw [hf] at pp; exact pp.elim
  | exc c ns ds S' => rw [hf] at pp; exact pp
  | ok ds S1 =>
    rw [hf] at pp
    intro vs W1 go1 st1 rd
    match ds, vs, rd, pp with
    | [d], [y], rd, pp =>
      simp only at pp
      split at pp
      · rename_i x S2 hp
        refine mko_of (Q := fun cls d H' => ∀ a, H' a = none → Q (.ref a) (upd H' a (XObj cls d a))) cg.kk T no st1 rd.1 hp fun dd W' go' st' xr => fun a na => ?_
        have gp := put_go st' na (XObj (.ref (G.cl c)) (some dd) a)
        refine pp (.ref a) _ ((go1.trans go').trans gp) (put_st st' na _) ?_
        simp only [RepD, Rep]
        refine ⟨a, some dd, rfl, put_nu st' na, put_at, ?_⟩
        rcases xr.2 with ⟨h, _⟩ | ⟨d0, us, e1, e2, e3, e4, e5⟩
        · cases h
        · exact .inr ⟨d0, us, e1, (gp.keep d0 _ e2 e3).1, (gp.keep d0 _ e2 e3).2, e4, Reps.ext gp.toExt _ e5⟩
      · exact pp.elim
    | [], _, _, pp => exact pp.elim
    | _ :: _ :: _, _, _, pp => exact pp.elim
    | [_], [], rd, _ => exact rd.elim
    | [_], _ :: _ :: _, rd, _ => exact rd.2.elim
/-- C('text'), C without an __init__ of its own, as a value -/
def cExc0 (c : Nat) : CE' := cP (.exc c [] [])
theorem pf_exc0 {bmB : List Value} {B newId initId : String} {m : Str} {jj : Nat} {p2 : Pos} (F : ExcBaseFacts B newId initId bmB) (q : PySem.W.excIn G.K (G.cl c) bmB newId = true) (kC : PySem.W.keepIn G.K (.ref (G.cl c)) = true) (h1 : PySem.W.subIn G.K (.ref (G.cl c)) (.type "BaseException") = some true) (h2 : PySem.W.typeIn G.K (.ref (G.cl c)) = some (.type "type"))
    (cg : CtxG G X k) (gC : X.mg x = some (.ref (G.cl c))) (hg : Gl X x) (hdb : (x == ("__debug__" : Str)) = false := by decide) : PF G X (.Call (.Name x p) [.Constant (.str m) jj p2] [] pos) (cExc0 c) := fun Wx tk => by
  have hk := cg.kk
  rw [← hk] at q kC h1 h2
  refine PE.imp (pe_of_mk (pmk_own F q gC kC (raises_own h1 h2) hg hdb)) fun σ H Q h => ?_
  obtain ⟨Z, S, W, env, rfl, st, er, pp⟩ := h
  intro a na
  refine pp (.ref a) _ (put_go st na (XObj (.ref (G.cl c)) none a)) (put_st st na _) ?_
  simp only [RepD, Rep]
  exact ⟨a, none, rfl, put_nu st na, put_at, .inl ⟨trivial, trivial, rfl⟩⟩
end
end
end Fe

set_option Elab.async false
set_option linter.all false
set_option maxRecDepth 100000
set_option maxHeartbeats 1000000
namespace Fe
open PySem PySem.Spec PyProof.Rows L2

section
variable {G : Gc} {Wx : WX} {Z : Addr → Prop} {W : Wd} {S : Sto} {σ : L2.St} {X : Cx} {k j : Nat} {f : Addr} {fd : FuncData} {ps : List Str} {Fd : FD}
/-! ### == and != of an own class -/
def ownAns (Fd : FD) (x y : D) : Option Bool := match allP [x, y] with
  | some _ => match Fd [x, y] [] with
    | .ok (.p (.bl b)) _ => some b
    | _ => none
  | none => none
def tgNot (c : Nat) : Tg → Bool
  | .cls c' => c' == c
  | .xc _ => false
  | _ => true
def dOwn (c : Nat) (Fd : FD) (neg : Bool) (g0 : Sto → D → D → Option D) (S : Sto) (x y : D) : Option D :=
  if clsOf S x = some c then (match tgD S y with
    | some t => if tgNot c t = true then (ownAns Fd x y).map fun b => .p (.bl (if neg then !b else b)) else none
    | none => none) else g0 S x y
theorem run_own {A : Around} {pins : List (Addr × Obj)} {s : Shared} {x y : D} {v1 v2 : V} {u1 u2 : Value} {b : Bool} {E : Value → Shared → Prop} (F : FnG X.prog X.w G X.mg X.base j f fd ps Fd) (hb : Binds G.K fd ps []) (cg : CtxG G X k) (hr : Room j A)
    (hf : A.frames = X.A.frames) (hgd : A.guards = some []) (I : Inv X pins σ W.H s) (st : StRep G W Z S) (r1 : RepD G W x v1) (r2 : RepD G W y v2) (rv1 : RelV v1 u1) (rv2 : RelV v2 u2) (ha : ownAns Fd x y = some b) :
    wpAny (model X.prog X.w) A (call (.ref f) [u1, u2]) (fun z s' => z = .bool b ∧ ∃ W', Inv X pins σ W'.H s' ∧ Go Z W W' ∧ StRep G W' Z S) E s := by
  unfold ownAns at ha
  split at ha
  rotate_left
  · cases ha
  rename_i xs hx
  split at ha
  rotate_left
  · cases ha
  rename_i S2 hF
  cases ha
  have p : PostE G (wxE fun _ _ _ => False) Z W [] (fun v H' => ∃ W', W'.H = H' ∧ Go Z W W' ∧ StRep G W' Z S ∧ v = .bl b) (pureF Fd [x, y] S) := by
    unfold pureF
    rw [hx]
    simp only [hF, pureR, pureD]
    exact fun v W' go st' r' => ⟨W', rfl, go, st', rep_bl r'⟩
  have hl : ([x, y] : List D).length = ps.length := Decidable.byContradiction fun hl => by
    rw [F.len _ _ hl] at hF
    cases hF
  have e0 : Env0 X.prog X.w G.K X.mg X.base A X.stack s W.H := by
    have e := Env0.cg cg.kk I.env0
    exact ⟨by rw [hf]; exact e.frames, e.mod, e.bs, e.bsz, e.funs, e.frf, e.hok, e.bare⟩
  have kin : G.K.In s.heap := cg.kk ▸ I.kIn
  refine wpAny_call (codeAny_mono (F.pure.run A X.stack s ⟨[u1, u2], []⟩ [u1, u2] [v1, v2] Z S W [x, y] _ (fun _ _ _ => False) hr hgd e0 (by
    have := hb s [u1, u2] kin (by simpa using hl)
    simpa using this) (.cons rv1 (.cons rv2 .nil)) st ⟨r1, r2, True.intro⟩ p) fun r s' hq => ?_)
  cases r with
  | error e => obtain ⟨_, _, _, _, _, _, _, _, _, _, _, _, hE⟩ := hq; exact hE.elim
  | ok fl =>
    cases fl with
    | ret w =>
      obtain ⟨z, H', I', rz, W', eH, go, st', rfl⟩ := I.after hq
      subst eH
      cases rz
      exact ⟨rfl, W', I', go, st'⟩
    | next => exact False.elim hq
    | brk => exact False.elim hq
    | cont => exact False.elim hq
theorem not_sub (c : Nat) {t : Tg} (h : tgNot c t = true) : PySem.W.notFirst G.K (G.cl c) (tyV G t) = true := by
  have e1 : fastBuiltinMro "NoneType" = some [.type "NoneType", .type "object"] := by decide +kernel
  have e2 : fastBuiltinMro "bool" = some [.type "bool", .type "int", .type "object"] := by decide +kernel
  have e3 : fastBuiltinMro "int" = some [.type "int", .type "object"] := by decide +kernel
  have e4 : fastBuiltinMro "str" = some [.type "str", .type "object"] := by decide +kernel
  have e5 : fastBuiltinMro "tuple" = some [.type "tuple", .type "object"] := by decide +kernel
  have e6 : fastBuiltinMro "list" = some [.type "list", .type "object"] := by decide +kernel
  have e7 : fastBuiltinMro "dict" = some [.type "dict", .type "object"] := by decide +kernel
  cases t
  case xc c' => cases h
  all_goals simp only [tyV, PySem.W.notFirst, PySem.W.subIn, e1, e2, e3, e4, e5, e6, e7, tgNot, beq_iff_eq] at h ⊢
  all_goals first | (subst h; simp; done) | (cases h; done) | (simp; done)
theorem v_ownEq {c : Nat} {g0 : Sto → D → D → Option D} (F : FnG X.prog X.w G X.mg X.base j f fd ps Fd) (hb : Binds G.K fd ps []) (cg : CtxG G X k) (hj : j ≤ k)
    (ic : InsC G.K (G.cl c)) (hs : PySem.W.findIn G.K (.ref (G.cl c)) "__eq__" = some (some (.ref f))) (hf : PySem.W.isFn G.K (.ref f) = true)
    (h0 : OpR X (compareOp .Eq) (v2D G g0)) : OpR X (compareOp .Eq) (v2D G (dOwn c Fd false g0)) := by
  intro pins s σ H x y v u Q I rx ry h'
  obtain ⟨Z, S, W, d1, d2, d, rfl, st, r1, r2, e, q⟩ := h'
  unfold dOwn at e
  split at e
  · rename_i hc
    split at e
    · rename_i t ht
      split at e
      · rename_i hn
        obtain ⟨b, hb', rfl⟩ := Option.map_eq_some_iff.mp e
        obtain ⟨a, dx, fs, rfl, hA, _⟩ := ins_rep st hc r1
        have tok : TgOk G t := by
          cases t <;> first | trivial | (simp only [tgNot, beq_iff_eq] at hn; subst hn; exact ic) | cases hn
        obtain ⟨P, kit, hP, _⟩ := kit_tg cg I st ht tok r2 ry
        cases rx
        obtain ⟨mA, J, _⟩ := ins_get I.hok hA
        obtain ⟨od, J, _⟩ := J.look
        obtain ⟨m, hF⟩ := I.fr
        show wpAny (model X.prog X.w) X.A (richCompare .Eq (.ref a) u) (EP X pins σ Q) X.xe s
        have kk : X.K = G.K := cg.kk
        refine PySem.W.cmp_K (op := .Eq) (tb := tyV G t) (Nat.lt_of_le_of_lt (Nat.le_add_right _ 64) cg.room.units) hF I.ok.mod.kin J (kit.ty _ _ I.kIn hP) (by rw [kk]; exact not_sub c hn) (by rw [kk]; exact hs) (by rw [kk]; exact hf) ?_
        refine wpAny_mono (run_own F hb cg (cg.room.mono hj) rfl cg.grd I st r1 r2 rfl ry hb') (fun z s' hz => ?_) fun _ _ x => x
        obtain ⟨rfl, W', I', go, st'⟩ := hz
        exact ⟨.bl b, W'.H, I', rfl, q _ W' go st' (mk_bl _)⟩
      · cases e
    · cases e
  · exact h0 pins s σ W.H x y v u Q I rx ry ⟨Z, S, W, d1, d2, d, rfl, st, r1, r2, e, q⟩
theorem ifBound_objNe {A : Around} {M : Model} {E : Value → Shared → Prop} {s : Shared} {K : PySem.W.Frag} {x C : Addr} {ox : Obj} {od : Option Obj} {args : List Value} {Q : Option Value → Shared → Prop} (X : K.In s.heap) (I : PySem.W.InstAt s.heap x ox C od) (hs : PySem.W.findIn K (.ref C) "__ne__" = some (some (.builtin "object.__ne__")))
    (h : wpAny M A (call (.builtin "object.__ne__") (.ref x :: args)) (fun v => Q (some v)) E s) : wpAny M A (callSpecialIfBound? (.ref x) "__ne__" args) Q E s := by
  simp only [callSpecialIfBound?, bindSpecialIfBound?]
  refine wpAny_holding (wpAny_bind (wpAny_bind (wpAny_bind (I.type.here ((PySem.W.looks_findIn X hs).here ?_)))))
  refine wpAny_bind (wpAny_askSetting (wpAny_ite ?_))
  have fin : wpAny M A (call (.builtin "object.__ne__") ([.ref x] ++ args) >>= fun v => pure (some v)) Q E s := wpAny_bind (wpAny_mono h (fun v s' h' => wpAny_pure h') fun _ _ h' => h')
  split
  · exact wpAny_bind (wpAny_of_eq (F.cmp_object.ne.bind _) (wpAny_pure (by exact fin)))
  · exact wpAny_tryCatch (wpAny_bind (wpAny_of_eq (F.cmp_object.ne.bind _) (wpAny_pure (by exact fin))))
theorem entry_ne {prog : Program} {w : World} {A : Around} {E : Value → Shared → Prop} {s : Shared} {K : PySem.W.Frag} {x C f : Addr} {ox : Obj} {od : Option Obj} {y : Value} {Q : Fin → Shared → Prop} (X : K.In s.heap) (I : PySem.W.InstAt s.heap x ox C od) (hu : A.units < cLine)
    (hs : PySem.W.findIn K (.ref C) "__eq__" = some (some (.ref f))) (hf : PySem.W.isFn K (.ref f) = true)
    (hcall : wpAny (model prog w) A (call (.ref f) [.ref x, y]) (fun v s' => ∃ b, v = .bool b ∧ Q (.done (.ret (.bool (!b)))) s') E s) :
    wpAny (model prog w) A (Builtin.«object.__ne__» ⟨[.ref x, y], []⟩) Q E s := by
  obtain ⟨h, g, d, t, os⟩ := s
  unfold Builtin.«object.__ne__»
  repeat (first
    | with_reducible refine wpAny_cRoomFor hu ?_
    | (refine wpAny_bind (m := callSpecialIfBound? (.ref x) (Str.ofString "__eq__") [y])
        (PySem.W.ifBound_K X I hs hf (wpAny_mono hcall (fun r s' hr => by
          obtain ⟨b, rfl, hq⟩ := hr
          repeat (first | exact hq | exact wpAny_pure hq | exact wpAny_truthy_bool hq | (refine wpAny_bind (m := truthy (.bool _)) (wpAny_truthy_bool ?_)) | wp_step)) fun _ _ e => e)))
    | wp_step)
theorem cmp_ne {prog : Program} {w : World} {A : Around} {E : Value → Shared → Prop} {s : Shared} {K : PySem.W.Frag} {x C L f : Addr} {h₀ : Heap} {m : Str → Option Value} {ox : Obj} {od : Option Obj} {b tb : Value} {Q : Value → Shared → Prop} (hu : A.units + 1 < cLine) (Fh : Fr h₀ L s.heap m) (X₀ : K.In h₀) (I : PySem.W.InstAt s.heap x ox C od)
    (hb : PySem.W.Looks (model prog w) s.heap (typeOf b) tb) (hn : PySem.W.notFirst K C tb = true) (hm : PySem.W.mroIn K C (.type "object") = some true)
    (hs : PySem.W.findIn K (.ref C) "__eq__" = some (some (.ref f))) (hf : PySem.W.isFn K (.ref f) = true) (hs2 : PySem.W.findIn K (.ref C) "__ne__" = some (some (.builtin "object.__ne__")))
    (h : wpAny (model prog w) A.in1 (call (.ref f) [.ref x, b]) (fun v s' => ∃ r, v = .bool r ∧ Q (.bool (!r)) s') E s) : wpAny (model prog w) A (richCompare .NotEq (.ref x) b) Q E s := by
  have X := X₀.keeps Fh.keep
  have one : wpAny (model prog w) A (tryCompare (.ref x) "__ne__" b) (fun r s' => ∃ v, r = some v ∧ Q v s') E s := by
    unfold tryCompare
    refine wpAny_bind (ifBound_objNe X I hs2 (wpAny_call (codeAny_call_builtin F.cmp_object.ne.plain F.cmpEntry_ne (PySem.W.check_slot F.cmpKind_ne F.cmpSplit_ne (I.type.andThen (PySem.W.looks_mroIn X hm)) (F.cmpArgs_ne _ _)
      (entry_ne (A := A.in1) X I hu hs hf (wpAny_mono h (fun v s' hv => ?_) fun _ _ e => e))))))
    obtain ⟨r, rfl, q⟩ := hv
    exact ⟨r, rfl, wpAny_pure ⟨_, rfl, q⟩⟩
  unfold richCompare
  simp only [oneThing_ref]
  refine wpAny_holding (wpAny_bind (wpAny_cRoomFor (Nat.lt_of_succ_lt hu) ?_))
  refine wpAny_bind (I.type.here (wpAny_bind (hb.here ?_)))
  rw [cmpInfo_NotEq]
  dsimp only
  split
  · rename_i q
    have e : PySem.W.subIn K tb (.ref C) = some false := by
      rcases Bool.or_eq_true_iff.mp hn with e | e
      · rw [beq_iff_eq.mp e] at q; simp at q
      · exact beq_iff_eq.mp e
    refine wpAny_bind ((PySem.W.looks_subIn X e).here ?_)
    simp only [Bool.false_eq_true, if_false]
    refine wpAny_bind (wpAny_mono one (fun r s' z => ?_) fun _ _ e => e)
    obtain ⟨v, rfl, hq⟩ := z
    exact wpAny_pure hq
  · refine wpAny_bind (wpAny_pure ?_)
    simp only [Bool.false_eq_true, if_false]
    refine wpAny_bind (wpAny_mono one (fun r s' z => ?_) fun _ _ e => e)
    obtain ⟨v, rfl, hq⟩ := z
    exact wpAny_pure hq
theorem v_ownNe {c : Nat} {g0 : Sto → D → D → Option D} (F : FnG X.prog X.w G X.mg X.base j f fd ps Fd) (hb : Binds G.K fd ps []) (cg : CtxG G X k) (hj : j + 1 ≤ k)
    (ic : InsC G.K (G.cl c)) (hs : PySem.W.findIn G.K (.ref (G.cl c)) "__eq__" = some (some (.ref f))) (hf : PySem.W.isFn G.K (.ref f) = true) (hs2 : PySem.W.findIn G.K (.ref (G.cl c)) "__ne__" = some (some (.builtin "object.__ne__")))
    (h0 : OpR X (compareOp .NotEq) (v2D G g0)) : OpR X (compareOp .NotEq) (v2D G (dOwn c Fd true g0)) := by
  intro pins s σ H x y v u Q I rx ry h'
  obtain ⟨Z, S, W, d1, d2, d, rfl, st, r1, r2, e, q⟩ := h'
  unfold dOwn at e
  split at e
  · rename_i hc
    split at e
    · rename_i t ht
      split at e
      · rename_i hn
        obtain ⟨b, hb', rfl⟩ := Option.map_eq_some_iff.mp e
        obtain ⟨a, dx, fs, rfl, hA, _⟩ := ins_rep st hc r1
        have tok : TgOk G t := by
          cases t <;> first | trivial | (simp only [tgNot, beq_iff_eq] at hn; subst hn; exact ic) | cases hn
        obtain ⟨P, kit, hP, _⟩ := kit_tg cg I st ht tok r2 ry
        cases rx
        obtain ⟨mA, J, _⟩ := ins_get I.hok hA
        obtain ⟨od, J, _⟩ := J.look
        obtain ⟨m, hF⟩ := I.fr
        show wpAny (model X.prog X.w) X.A (richCompare .NotEq (.ref a) u) (EP X pins σ Q) X.xe s
        have kk : X.K = G.K := cg.kk
        have hu := cg.room.un
        refine cmp_ne (tb := tyV G t) (K := X.K) (C := G.cl c) (f := f) (by omega) hF I.ok.mod.kin J (kit.ty _ _ I.kIn hP) (by rw [kk]; exact not_sub c hn) (by rw [kk]; exact ic.hm) (by rw [kk]; exact hs) (by rw [kk]; exact hf) (by rw [kk]; exact hs2) ?_
        refine wpAny_mono (run_own F hb cg (cg.room.mono hj).in1 rfl cg.grd I st r1 r2 rfl ry hb') (fun z s' hz => ?_) fun _ _ x => x
        obtain ⟨rfl, W', I', go, st'⟩ := hz
        exact ⟨b, rfl, .bl (!b), W'.H, I', rfl, q _ W' go st' (mk_bl _)⟩
      · cases e
    · cases e
  · exact h0 pins s σ W.H x y v u Q I rx ry ⟨Z, S, W, d1, d2, d, rfl, st, r1, r2, e, q⟩
end
end Fe

set_option Elab.async false
set_option linter.all false
set_option maxRecDepth 100000
set_option maxHeartbeats 1000000
namespace Fe
open PySem PySem.Spec PyProof.Rows L2

section
variable {G : Gc} {Wx : WX} {Z : Addr → Prop} {W : Wd} {S : Sto} {σ : L2.St} {X : Cx} {k j : Nat} {f : Addr} {fd : FuncData} {ps : List Str} {Fd : FD}
/-! ### new instances by keywords -/
theorem run_makeK {c : Nat} {pins : List (Addr × Obj)} {s : Shared} {S : Sto} {Q : VK} {us up : List Value} {kw : List (Str × Value)} {vs : List V} {ds : List D} {ds0 : List Value} {dD : List D} (M : Mk G.K (G.cl c) f) (F : FnG X.prog X.w G X.mg X.base j f fd ps Fd) (cg : CtxG G X k) (hj : j + 1 ≤ k) (tk : Takes X Wx)
    (hb : ∀ (s : Shared) (x : Value), G.K.In s.heap → (x :: us ++ ds0).length = ps.length → BindsTo s fd ⟨x :: up, kw⟩ (ps.zip (x :: us ++ ds0))) (hd : Dflt G dD ds0) (I : Inv X pins σ W.H s) (r : Vals vs us) (st : StRep G W Z S) (rd : RepDs G W ds vs) (p : PostE G Wx Z W σ Q (mkF c Fd (ds ++ dD) S)) :
    wpAny (model X.prog X.w) X.A (call (.ref (G.cl c)) up kw) (EP X pins σ Q) X.xe s := by
  unfold mkF at p
  cases hx : allP (ds ++ dD) with
  | none => rw [hx] at p; exact p.elim
  | some xs =>
    rw [hx] at p
    simp only at p
    have hds := allP_eq hx
    have nx : W.H (s.heap.objs.size + 1) = none := I.hok.fresh (Nat.le_succ _)
    have ndx : W.H s.heap.objs.size = none := I.hok.fresh (Nat.le_refl _)
    have I2 := Inv.made (C := G.cl c) I
    obtain ⟨dvs, vd, hdr⟩ := hd.ex
    have rd1 : RepDs G W (ds ++ dD) (vs ++ dvs) := RepDs.app rd (hdr W)
    rw [hds] at rd1 p
    have rd2 := RepDs.kpP (born_kp (C := G.cl c) nx ndx) rd1
    have r2 : Vals (V.ref (s.heap.objs.size + 1) :: (vs ++ dvs)) (Value.ref (s.heap.objs.size + 1) :: (us ++ ds0)) := .cons rfl (r.append vd)
    have kin : G.K.In s.heap := cg.kk ▸ I.kIn
    have room := (cg.room.mono hj).make (G.cl c) up kw
    have st0 := born_st (c := c) st nx ndx
    have ge : (X.A.under (.builtin "type.__call__" ⟨.ref (G.cl c) :: up, kw⟩)).guards = some [] := make_guards.trans cg.grd
    have e0 := Env0.cg cg.kk I2.env0
    have kin2 : G.K.In ((s.heap.push PySem.W.emptyDict).push (PySem.W.instObj (G.cl c) s.heap.objs.size)) := cg.kk ▸ I2.kIn
    have p2 : PostE G (wxE fun cc d H => Wx cc d σ H) W.U (W.born (G.cl c) (s.heap.objs.size + 1) s.heap.objs.size) [] (fun v H2 => v = .non ∧ Q (.ref (s.heap.objs.size + 1)) H2) (Fd (.ref 0 :: xs.map D.p) [.ins c [] []]) := by
      cases hF : Fd (.ref 0 :: xs.map D.p) [.ins c [] []] with
      | bad => rw [hF] at p; exact p
      | exc e ns ws S' =>
        rw [hF] at p
        intro cls d0 W' go st' xr
        obtain ⟨g1, g2⟩ := born_back st nx ndx go st'.tab
        exact p cls d0 (W.back W') g1 g2 (xr.kp (show Kp W' (W.back W') from kp_same rfl fun a (u : W.U a) => st'.zu a u))
      | ok d S' =>
        rw [hF] at p
        intro v W' go st' rv
        split at p
        · rename_i S'' hq
          cases hq
          refine ⟨rep_non rv, ?_⟩
          split at p
          · rename_i c' ns ws hs
            split at p
            · rename_i hc
              subst hc
              obtain ⟨g1, g2⟩ := born_back st nx ndx go st'.tab
              obtain ⟨k1, k2, dx', us', k3, k4, k5⟩ := st'.obj 0 _ hs rfl
              have r0 : W'.ρ 0 = s.heap.objs.size + 1 := go.rho 0 Nat.zero_lt_one
              rw [r0] at k3
              refine p (.ref (s.heap.objs.size + 1)) (W.back W') g1 g2 ?_
              simp only [RepD, Rep]
              exact ⟨_, dx', us', rfl, put_nu st nx, k3, k4, Reps.kp (show Kp W' (W.back W') from kp_same rfl fun a (u : W.U a) => st'.zu a u) ws k5⟩
            · exact p.elim
          · exact p.elim
        · exact p.elim
        · rename_i h; cases h
        · rename_i h; cases h
    have hl : (Value.ref (s.heap.objs.size + 1) :: us ++ ds0).length = ps.length := by
      have e := r2.length
      have e2 := rd2.length
      have e3 := lenOk F p2
      simp only [List.length_cons, List.length_append] at e e3 ⊢
      have e4 := rd1.length
      simp only [List.length_append] at e4
      omega
    refine wpAny_call (make_map (f := f) kin M.makes M.init (beq_iff_eq.mp M.fn) (codeAny_mono (F.run _ X.stack _ ⟨Value.ref (s.heap.objs.size + 1) :: up, kw⟩ (Value.ref (s.heap.objs.size + 1) :: (us ++ ds0)) _ W.U [.ins c [] []] (W.born (G.cl c) (s.heap.objs.size + 1) s.heap.objs.size) (.ref 0 :: xs.map D.p) _ _ room ge
      (Env0.make e0 (G.cl c) up kw) (hb _ (Value.ref (s.heap.objs.size + 1)) kin2 hl) r2 st0 ⟨⟨Nat.zero_lt_one, rfl⟩, rd2⟩ p2) fun r s' hq' => ?_))
    cases r with
    | error e => exact tk e s' (XE.of_call I2 (fun cls d H' h => h) hq')
    | ok fl =>
      cases fl with
      | ret u =>
        obtain ⟨v, H', I3, rv, ev, q3⟩ := I2.after hq'
        subst ev
        exact ⟨rv, ⟨V.ref (s.heap.objs.size + 1), H', I3, rfl, q3⟩⟩
      | next => exact False.elim hq'
      | brk => exact False.elim hq'
      | cont => exact False.elim hq'
/-- C(k=e, ..) -/
theorem pf_makeK0 {c : Nat} {x : Str} {p pos : Pos} {kws : List Keyword} {ks : List Str} {ds0 : List Value} {dD : List D} {fk : CA} (M : Mk G.K (G.cl c) f) (F : FnG X.prog X.w G X.mg X.base j f fd ps Fd) (cg : CtxG G X k) (hj : j + 1 ≤ k) (hg : Gl X x) (hm : X.mg x = some (.ref (G.cl c)))
    (hb : KB G.K fd ps ks ds0) (hd : Dflt G dD ds0) (hkw : PFK G X kws fk) (hall : (backToKw pos (keywordEach kws X.env)).all (·.1.isSome) = true := by rfl) (hks : (backToKw pos (keywordEach kws X.env)).filterMap (·.1) = ks := by rfl)
    (hdb : (x == ("__debug__" : Str)) = false := by decide)
    (hpl : ((backTo pos (starEach [] X.env)).any (·.1) || (backToKw pos (keywordEach kws X.env)).any (·.1.isNone)) = false := by rfl) : PF G X (.Call (.Name x p) [] kws pos) (cCallK ks.length (mkF c Fd) dD cNil fk) := fun Wx tk => by
  refine ⟨fun pins s σ H Q I h => ?_⟩
  refine wpAny_Call_Name_kw (ld_glob I hg hm ?_ hdb)
  obtain ⟨Z, S, W, env, rfl, st, er, p1⟩ := h
  refine PySem.W.callWith_KW0 (h₀ := X.base) I.ok.mod.kin (by rw [cg.kk]; exact M.kp) hall ?_ hpl
  have p1' : PostE G Wx Z W σ Q ((fk env S).bind fun es S2 => if es.length = ks.length then mkF c Fd ([] ++ es ++ dD) S2 else .bad) := p1
  refine thn ((hkw Wx tk).run pos pins s σ W.H _ I ⟨Z, S, W, env, rfl, st, er, seqAE p1'⟩) fun ws s2 h2 => ?_
  obtain ⟨zs, H2, I2, rz, es2, S2, W2, rfl, go2, st2, re, p2⟩ := h2
  split at p2
  case isFalse => exact p2.elim
  rename_i hnk
  have hw : ws.length = ks.length := by rw [← rz.length, ← re.length]; exact hnk
  refine ⟨I2.kIn, ?_⟩
  rw [hks]
  exact run_makeK (us := ws) (up := []) (kw := ks.zip ws) M F cg hj tk (fun s x kin hl => by simpa using hb.to s [x] ws kin hw (by simpa using hl)) hd I2 rz st2 re p2
def cMethK (c : Nat) (m : Str) (nk : Nat) (Fd : FD) (dD : List D) (fo : CE') (fk : CA) : CE' := fun env S => (fo env S).bind fun o S1 => if clsOf S1 o = some c ∧ noFld m S1 o = true then (fk env S1).bind fun es S2 => if es.length = nk then Fd (o :: (es ++ dD)) S2 else .bad else .bad
theorem pf_methK0 {c : Nat} {m : Str} {o : Expr} {pos apos : Pos} {pl : Sem Bool} {kws : List Keyword} {ks : List Str} {fk : CA} {ds0 : List Value} {dD : List D} {fo : CE'} (cl : Cls G.K (G.cl c)) (hm : Meth G.K (G.cl c) m f) (F : FnG X.prog X.w G X.mg X.base j f fd ps Fd) (cg : CtxG G X k) (hj : j ≤ k)
    (hb : KB G.K fd ps ks ds0) (hd : Dflt G dD ds0) (ho : PF G X o fo) (hkw : PFK G X kws fk) (hall : (backToKw pos (keywordEach kws X.env)).all (·.1.isSome) = true := by rfl) (hks : (backToKw pos (keywordEach kws X.env)).filterMap (·.1) = ks := by rfl)
    (hpl : ((backTo pos (starEach [] X.env)).any (·.1) || (backToKw pos (keywordEach kws X.env)).any (·.1.isNone)) = false := by rfl)
    (ht : eval (.Call (.Attribute o m apos) [] kws pos) X.env = (do
      let ov ← eval o X.env
      standAt apos.atName
      let (f, first) ← holding [ov] (getMethod ov m pl)
      callWith pos f first (backTo pos (starEach [] X.env)) (backToKw pos (keywordEach kws X.env))) := by rfl) :
    PF G X (.Call (.Attribute o m apos) [] kws pos) (cMethK c m ks.length Fd dD fo fk) := fun Wx tk => by
  refine ⟨fun pins s σ H Q I h => ?_⟩
  obtain ⟨Z, S, W, env, rfl, st, er, pp⟩ := h
  refine PySem.W.methodCall_KW (pl := pl) (thn ((ho Wx tk).run pins s σ W.H _ I ⟨Z, S, W, env, rfl, st, er, seqEE pp⟩) fun u s1 h1 => ?_) ht
  obtain ⟨v, H1, I1, rv, od, S1, W1, rfl, go1, st1, r1, p1⟩ := h1
  split at p1
  · rename_i hc
    obtain ⟨a, dx, fs, rfl, ea, nf⟩ := ins_rep st1 hc.1 r1
    obtain rfl : u = Value.ref a := rv
    refine getmeth_ok I1 ea (cg.kk ▸ cl) (cg.kk ▸ hm) (nf m hc.2) ?_
    refine PySem.W.callWith_KW0 (first := [.ref a]) (h₀ := X.base) I.ok.mod.kin (by rw [cg.kk]; exact hm.kp) hall ?_ hpl
    refine thn ((hkw Wx tk).run pos pins s1 σ W1.H _ I1 ⟨Z, S1, W1, env, rfl, st1, er.ext go1.toExt, seqAE p1⟩) fun ws s2 h2 => ?_
    obtain ⟨zs, H2, I2, rz, es2, S2, W2, rfl, go2, st2, re, p2⟩ := h2
    split at p2
    case isFalse => exact p2.elim
    rename_i hnk
    have hw : ws.length = ks.length := by rw [← rz.length, ← re.length]; exact hnk
    refine ⟨I2.kIn, ?_⟩
    rw [hks]
    obtain ⟨dvs, vd, hdr⟩ := hd.ex
    have rd2 : RepDs G W2 (od :: (es2 ++ dD)) (V.ref a :: (zs ++ dvs)) := ⟨RepD.ext go2.toExt r1, RepDs.app re (hdr W2)⟩
    have r2 : Vals (V.ref a :: (zs ++ dvs)) (Value.ref a :: (ws ++ ds0)) := .cons rfl (rz.append vd)
    have hl : ([Value.ref a] ++ ws ++ ds0).length = ps.length := by
      have e1 := r2.length
      have e2 := rd2.length
      have e3 := lenOk F p2
      simp only [List.length_cons, List.length_append, List.nil_append, List.length_nil] at e1 e2 e3 ⊢
      omega
    have kin : G.K.In s2.heap := cg.kk ▸ I2.kIn
    exact wp_of_code (run_fnG (us := Value.ref a :: (ws ++ ds0)) F cg hj tk (hb.to s2 [.ref a] ws kin hw hl) I2 r2 st2 rd2 p2)
  · exact p1.elim
/-! ### list(e), to be written later -/
def cListR (fa : CA) : CE' := fun env S => (fa env S).bind fun ds S1 => match ds with
  | [d] => match asSeq S1 d with
    | some xs => .ok (.ref S1.length) (S1 ++ [.lst xs])
    | none => .bad
  | _ => .bad
theorem pf_listR {x : Str} {e : Expr} {es : List Expr} {fa : CA} {p pos : Pos} (cg : CtxG G X k) (hm : X.mg x = none) (ha : PFA G X (e :: es) fa) (hg : Gl X x := by rfl) (hv : bootBuiltins x = some (.type "list") := by decide +kernel)
    (hn : x ≠ "__name__" := by decide) (hdb : (x == ("__debug__" : Str)) = false := by decide) (hs : starEach (e :: es) X.env = (false, eval e X.env) :: starEach es X.env := by rfl) (hpl : (backTo pos (starEach es X.env)).any (·.1) = false := by rfl) :
    PF G X (.Call (.Name x p) (e :: es) [] pos) (cListR fa) := fun Wx tk => by
  refine PE.imp (pe_callTy call_list_of hg hm hv (ha Wx tk) hn hdb hs hpl) fun σ H Q h => ?_
  obtain ⟨Z, S, W, env, rfl, st, er, pp⟩ := h
  refine ⟨Z, S, W, env, rfl, st, er, (seqAE pp).mono fun vs H1 h1 => ?_⟩
  obtain ⟨ds, S1, W1, rfl, go1, st1, r1, p1⟩ := h1
  match ds, vs, r1, p1 with
  | [d], [v], r1, p1 =>
    simp only at p1
    split at p1
    · rename_i xs hx
      obtain ⟨a, us, rfl, t, r⟩ := asSeq_rep cg.kk st1 hx r1.1
      refine ⟨a, us, rfl, t, fun q np => ?_⟩
      have gg := grow_go st1 np (.lst us)
      refine p1 (.ref q) _ gg (grow_st st1 np rfl ⟨us, upd_same, Reps.ext gg.toExt xs r⟩) ⟨by rw [← st1.len]; exact Nat.lt_succ_self _, ?_⟩
      show _ = V.ref (if S1.length = W1.n then q else W1.ρ S1.length)
      rw [if_pos st1.len.symm]
    · exact p1.elim
  | [], _, _, p1 => exact p1.elim
  | _ :: _ :: _, _, _, p1 => exact p1.elim
  | [_], [], r1, _ => exact r1.elim
  | [_], _ :: _ :: _, r1, _ => exact r1.2.elim

/-! ### max, min of a list or a tuple of ints -/
def best (mx : Bool) : List Int → Option D
  | [] => none
  | b :: bs => some (.p (.int (if mx then bs.foldl max b else bs.foldl min b)))
def dBest (mx : Bool) (S : Sto) (x : D) : Option D := ((asSeq S x).bind asInts).bind (best mx)
theorem best_ints (hu : X.A.units + 64 < cLine) (hh : X.A.handled = none) {pins : List (Addr × Obj)} {s : Shared} {H : Hp} {Q : VK} {a : Addr} {n : Int} {ns : List Int} (mx : Bool) (I : Inv X pins σ H s) (hs : SqL X.K H a ((n :: ns).map V.int) ∨ SqT X.K H a ((n :: ns).map V.int))
    (q : Q (.int (if mx then ns.foldl max n else ns.foldl min n)) H) : wpAny (model X.prog X.w) X.A (call (.builtin (if mx then "max" else "min")) [.ref a]) (EP X pins σ Q) X.xe s := by
  have al := PySem.W.alikeAll_datum (α := Int) (n :: ns)
  have dp : PyData.depthAll ((n :: ns).map PyData.int) ≤ PySem.W.Datum.depth Int := PySem.W.depthAll_map (α := Int) (n :: ns)
  have dq : PySem.W.Datum.depth Int ≤ 1 := by decide
  have fin : ∀ (i : Int) (v : Value) (h' : Heap) (tk : Nat) (bs : List Addr), i = (if mx then ns.foldl max n else ns.foldl min n) → Reads h' v (.int i) bs → (∀ b o, s.heap.get? b = some o → h'.get? b = some o) → EP X pins σ Q v { s with heap := h', toks := tk } := by
    intro i v h' tk bs e r hk
    obtain ⟨t, rfl, _⟩ := reads_int_inv r
    exact ⟨.int i, H, I.kept hk, ⟨_, rfl⟩, by rw [e]; exact q⟩
  rcases hs with hs | hs
  · obtain ⟨its, rv, hl, _⟩ := I.list hs
    have rs : ReadsAll s.heap its.toArray.toList (PyData.int n :: ns.map PyData.int) [] := PySem.W.readsAll_of_ints rv.ints
    cases mx
    · exact PySem.W.min_list_data hh hl.isList rs al (by show X.A.units + 1 + PyData.depthAll ((n :: ns).map PyData.int) < cLine; omega) fun i v h' tk bs hi r hk => fin _ v h' tk bs rfl (by rw [PySem.W.minD_ints] at r; exact r) hk
    · exact PySem.W.max_list_data hh hl.isList rs al (by show X.A.units + 1 + PyData.depthAll ((n :: ns).map PyData.int) < cLine; omega) fun i v h' tk bs hi r hk => fin _ v h' tk bs rfl (by rw [PySem.W.maxD_ints] at r; exact r) hk
  · obtain ⟨its, rv, hl, _⟩ := I.tuple hs
    have rs : ReadsAll s.heap its.toArray.toList (PyData.int n :: ns.map PyData.int) [] := PySem.W.readsAll_of_ints rv.ints
    cases mx
    · exact PySem.W.min_tuple_data hh hl rs al (by show X.A.units + 1 + PyData.depthAll ((n :: ns).map PyData.int) < cLine; omega) fun i v h' tk bs hi r hk => fin _ v h' tk bs rfl (by rw [PySem.W.minD_ints] at r; exact r) hk
    · exact PySem.W.max_tuple_data hh hl rs al (by show X.A.units + 1 + PyData.depthAll ((n :: ns).map PyData.int) < cLine; omega) fun i v h' tk bs hi r hk => fin _ v h' tk bs rfl (by rw [PySem.W.maxD_ints] at r; exact r) hk
theorem c_best (mx : Bool) (cg : CtxG G X k) : CallR X (.builtin (if mx then "max" else "min")) (vsD G (on1 (dBest mx))) := call1 fun pins s σ x u Q Z S W d1 d I ru st r1 e q => by
  obtain ⟨bs, h, e⟩ := Option.bind_eq_some_iff.mp e
  obtain ⟨xs, h1, h2⟩ := Option.bind_eq_some_iff.mp h
  obtain ⟨a, vs, rfl, t, r⟩ := asSeq_rep cg.kk st h1 r1
  rw [asInts_rep h2 r] at t
  cases bs with
  | nil => cases e
  | cons n ns =>
    cases e
    cases ru
    exact best_ints cg.room.units (I.ok.hd cg.calm) mx I t (q _ W (Go.refl _ _) st (mk_int _))
theorem c_max1 (cg : CtxG G X k) : CallR X (.builtin "max") (vsD G (on1 (dBest true))) := c_best true cg
theorem c_min1 (cg : CtxG G X k) : CallR X (.builtin "min") (vsD G (on1 (dBest false))) := c_best false cg
end
end Fe

set_option Elab.async false
set_option linter.all false
set_option maxRecDepth 100000
set_option maxHeartbeats 1000000
namespace Fe
open PySem PySem.Spec PyProof.Rows L2
/-! ### the __init__ of an own exception with one field -/
theorem spX_len {K : PySem.W.Frag} {C : Addr} {f n1 n2 : Str} {vs : List V} {H : Hp} {Q : VK} {E : XK} (h : spX K C f vs H Q E) : vs.length = ([n1, n2] : List Str).length := by
  obtain ⟨a, y, rfl, _⟩ := h; rfl
theorem spX_t {K : PySem.W.Frag} {C : Addr} {f m n1 n2 : Str} {vs : List V} {H : Hp} {Q : VK} {E : XK} (h : spX K C f vs H Q E) :
    (tSeq (tDrop (tVeI K (tCons (tVar 0) (tCons (tC (.str m)) tNil)))) (tOst K f (tVar 0) (tVar 1))) { nx := fun _ H' => Q .non H', rt := Q } (L2.start [n1, n2] vs) H := by
  obtain ⟨a, y, rfl, ha, T, no, q⟩ := h
  exact ⟨.ref a, rfl, a, C, [.str m], rfl, by simp, T, ha, y, rfl, .ref a, rfl, a, C, rfl, T, no, .inl ⟨ha, fun dx n ne => q dx n ne⟩⟩
/-- what the written part says of the base -/
structure BaseX (K : PySem.W.Frag) (CR : Addr) : Prop where
  sp : PySem.W.specialIn K (.ref CR) "__getattribute__" = some (some (.builtin "type.__getattribute__"))
  rd : PySem.W.readsIn K CR (.type "type") = true
  fc : PySem.W.findCls K (.ref CR) (.type "type") "__init__" = some (.val (.builtin "ValueError.__init__"))
end Fe

set_option Elab.async false
set_option linter.all false
set_option maxRecDepth 100000
set_option maxHeartbeats 1000000
namespace Fe
open PySem PySem.Spec PyProof.Rows L2
/-! ### reading lemmas for simp -/
section
variable {env : DEnv} {S S1 : Sto} {d : D}
@[simp] theorem m_toS_ok (k : D → Sto → RS) : (R.ok d S).toS env k = k d S := (rfl)
@[simp] theorem m_toS_exc (c ns vs) (k : D → Sto → RS) : (R.exc c ns vs S : R D).toS env k = .exc c ns vs env S := (rfl)
@[simp] theorem m_toST_ok (b : Bool) (k : Bool → Sto → RS) : (R.ok b S).toST env k = k b S := (rfl)
@[simp] theorem m_then_nx (k : CS) : (RS.nx env S).andThen k = k env S := (rfl)
@[simp] theorem m_then_rt (k : CS) : (RS.rt d S).andThen k = .rt d S := (rfl)
@[simp] theorem m_then_bk (k : CS) : (RS.bk env S).andThen k = .bk env S := (rfl)
@[simp] theorem m_then_exc (c ns vs) (k : CS) : (RS.exc c ns vs env S).andThen k = .exc c ns vs env S := (rfl)
@[simp] theorem m_var (i : Nat) (d : D) (h : env[i]? = some (some d)) : cVar i env S = .ok d S := by unfold cVar; rw [h]
@[simp] theorem m_P (x : P) : cP x env S = .ok (.p x) S := (rfl)
@[simp] theorem m_op (g fa fb) : cOp g fa fb env S = (fa env S).bind fun x S1 => (fb env S1).bind fun y S2 => R.ofO S2 (g S2 x y) := (rfl)
@[simp] theorem m_un (g fa) : cUn g fa env S = (fa env S).bind fun x S1 => R.ofO S1 (g S1 x) := (rfl)
@[simp] theorem m_TB (f) : cTB f env S = (f env S).bind fun d S1 => R.ofO S1 (asB d) := (rfl)
@[simp] theorem m_Tr (f) : cTr f env S = (f env S).bind fun d S1 => R.ofO S1 (truth S1 d) := (rfl)
@[simp] theorem m_and (f g) : cAnd f g env S = (f env S).bind fun c S1 => if c = true then g env S1 else .ok false S1 := (rfl)
@[simp] theorem m_or (f g) : cOr f g env S = (f env S).bind fun c S1 => if c = true then .ok true S1 else g env S1 := (rfl)
@[simp] theorem m_not (f) : cNot f env S = (f env S).bind fun c S1 => .ok (!c) S1 := (rfl)
@[simp] theorem m_if (t f g) : cIf t f g env S = (t env S).bind fun c S1 => if c = true then f env S1 else g env S1 := (rfl)
@[simp] theorem m_andV (f g) : cAndV f g env S = (cTB f env S).bind fun c S1 => if c = true then g env S1 else .ok (.p (.bl false)) S1 := (rfl)
@[simp] theorem m_orV (f g) : cOrV f g env S = (cTB f env S).bind fun c S1 => if c = true then .ok (.p (.bl true)) S1 else g env S1 := (rfl)
@[simp] theorem m_notV (f) : cNotV f env S = (cTB f env S).bind fun c S1 => .ok (.p (.bl (!c))) S1 := (rfl)
@[simp] theorem m_nil : cNil env S = .ok [] S := (rfl)
@[simp] theorem m_cons (fa fr) : cCons fa fr env S = (fa env S).bind fun x S1 => (fr env S1).bind fun xs S2 => .ok (x :: xs) S2 := (rfl)
@[simp] theorem m_app (g fa) : cApp g fa env S = (fa env S).bind fun ds S1 => R.ofO S1 (g S1 ds) := (rfl)
@[simp] theorem m_on1 (g : Sto → D → Option D) (x : D) : on1 g S [x] = g S x := (rfl)
@[simp] theorem m_call (F dD fa) : cCall F dD fa env S = (fa env S).bind fun ds S1 => F (ds ++ dD) S1 := (rfl)
@[simp] theorem m_callK (n F dD fa fk) : cCallK n F dD fa fk env S = (fa env S).bind fun ds S1 => (fk env S1).bind fun es S2 => if es.length = n then F (ds ++ es ++ dD) S2 else .bad := (rfl)
@[simp] theorem m_seq (f g : CS) : sSeq f g env S = (f env S).andThen g := (rfl)
@[simp] theorem m_sif (t f g) : sIf t f g env S = (t env S).toST env fun c S1 => if c = true then f env S1 else g env S1 := (rfl)
@[simp] theorem m_ret (f) : sRet f env S = (f env S).toS env fun d S1 => .rt d S1 := (rfl)
@[simp] theorem m_set (i f) : sSet i f env S = (f env S).toS env fun d S1 => .nx (env.set i (some d)) S1 := (rfl)
@[simp] theorem m_asg (g f) : sAsg g f env S = (f env S).toS env fun d S1 => match g d env S1 with
  | some (env', S2) => .nx env' S2
  | none => .bad := (rfl)
@[simp] theorem m_expr (f) : sExpr f env S = (f env S).toS env fun _ S1 => .nx env S1 := (rfl)
@[simp] theorem m_snx : sNx env S = .nx env S := (rfl)
@[simp] theorem m_gN (i : Nat) : gN i d env S = some (env.set i (some d), S) := (rfl)
@[simp] theorem m_gSet (fo fi) : gSet fo fi d env S = (match okE fo env S with
  | some (o, S1) => match okE fi env S1 with
    | some (ix, S2) => (setL S2 o ix d).map fun S3 => (env, S3)
    | none => none
  | none => none) := (rfl)
theorem m_okE {f : CE'} {d : D} (h : f env S = .ok d S1) : okE f env S = some (d, S1) := by unfold okE; rw [h]
@[simp] theorem m_asB (b : Bool) : asB (.p (.bl b)) = some b := (rfl)
@[simp] theorem m_dII (C g) (i j : Int) : dII C g S (.p (.int i)) (.p (.int j)) = if C i j = true then some (.p (g i j)) else none := (rfl)
@[simp] theorem m_add (i j : Int) : dAdd S (.p (.int i)) (.p (.int j)) = some (.p (.int (i + j))) := (rfl)
@[simp] theorem m_mul (i j : Int) : dMul S (.p (.int i)) (.p (.int j)) = if cMulB i j = true then some (.p (.int (i * j))) else none := (rfl)
@[simp] theorem m_cmp (p t) (i j : Int) : dCmp p t S (.p (.int i)) (.p (.int j)) = some (.p (.bl (p i j))) := (rfl)
@[simp] theorem m_max (i j : Int) : dMax S [.p (.int i), .p (.int j)] = some (.p (.int (if j > i then j else i))) := (rfl)
@[simp] theorem m_int (i : Int) : dInt S (.p (.int i)) = some (.p (.int i)) := (rfl)
@[simp] theorem m_cTrue (i j : Int) : cTrue i j = true := (rfl)
@[simp] theorem m_okE_var (i : Nat) (d : D) (h : env[i]? = some (some d)) : okE (cVar i) env S = some (d, S) := m_okE (m_var i d h)
@[simp] theorem m_okE_P (x : P) : okE (cP x) env S = some (.p x, S) := (rfl)
theorem body_rt {np n : Nat} {g : CS} {ds : List D} (hl : ds.length = np) (h : g (startD n ds) S = .rt d S1) : cBody np n g ds S = .ok d S1 := by
  unfold cBody; rw [if_pos hl, h]
theorem body_exc {np n : Nat} {g : CS} {ds : List D} {c ns vs e} (hl : ds.length = np) (h : g (startD n ds) S = .exc c ns vs e S1) : cBody np n g ds S = .exc c ns vs S1 := by
  unfold cBody; rw [if_pos hl, h]
theorem body_nx {np n : Nat} {g : CS} {ds : List D} {e} (hl : ds.length = np) (h : g (startD n ds) S = .nx e S1) : cBody np n g ds S = .ok (.p .non) S1 := by
  unfold cBody; rw [if_pos hl, h]
@[simp] theorem m_small (n : Nat) (h : n ≤ 65536) : (n ≤ sizeLine) = True := eq_true (small_sz n h)
@[simp] theorem m_small_lt (n : Nat) (h : n < 65536) : (n < sizeLine) = True := eq_true (Nat.lt_of_lt_of_le (Nat.lt_succ_self n) (small_sz (n + 1) h))
theorem mulB_ok {i j : Int} (a b : Nat) (hi : i.natAbs < 2 ^ a) (hj : j.natAbs < 2 ^ b) (h : a + b ≤ 100000) : cMulB i j = true := by
  have h1 := PyProof.Rows.intBits_le hi
  have h2 := PyProof.Rows.intBits_le hj
  exact decide_eq_true (by omega)
theorem powB_ok {i j : Int} (a : Nat) (hi : i.natAbs < 2 ^ a) (h0 : 0 ≤ j) (h : (a : Int) * j ≤ 100000) : cPowB i j = true := by
  have h1 := PyProof.Rows.intBits_le hi
  have h2 : ((Builtin.Int.intBits i : Nat) : Int) * j ≤ (a : Int) * j := Int.mul_le_mul_of_nonneg_right (by omega) h0
  exact decide_eq_true ⟨h0, by omega⟩
theorem divB_ok {i j : Int} (h0 : 0 < j) (h : j < 2 ^ 64) : cDivB i j = true := by
  refine decide_eq_true ⟨h0, ?_⟩
  have : j.natAbs.log2 < 64 := by
    rw [Nat.log2_lt (by omega)]
    omega
  omega
theorem pos_ok {i j : Int} (h0 : 0 < j) : cPos i j = true := decide_eq_true h0
/-! ### the law's drawing -/
def st3 (a b c : Int) : SO := .lst [.int a, .int b, .int c]
@[simp] theorem st3_live (a b c : Int) : (st3 a b c).live = true := (rfl)
@[simp] theorem ix_st0 (a b c : Int) (rest : Sto) : dIx (st3 a b c :: rest) (.ref 0) (.p (.int 0)) = some (.p (.int a)) := (rfl)
@[simp] theorem ix_st1 (a b c : Int) (rest : Sto) : dIx (st3 a b c :: rest) (.ref 0) (.p (.int 1)) = some (.p (.int b)) := (rfl)
@[simp] theorem ix_st2 (a b c : Int) (rest : Sto) : dIx (st3 a b c :: rest) (.ref 0) (.p (.int 2)) = some (.p (.int c)) := (rfl)
@[simp] theorem set_st0 (a b c x : Int) (rest : Sto) : setL (st3 a b c :: rest) (.ref 0) (.p (.int 0)) (.p (.int x)) = some (st3 x b c :: rest) := (rfl)
@[simp] theorem set_st2 (a b c x : Int) (rest : Sto) : setL (st3 a b c :: rest) (.ref 0) (.p (.int 2)) (.p (.int x)) = some (st3 a b x :: rest) := (rfl)
/-- the law's draw as it is read in every law's text -/
def drawF : FD := cBody 2 3 (sSeq (sIf (cTB (cOp dGt (cOp dIx (cVar 0) (cP (.int 0))) (cP (.int 0)))) (sSeq (sSet 2 (cOp dMod (cApp (on1 dInt) (cCons (cOp dIx (cVar 0) (cP (.int 0))) cNil)) (cVar 1)))
  (sSeq (sAsg (gSet (cVar 0) (cP (.int 0))) (cOp dFdiv (cOp dIx (cVar 0) (cP (.int 0))) (cVar 1)))
  (sRet (cVar 2)))) sNx)
  (sSeq (sAsg (gSet (cVar 0) (cP (.int 2))) (cOp dAdd (cOp dIx (cVar 0) (cP (.int 2))) (cP (.int 1))))
  (sSeq (sSet 2 (cOp dAdd (cOp dMod (cApp (on1 dInt) (cCons (cOp dIx (cVar 0) (cP (.int 1))) cNil)) (cP (.int 2147483629))) (cOp dMul (cP (.int 104729)) (cOp dIx (cVar 0) (cP (.int 2))))))
  (sSeq (sSet 2 (cOp dMul (cVar 2) (cOp dAdd (cOp dAdd (cOp dMod (cApp (on1 dInt) (cCons (cOp dIx (cVar 0) (cP (.int 1))) cNil)) (cP (.int 2147483587))) (cOp dMul (cOp dMul (cP (.int 7919)) (cOp dIx (cVar 0) (cP (.int 2)))) (cOp dIx (cVar 0) (cP (.int 2))))) (cP (.int 11)))))
  (sRet (cOp dMod (cApp (on1 dInt) (cCons (cOp dFdiv (cOp dMod (cApp (on1 dInt) (cCons (cOp dPow (cVar 2) (cP (.int 3))) cNil)) (cP (.int 2147483647))) (cP (.int 11))) cNil)) (cVar 1)))))))
theorem draw_ok (a b c n : Int) (hc : 0 ≤ c) (hc2 : c ≤ 100000) (hn : 1 ≤ n) (hn2 : n ≤ 1000000) : ∃ r a' c', drawF [.ref 0, .p (.int n)] [st3 a b c] = .ok (.p (.int r)) [st3 a' b c'] ∧ 0 ≤ r ∧ r < n ∧ c ≤ c' ∧ c' ≤ c + 1 := by
  have hp : ∀ i : Int, cPos i n = true := fun i => pos_ok (by omega)
  by_cases ha : 0 < a
  · refine ⟨a % n, a / n, c, body_rt rfl ?_, Int.emod_nonneg _ (by omega), Int.emod_lt_of_pos _ (by omega), by omega, by omega⟩
    have hd : cDivB a n = true := divB_ok (by omega) (by omega)
    simp [startD, ha, hp, hd]
  · have hcc : (c + 1).natAbs < 2 ^ 17 := by omega
    have m1 : cMulB 104729 (c + 1) = true := mulB_ok 17 17 (by decide) hcc (by decide)
    have m2 : cMulB 7919 (c + 1) = true := mulB_ok 17 17 (by decide) hcc (by decide)
    have b1 : (7919 * (c + 1)).natAbs < 2 ^ 30 := by omega
    have m3 : cMulB (7919 * (c + 1)) (c + 1) = true := mulB_ok 30 17 b1 hcc (by decide)
    have b2 : 0 ≤ 7919 * (c + 1) * (c + 1) ∧ 7919 * (c + 1) * (c + 1) ≤ 7919 * 100001 * 100001 := by
      refine ⟨Int.mul_nonneg (by omega) (by omega), Int.mul_le_mul (by omega) (by omega) (by omega) (by omega)⟩
    have p1 : ∀ i : Int, cPos i 2147483629 = true := fun i => pos_ok (by decide)
    have p2 : ∀ i : Int, cPos i 2147483587 = true := fun i => pos_ok (by decide)
    have p3 : ∀ i : Int, cPos i 2147483647 = true := fun i => pos_ok (by decide)
    have p4 : ∀ i : Int, cDivB i 11 = true := fun i => divB_ok (by decide) (by decide)
    have e1 := Int.emod_nonneg b (by decide : (2147483629 : Int) ≠ 0)
    have e2 := Int.emod_lt_of_pos b (by decide : (0 : Int) < 2147483629)
    have e3 := Int.emod_nonneg b (by decide : (2147483587 : Int) ≠ 0)
    have e4 := Int.emod_lt_of_pos b (by decide : (0 : Int) < 2147483587)
    have u1 : 0 ≤ b % 2147483629 + 104729 * (c + 1) ∧ b % 2147483629 + 104729 * (c + 1) ≤ 2 ^ 40 := by omega
    have u2 : 0 ≤ b % 2147483587 + 7919 * (c + 1) * (c + 1) + 11 ∧ b % 2147483587 + 7919 * (c + 1) * (c + 1) + 11 ≤ 2 ^ 50 := by omega
    have m4 : cMulB (b % 2147483629 + 104729 * (c + 1)) (b % 2147483587 + 7919 * (c + 1) * (c + 1) + 11) = true := mulB_ok 41 51 (by omega) (by omega) (by decide)
    have u3 : 0 ≤ (b % 2147483629 + 104729 * (c + 1)) * (b % 2147483587 + 7919 * (c + 1) * (c + 1) + 11) ∧ (b % 2147483629 + 104729 * (c + 1)) * (b % 2147483587 + 7919 * (c + 1) * (c + 1) + 11) ≤ 2 ^ 40 * 2 ^ 50 :=
      ⟨Int.mul_nonneg u1.1 u2.1, Int.mul_le_mul u1.2 u2.2 u2.1 (by decide)⟩
    have m5 : cPowB ((b % 2147483629 + 104729 * (c + 1)) * (b % 2147483587 + 7919 * (c + 1) * (c + 1) + 11)) 3 = true := powB_ok 91 (by omega) (by decide) (by decide)
    refine ⟨((b % 2147483629 + 104729 * (c + 1)) * (b % 2147483587 + 7919 * (c + 1) * (c + 1) + 11)) ^ 3 % 2147483647 / 11 % n, a, c + 1, body_rt rfl ?_, ?_, ?_, by omega, by omega⟩
    · simp [startD, ha, hp, p1, p2, p3, p4, m1, m2, m3, m4, m5]
    · exact Int.emod_nonneg _ (by omega)
    · exact Int.emod_lt_of_pos _ (by omega)
/-! ### calls -/
theorem allP_p : ∀ xs : List P, allP (xs.map D.p) = some xs
  | [] => rfl
  | x :: xs => by simp [allP, allP_p xs]
theorem pure_ok {F : FD} {ds : List D} {x : P} (xs : List P) (e : ds = xs.map D.p) {S' : Sto} (h : F ds [] = .ok (.p x) S') : pureF F ds S = .ok (.p x) S := by
  unfold pureF
  subst e
  rw [allP_p, h]; rfl
theorem pure_exc {F : FD} {ds : List D} (xs : List P) (e : ds = xs.map D.p) {S' : Sto} {c ns vs} (h : F ds [] = .exc c ns vs S') : pureF F ds S = .exc c ns vs S := by
  unfold pureF
  subst e
  rw [allP_p, h]; rfl
theorem fresh_ok {F : FD} {ds : List D} {so : SO} (xs : List P) (e : ds = xs.map D.p) {S' : Sto} {i : Nat} (h : F ds [] = .ok (.ref i) S') (hs : S'[i]? = some so) (l : so.live = true) : freshF F ds S = .ok (.ref S.length) (S ++ [so]) := by
  unfold freshF
  subst e
  rw [allP_p, h]
  simp only [hs, l, if_true]
theorem borrow_ok {F : FD} {ds : List D} {x : P} {i : Nat} {so so' : SO} {S' : Sto} (xs : List P) (e : ds = .ref i :: xs.map D.p) (hs : S[i]? = some so) (l : so.live = true) (h : F (.ref 0 :: xs.map D.p) [so] = .ok (.p x) S') (h2 : S'[0]? = some so') (l2 : so'.live = true) :
    borrowF F ds S = .ok (.p x) (S.set i so') := by
  unfold borrowF
  subst e
  simp only [allP_p, hs, l, if_true, h, pureD, h2, l2]
/-! ### lists -/
@[simp] theorem m_len_lst (xs : List P) : dLen S (.p (.lst xs)) = some (.p (.int xs.length)) := (rfl)
@[simp] theorem m_len_tup (xs : List P) : dLen S (.p (.tup xs)) = some (.p (.int xs.length)) := (rfl)
@[simp] theorem m_ix_lst (xs : List P) (i : Int) : dIx S (.p (.lst xs)) (.p (.int i)) = (atI xs i).map D.p := (rfl)
@[simp] theorem m_ix_tup (xs : List P) (i : Int) : dIx S (.p (.tup xs)) (.p (.int i)) = (atI xs i).map D.p := (rfl)
theorem atI_pos {α : Type} {xs : List α} {i : Int} (h0 : 0 ≤ i) (h : i < xs.length) : atI xs i = xs[i.toNat]? := by
  unfold atI ixN
  rw [if_pos h0, if_pos h]; rfl
def pickF : FD := cBody 2 2 (sRet (cOp dIx (cVar 1) (cCall (borrowF drawF) [] (cCons (cVar 0) (cCons (cApp (on1 dLen) (cCons (cVar 1) cNil)) cNil)))))
theorem pick_ok (a b c : Int) (items : List P) (hc : 0 ≤ c) (hc2 : c ≤ 100000) (hn : 0 < items.length) (hn2 : items.length ≤ 1000) :
    ∃ x a' c', pickF [.ref 0, .p (.lst items)] [st3 a b c] = .ok (.p x) [st3 a' b c'] ∧ x ∈ items ∧ c ≤ c' ∧ c' ≤ c + 1 := by
  obtain ⟨r, a', c', e, h0, h1, h2, h3⟩ := draw_ok a b c items.length hc hc2 (by omega) (by omega)
  have e2 : borrowF drawF [.ref 0, .p (.int items.length)] [st3 a b c] = .ok (.p (.int r)) [st3 a' b c'] := borrow_ok [.int items.length] rfl rfl rfl e rfl rfl
  have hr : r.toNat < items.length := by omega
  refine ⟨items[r.toNat], a', c', body_rt rfl ?_, List.getElem_mem _, h2, h3⟩
  have e3 : atI items r = some items[r.toNat] := by rw [atI_pos h0 h1, List.getElem?_eq_getElem hr]
  simp [startD, e2, e3]
theorem bpick_ok (a b c : Int) (items : List P) (rest : Sto) (hc : 0 ≤ c) (hc2 : c ≤ 100000) (hn : 0 < items.length) (hn2 : items.length ≤ 1000) :
    ∃ x a' c', borrowF pickF [.ref 0, .p (.lst items)] (st3 a b c :: rest) = .ok (.p x) (st3 a' b c' :: rest) ∧ x ∈ items ∧ c ≤ c' ∧ c' ≤ c + 1 := by
  obtain ⟨x, a', c', e, h1, h2, h3⟩ := pick_ok a b c items hc hc2 hn hn2
  exact ⟨x, a', c', borrow_ok (S := st3 a b c :: rest) [.lst items] rfl rfl rfl e rfl rfl, h1, h2, h3⟩
theorem bdraw_ok (a b c n : Int) (rest : Sto) (hc : 0 ≤ c) (hc2 : c ≤ 100000) (hn : 1 ≤ n) (hn2 : n ≤ 1000000) :
    ∃ r a' c', borrowF drawF [.ref 0, .p (.int n)] (st3 a b c :: rest) = .ok (.p (.int r)) (st3 a' b c' :: rest) ∧ 0 ≤ r ∧ r < n ∧ c ≤ c' ∧ c' ≤ c + 1 := by
  obtain ⟨x, a', c', e, h1, h2, h3, h4⟩ := draw_ok a b c n hc hc2 hn hn2
  exact ⟨x, a', c', borrow_ok (S := st3 a b c :: rest) [.int n] rfl rfl rfl e rfl rfl, h1, h2, h3, h4⟩
@[simp] theorem m_eq_int (i j : Int) : dEq S (.p (.int i)) (.p (.int j)) = some (.p (.bl (i == j))) := (rfl)
@[simp] theorem m_yes : cYes env S = .ok true S := (rfl)
@[simp] theorem m_lc (f g t fe vs) : cLc f g t fe vs env S = (f env S).bind fun q S1 => if q.2 S1 = true then lcL q.2 g t fe (wipeD env vs) q.1 [] S1 else .bad := (rfl)
@[simp] theorem m_range1 (f) : iRange1 f env S = (f env S).bind fun ds S1 => R.ofO S1 ((asI1 ds).map fun j => (rngP 0 j.toNat, ckT)) := (rfl)
@[simp] theorem m_asI1 (i : Int) (h : -(2 ^ 62) ≤ i ∧ i < 2 ^ 62) : asI1 [.p (.int i)] = some i := by show (if -(2 ^ 62) ≤ i ∧ i < 2 ^ 62 then some i else none) = some i; rw [if_pos h]
@[simp] theorem m_ckT : ckT S = true := (rfl)
@[simp] theorem m_tuple (xs : List P) : dTuple S (.p (.lst xs)) = some (.p (.tup xs)) := (rfl)
theorem rngP_len (lo : Int) (n : Nat) : (rngP lo n).length = n := by simp [rngP]
@[simp] theorem m_lcL_nil (chk g t fe acc) : lcL chk g t fe env [] acc S = .ok (.p (.lst acc)) S := (rfl)
theorem lcL_cons {g : CG} {t : CT} {fe : CE'} {d : P} {ds acc : List P} {env1 : DEnv} {S2 S3 : Sto} {x : P} (hg : g (.p d) env S = some (env1, S1)) (ht : t env1 S1 = .ok true S2) (he : fe env1 S2 = .ok (.p x) S3) (hl : acc.length < sizeLine) :
    lcL ckT g t fe env (d :: ds) acc S = lcL ckT g t fe env ds (acc ++ [x]) S3 := by
  simp only [lcL, hg, ht, he, pureD, hl, m_ckT, and_self, if_true]
theorem lcL_skip {g : CG} {t : CT} {fe : CE'} {d : P} {ds acc : List P} {env1 : DEnv} {S2 : Sto} (hg : g (.p d) env S = some (env1, S1)) (ht : t env1 S1 = .ok false S2) :
    lcL ckT g t fe env (d :: ds) acc S = lcL ckT g t fe env ds acc S2 := by
  simp only [lcL, hg, ht, m_ckT, if_true]
theorem forL_nil {chk g b} : forL chk g b [] env S = .nx env S := (rfl)
theorem forL_nx {g : CG} {b : CS} {d : P} {ds : List P} {env1 e : DEnv} {S2 : Sto} (hg : g (.p d) env S = some (env1, S1)) (hb : b env1 S1 = .nx e S2) : forL ckT g b (d :: ds) env S = forL ckT g b ds e S2 := by
  simp only [forL, hg, hb, m_ckT, if_true]
/-! ### pure comprehensions -/
theorem lc_pure {i : Nat} {fe : CE'} {f : P → P} : ∀ (ds acc : List P), acc.length + ds.length ≤ 60000 → (∀ x ∈ ds, fe (env.set i (some (.p x))) S = .ok (.p (f x)) S) → lcL ckT (gN i) cYes fe env ds acc S = .ok (.p (.lst (acc ++ ds.map f))) S
  | [], acc, _, _ => by simp
  | d :: ds, acc, h, hf => by
    simp only [List.length_cons] at h
    rw [lcL_cons (S3 := S) (x := f d) (env1 := env.set i (some (.p d))) rfl rfl (hf d List.mem_cons_self) (Nat.lt_of_lt_of_le (by omega : acc.length < 60001) (small_sz 60001 (by decide)))]
    rw [lc_pure ds (acc ++ [f d]) (by simp; omega) fun x hx => hf x (List.mem_cons_of_mem _ hx)]
    simp
theorem lc_filter {i : Nat} {t : CT} {c : P → Bool} (hi : i < env.length) : ∀ (ds acc : List P), acc.length + ds.length ≤ 60000 → (∀ x ∈ ds, t (env.set i (some (.p x))) S = .ok (c x) S) → lcL ckT (gN i) t (cVar i) env ds acc S = .ok (.p (.lst (acc ++ ds.filter c))) S
  | [], acc, _, _ => by simp
  | d :: ds, acc, h, hf => by
    simp only [List.length_cons] at h
    have h1 := hf d List.mem_cons_self
    cases hc : c d with
    | true =>
      rw [hc] at h1
      rw [lcL_cons (S3 := S) (x := d) (env1 := env.set i (some (.p d))) rfl h1 (by rw [m_var i (.p d)]; rw [List.getElem?_set_self hi]) (Nat.lt_of_lt_of_le (by omega : acc.length < 60001) (small_sz 60001 (by decide)))]
      rw [lc_filter hi ds (acc ++ [d]) (by simp; omega) fun x hx => hf x (List.mem_cons_of_mem _ hx)]
      simp [hc]
    | false =>
      rw [hc] at h1
      rw [lcL_skip (env1 := env.set i (some (.p d))) rfl h1]
      rw [lc_filter hi ds acc (by omega) fun x hx => hf x (List.mem_cons_of_mem _ hx)]
      simp [hc]
@[simp] theorem m_isi (tab f) : cIsi tab f env S = (f env S).bind fun d S1 => R.ofO S1 (((tgD S1 d).bind tab).map fun b => .p (.bl b)) := (rfl)
@[simp] theorem m_tg (x : P) : tgD S (.p x) = some (tgP x) := (rfl)
@[simp] theorem m_tr_bl (b : Bool) : truth S (.p (.bl b)) = some b := (rfl)
@[simp] theorem m_chain (g g' fa fb fc) : cChain g g' fa fb fc env S = (fa env S).bind fun x S1 => (fb env S1).bind fun y S2 => (R.ofO S2 ((g S2 x y).bind asB)).bind fun c S3 => if c = true then (fc env S3).bind fun z S4 => R.ofO S4 (g' S4 y z) else .ok (.p (.bl false)) S3 := (rfl)
@[simp] theorem m_iseq (f) : iSeq f env S = (f env S).bind fun d S1 => R.ofO S1 (srcG S1 d) := (rfl)
@[simp] theorem m_src_tup (xs : List P) : srcG S (.p (.tup xs)) = some (xs, ckT) := (rfl)
@[simp] theorem m_src_lst (xs : List P) : srcG S (.p (.lst xs)) = some (xs, ckT) := (rfl)
theorem asBools_map {f : P → Bool} : ∀ xs : List P, asBools (xs.map fun x => .bl (f x)) = some (xs.map f)
  | [] => rfl
  | x :: xs => by simp [asBools, asBools_map xs]
theorem m_all (f : P → Bool) (xs : List P) : dAll S (.p (.lst (xs.map fun x => .bl (f x)))) = some (.p (.bl (xs.all f))) := by
  simp [dAll, asL, asBools_map, List.all_map]
/-- ints as values -/
theorem toPys_ints : ∀ js : List Int, toPys (js.map P.int) = some (js.map PyData.int)
  | [] => rfl
  | j :: js => by simp [toPys, toPy, toPys_ints js]
theorem canLay_ints : ∀ js : List Int, PyData.canLayAll0 (js.map PyData.int) = true
  | [] => rfl
  | j :: js => by simp [PyData.canLayAll0, PyData.canLay0, canLay_ints js]
theorem shaped_int (i : Int) : SeqAt.shaped (.int i) = true := rfl
theorem m_in_ints (i : Int) (js : List Int) : dIn S (.p (.int i)) (.p (.tup (js.map P.int))) = some (.p (.bl (js.any fun j => j == i))) := by
  simp [dIn, dInAny, dInS, dInB, toPyD, toPy, seqPy, toPys_ints, canLay_ints, shaped_int, PyData.eqv, List.any_map]
  rfl
theorem m_notIn_ints (i : Int) (js : List Int) : dNotIn S (.p (.int i)) (.p (.tup (js.map P.int))) = some (.p (.bl (!js.any fun j => j == i))) := by
  simp [dNotIn, dInAny, dInS, dInB, toPyD, toPy, seqPy, toPys_ints, canLay_ints, shaped_int, PyData.eqv, List.any_map]
  rfl
/-- numbers or None -/
def optP : Option Nat → P
  | some n => .int n
  | none => .non
@[simp] theorem optP_none : optP none = .non := (rfl)
@[simp] theorem optP_some (n : Nat) : optP (some n) = .int n := (rfl)
def optY : Option Nat → PyData
  | some n => .int n
  | none => .none
theorem toPys_opts : ∀ js : List (Option Nat), toPys (js.map optP) = some (js.map optY)
  | [] => rfl
  | none :: js => by simp [toPys, toPy, optP, optY, toPys_opts js]
  | some j :: js => by simp [toPys, toPy, optP, optY, toPys_opts js]
theorem canLay_opts : ∀ js : List (Option Nat), PyData.canLayAll0 (js.map optY) = true
  | [] => rfl
  | none :: js => by simp [PyData.canLayAll0, PyData.canLay0, optY, canLay_opts js]
  | some j :: js => by simp [PyData.canLayAll0, PyData.canLay0, optY, canLay_opts js]
theorem any_none : ∀ js : List (Option Nat), (js.map optY).any (fun z => PyData.eqv z .none) = js.any (·.isNone)
  | [] => rfl
  | none :: js => by simp [optY, PyData.eqv]
  | some j :: js => by
    have := any_none js
    simp only [List.map_cons, List.any_cons, this]
    simp [optY, PyData.eqv]
theorem m_none_in (js : List (Option Nat)) : dIn S (.p .non) (.p (.lst (js.map optP))) = some (.p (.bl (js.any (·.isNone)))) := by
  have h : SeqAt.shaped .none = true := rfl
  have e : dInAny S (.p .non) (.p (.lst (js.map optP))) = some ((js.map optY).any fun z => PyData.eqv z .none) := by
    simp only [dInAny, dInS, dInB, toPyD, toPy, seqPy, toPys_opts, Option.map_some, h, canLay_opts, and_self, if_true]
  rw [dIn, e, any_none]; rfl
def sums : List (Option Nat) → Option Nat
  | [] => some 0
  | some a :: r => (sums r).map (a + ·)
  | none :: _ => none
theorem sums_none : ∀ js : List (Option Nat), (sums js).isSome = !js.any (·.isNone)
  | [] => rfl
  | none :: js => by simp [sums]
  | some j :: js => by simp [sums, sums_none js]
theorem asInts_opts : ∀ (js : List (Option Nat)) (n : Nat), sums js = some n → ∃ is, asInts (js.map optP) = some is ∧ is.sum = n
  | [], n, h => by simp [sums] at h; subst h; exact ⟨[], rfl, rfl⟩
  | none :: js, n, h => by simp [sums] at h
  | some j :: js, n, h => by
    simp only [sums, Option.map_eq_some_iff] at h
    obtain ⟨m, h, rfl⟩ := h
    obtain ⟨is, h1, h2⟩ := asInts_opts js m h
    exact ⟨(j : Int) :: is, by simp [asInts, optP, h1], by simp [h2]⟩
theorem m_sum_opts (js : List (Option Nat)) (n : Nat) (h : sums js = some n) : dSum S (.p (.lst (js.map optP))) = some (.p (.int n)) := by
  obtain ⟨is, h1, h2⟩ := asInts_opts js n h
  simp [dSum, asL, h1, h2]
theorem m_lst_eq (f) : cLst f env S = (f env S).bind mkLst := (rfl)
@[simp] theorem m_tup_eq (f) : cTup f env S = (f env S).bind mkTup := (rfl)
theorem pureDs_p : ∀ xs : List P, pureDs (xs.map D.p) S = some (xs, S)
  | [] => rfl
  | x :: xs => by simp [pureDs, pureD, pureDs_p xs]
theorem m_mkTup (xs : List P) (h : xs.length ≤ sizeLine) : mkTup (xs.map D.p) S = .ok (.p (.tup xs)) S := by
  simp [mkTup, pureDs_p, h]
theorem m_mkLst (xs : List P) (h : xs.length ≤ sizeLine) : mkLst (xs.map D.p) S = .ok (.p (.lst xs)) S := by
  simp [mkLst, pureDs_p, h]
@[simp] theorem m_toSI_ok (ds : List P) (chk : Sto → Bool) (k : List P → (Sto → Bool) → Sto → RS) (h : chk S = true) : (R.ok (ds, chk) S).toSI env k = k ds chk S := by
  show (if chk S = true then k ds chk S else .bad) = _
  rw [if_pos h]
@[simp] theorem m_for (f g b) : sFor f g b env S = (f env S).toSI env fun ds chk S1 => forL chk g b ds env S1 := (rfl)
theorem m_par {i j : Nat} {f : CA} {x y : D} (h : f env S = .ok [x, y] S1) : sPar i j f env S = .nx ((env.set i (some x)).set j (some y)) S1 := by
  unfold sPar; rw [h]
theorem m_add_lst (a b : List P) (h : a.length + b.length ≤ sizeLine) : dAdd S (.p (.lst a)) (.p (.lst b)) = some (.p (.lst (a ++ b))) := by
  show (if a.length + b.length ≤ sizeLine then some (D.p (.lst (a ++ b))) else none) = _
  rw [if_pos h]
@[simp] theorem m_star (fe fr) : cStar fe fr env S = (fe env S).bind fun d S1 => match asSeq S1 d with
  | some xs => (fr env S1).bind fun ds S2 => .ok (xs.map D.p ++ ds) S2
  | none => .bad := (rfl)
@[simp] theorem m_asSeq_lst (xs : List P) : asSeq S (.p (.lst xs)) = some xs := (rfl)
theorem cut_tail (x : P) (xs : List P) : cutP (x :: xs) (some 1) none = xs := by
  unfold cutP
  rw [show HT.sIx (x :: xs).length 0 (some 1) = min 1 (x :: xs).length from HT.sIx_nat (x :: xs).length 0 1, HT.sIx_none]
  rw [show min 1 (x :: xs).length = 1 by rw [List.length_cons]; omega]
  show (List.take ((x :: xs).length - 1) xs) = xs
  rw [List.length_cons, Nat.add_sub_cancel]
  exact List.take_length
@[simp] theorem m_sl (f fl fh) : cSl f fl fh env S = (f env S).bind fun d S1 => (fl env S1).bind fun l S2 => (fh env S2).bind fun h S3 => R.ofO S3 (dSl S3 d l h) := (rfl)
@[simp] theorem m_oNone : oNone env S = .ok none S := (rfl)
@[simp] theorem m_oSome (f : CE') (i : Int) (h : f env S = .ok (.p (.int i)) S1) : oSome f env S = .ok (some i) S1 := by unfold oSome; rw [h]; rfl
@[simp] theorem m_oSome_P (i : Int) : oSome (cP (.int i)) env S = .ok (some i) S := (rfl)
@[simp] theorem m_dSl_lst (xs : List P) (l h) : dSl S (.p (.lst xs)) l h = some (.p (.lst (cutP xs l h))) := (rfl)
theorem lc_pureG {g : CG} {fe : CE'} {f : P → P} : ∀ (ds acc : List P), acc.length + ds.length ≤ 60000 → (∀ x ∈ ds, ∃ env1, g (.p x) env S = some (env1, S) ∧ fe env1 S = .ok (.p (f x)) S) → lcL ckT g cYes fe env ds acc S = .ok (.p (.lst (acc ++ ds.map f))) S
  | [], acc, _, _ => by simp
  | d :: ds, acc, h, hf => by
    simp only [List.length_cons] at h
    obtain ⟨env1, h1, h2⟩ := hf d List.mem_cons_self
    rw [lcL_cons (S3 := S) (x := f d) (env1 := env1) h1 rfl h2 (Nat.lt_of_lt_of_le (by omega : acc.length < 60001) (small_sz 60001 (by decide)))]
    rw [lc_pureG ds (acc ++ [f d]) (by simp; omega) fun x hx => hf x (List.mem_cons_of_mem _ hx)]
    simp
def tri (q : Int × Int × Int) : P := .tup [.int q.1, .int q.2.1, .int q.2.2]
@[simp] theorem m_gT3 (q : Int × Int × Int) (i j k : Nat) : gT 3 (gCons' (gN i) (gCons' (gN j) (gCons' (gN k) gNil'))) (.p (tri q)) env S = some (((env.set i (some (.p (.int q.1)))).set j (some (.p (.int q.2.1)))).set k (some (.p (.int q.2.2))), S) := (rfl)
@[simp] theorem m_isNot_non (x : D) : dIsNot S x (.p .non) = some (.p (.bl (!isNon x))) := (rfl)
@[simp] theorem m_is_non (x : D) : dIs S x (.p .non) = some (.p (.bl (isNon x))) := (rfl)
theorem m_eq_nil (ys : List P) (pds : List PyData) (h : toPys ys = some pds) (hs : SeqAt.shaped (.list pds) = true) : dEq S (.p (.lst ys)) (.p (.lst [])) = some (.p (.bl ys.isEmpty)) := by
  have h2 : SeqAt.shaped (.list []) = true := rfl
  have e : dEqB S (.p (.lst ys)) (.p (.lst [])) = some (PyData.eqv (.list pds) (.list [])) := by
    simp only [dEqB, toPyD, toPy, h, toPys, Option.map_some, hs, h2, and_self, if_true]
  rw [dEq, show strPair (.p (.lst ys)) (.p (.lst [])) = none from rfl, e]
  cases ys with
  | nil => simp only [toPys, Option.some.injEq] at h; subst h; rfl
  | cons y ys =>
    simp only [toPys] at h
    split at h
    · cases h; rfl
    · cases h
theorem m_ix_head (x : P) (xs : List P) : dIx S (.p (.lst (x :: xs))) (.p (.int 0)) = some (.p x) := by
  rw [m_ix_lst, atI_pos (by decide) (by rw [List.length_cons]; omega)]
  rfl
/-! ### instances, raising -/
@[simp] theorem m_raise (c : Nat) : sRaise c env S = .exc c [] [] env S := (rfl)
@[simp] theorem m_fldP (c : Nat) (f : Str) (fo fe) : sFldP c f fo fe env S = (fe env S).toS env fun d S1 => (fo env S1).toS env fun o S2 => match fldS c f S2 o d with
  | some S3 => .nx env S3
  | none => .bad := (rfl)
@[simp] theorem m_fld (c : Nat) (f : Str) (fo) : cFld c f fo env S = (fo env S).bind fun d S1 => if clsOf S1 d = some c then R.ofO S1 (dFld f S1 d) else .bad := (rfl)
@[simp] theorem m_mulRc (fa fb) : cMulR fa fb env S = (fa env S).bind fun x S1 => (fb env S1).bind fun y S2 => match mulR S2 x y with
  | some xs => .ok (.ref S2.length) (S2 ++ [.lst xs])
  | none => .bad := (rfl)
theorem mk_ok {c : Nat} {Fi : FD} {ds : List D} {ns : List Str} {vs : List P} {S' : Sto} (xs : List P) (e : ds = xs.map D.p) (h : Fi (.ref 0 :: ds) [.ins c [] []] = .ok (.p .non) S') (h2 : S'[0]? = some (.ins c ns vs)) : mkF c Fi ds S = .ok (.p (.obj c ns vs)) S := by
  unfold mkF
  subst e
  rw [allP_p, h]
  simp only [h2, if_true]
theorem mk_exc {c : Nat} {Fi : FD} {ds : List D} {k ns vs} {S' : Sto} (xs : List P) (e : ds = xs.map D.p) (h : Fi (.ref 0 :: ds) [.ins c [] []] = .exc k ns vs S') : mkF c Fi ds S = .exc k ns vs S := by
  unfold mkF
  subst e
  rw [allP_p, h]
theorem try_nx {tab i fb fs} {e : DEnv} (h : fb env S = .nx e S1) : sTry tab i fb fs env S = .nx e S1 := by
  unfold sTry; rw [h]
theorem try_exc {tab : Nat → Bool} {i : Nat} {fb fs} {c ns vs e} (h : fb env S = .exc c ns vs e S1) (ht : tab c = true) : sTry tab i fb fs env S = (fs (e.set i (some (.p (.exc c ns vs)))) S1).clr i := by
  unfold sTry; rw [h]; simp only [ht, if_true]
@[simp] theorem m_clr_nx (i : Nat) : (RS.nx env S).clr i = .nx (env.set i none) S := (rfl)
theorem repP_int (n : Nat) (i : Int) : repP n [.int i] = (List.replicate n i).map P.int := by
  unfold repP
  induction n with
  | zero => rfl
  | succ n ih => rw [List.replicate_succ, List.flatten_cons, ih, List.replicate_succ]; rfl
theorem mulR_ok (xs : List P) (j : Int) (h : -(2 ^ 63) ≤ j ∧ j < 2 ^ 63 ∧ xs.length * j.toNat ≤ sizeLine) : mulR S (.p (.lst xs)) (.p (.int j)) = some (repP j.toNat xs) := by
  unfold mulR
  simp only [h, and_self, if_true]
/-! ### texts -/
@[simp] theorem m_ne_str (a b : Str) : dNe S (.p (.str a)) (.p (.str b)) = some (.p (.bl (!decide (a = b)))) := (rfl)
@[simp] theorem m_eq_str (a b : Str) : dEq S (.p (.str a)) (.p (.str b)) = some (.p (.bl (decide (a = b)))) := (rfl)
theorem repr_any {x : P} {pd : PyData} (h : toPy x = some pd) (h1 : pd.showable = true) (h2 : pd.hasDict = false) (h3 : pd.depth < 100) (h4 : pd.shown.length ≤ sizeLine) : ∃ z : Str, ∀ S, dRepr S (.p x) = some (.p (.str z)) := by
  have e : ∀ S, toPyD S (.p x) = some pd := fun S => h
  cases pd with
  | none => exact ⟨"None", fun S => by simp [dRepr, e]⟩
  | bool b => exact ⟨if b then "True" else "False", fun S => by simp [dRepr, e]⟩
  | int i =>
    have hi : i.natAbs.log2 < 1920 := by simpa [PyData.showable] using h1
    exact ⟨(toString i : String), fun S => by simp [dRepr, e, hi]⟩
  | str z =>
    have hz : (reprText z).length ≤ sizeLine := h4
    exact ⟨reprText z, fun S => by simp [dRepr, e, hz]⟩
  | list xs => exact ⟨PyData.shown (.list xs), fun S => by simp [dRepr, e, h1, h2, h3, h4]⟩
  | tuple xs => exact ⟨PyData.shown (.tuple xs), fun S => by simp [dRepr, e, h1, h2, h3, h4]⟩
  | dict xs => exact ⟨PyData.shown (.dict xs), fun S => by simp [dRepr, e, h1, h2, h3, h4]⟩
theorem repr_bl (b : Bool) : ∃ z : Str, ∀ S, dRepr S (.p (.bl b)) = some (.p (.str z)) := ⟨_, fun _ => rfl⟩
theorem repr_bls (a b : Bool) : ∃ z : Str, ∀ S, dRepr S (.p (.lst [.bl a, .bl b])) = some (.p (.str z)) := by
  refine repr_any (pd := .list [.bool a, .bool b]) rfl rfl rfl (by show 1 < 100; decide) ?_
  cases a <;> cases b <;> exact Nat.le_trans (by decide +kernel : _ ≤ 100) (small_sz 100 (by decide))
/-- the texts of what a tuple holds -/
def shownLen : List PyData → Nat
  | [] => 0
  | x :: xs => (x.shown.length + 2) + shownLen xs
theorem piled_shown : ∀ xs : List PyData, piled (PyData.shownAll xs) = shownLen xs
  | [] => by simp [PyData.shownAll, piled, shownLen]
  | x :: xs => by
    have := piled_shown xs
    simp only [PyData.shownAll, shownLen]
    simp [piled] at this ⊢
    omega
theorem tuple_len (xs : List PyData) (hne : xs ≠ []) : (PyData.shown (.tuple xs)).length ≤ shownLen xs + 3 := by
  have h1 := join_length_add (PyData.shownAll xs) (by cases xs with | nil => exact absurd rfl hne | cons x xs => simp [PyData.shownAll])
  rw [piled_shown] at h1
  show (tupleText (PyData.shownAll xs)).length ≤ _
  unfold tupleText
  rw [strLen_append, strLen_append]
  have h2 : ((if (PyData.shownAll xs).length == 1 then ",)" else ")" : String) : Str).length ≤ 2 := by split <;> decide
  have h3 : (("(" : Str)).length = 1 := rfl
  omega
end
end Fe

set_option Elab.async false
set_option linter.all false
set_option maxRecDepth 100000
set_option maxHeartbeats 1000000
namespace Fe
open PySem PySem.Spec PyProof.Rows L2
/-! ### more readings -/
variable {S S1 : Sto} {env : DEnv}
theorem same_eq {x y : D} {pd : PyData} (hx : toPyD S x = some pd) (hy : toPyD S y = some pd) (hs : SeqAt.shaped pd = true) (hn : strPair x y = none) : dEq S x y = some (.p (.bl true)) ∧ dNe S x y = some (.p (.bl false)) := by
  have hc : pd.canLay0 = true := by
    unfold SeqAt.shaped at hs
    simp only [Bool.and_eq_true] at hs
    exact hs.1
  have e : dEqB S x y = some true := by
    simp only [dEqB, hx, hy, hs, and_self, if_true, SeqAt.eqv_refl pd hc]
  exact ⟨by rw [dEq, hn, e]; rfl, by rw [dNe, hn, e]; rfl⟩
theorem eq_by {x y : D} {p1 p2 : PyData} (hx : toPyD S x = some p1) (hy : toPyD S y = some p2) (h1 : SeqAt.shaped p1 = true) (h2 : SeqAt.shaped p2 = true) (hn : strPair x y = none) : dEq S x y = some (.p (.bl (PyData.eqv p1 p2))) ∧ dNe S x y = some (.p (.bl (!PyData.eqv p1 p2))) := by
  have e : dEqB S x y = some (PyData.eqv p1 p2) := by
    simp only [dEqB, hx, hy, h1, h2, and_self, if_true]
  exact ⟨by rw [dEq, hn, e]; rfl, by rw [dNe, hn, e]; rfl⟩
@[simp] theorem m_ne_int (i j : Int) : dNe S (.p (.int i)) (.p (.int j)) = some (.p (.bl (!(i == j)))) := (rfl)
def triY (q : Int × Int × Int) : PyData := .tuple [.int q.1, .int q.2.1, .int q.2.2]
theorem tris_py : ∀ L : List (Int × Int × Int), toPys (L.map tri) = some (L.map triY) ∧ PyData.canLayAll0 (L.map triY) = true ∧ PyData.depthAll (L.map triY) ≤ 1
  | [] => ⟨rfl, rfl, Nat.zero_le _⟩
  | q :: L => by
    obtain ⟨h1, h2, h3⟩ := tris_py L
    refine ⟨?_, ?_, ?_⟩
    · have : toPy (tri q) = some (triY q) := rfl
      simp [toPys, this, h1]
    · have : (triY q).canLay0 = true := rfl
      simp [PyData.canLayAll0, this, h2]
    · have : (triY q).depth ≤ 1 := by simp [triY, PyData.depth, PyData.depthAll]
      simp only [List.map_cons, PyData.depthAll]
      exact Nat.max_le.mpr ⟨this, h3⟩
theorem ints_py (L : List Int) : toPys (L.map P.int) = some (L.map PyData.int) ∧ PyData.canLayAll0 (L.map PyData.int) = true ∧ PyData.depthAll (L.map PyData.int) = 0 := by
  refine ⟨toPys_ints L, canLay_ints L, ?_⟩
  induction L with
  | nil => rfl
  | cons x L ih => simp only [List.map_cons, PyData.depthAll, ih]; rfl
theorem shaped_lst {pds : List PyData} (h : PyData.canLayAll0 pds = true) (d : PyData.depthAll pds ≤ 5) : SeqAt.shaped (.list pds) = true ∧ SeqAt.shaped (.tuple pds) = true := by
  constructor
  · unfold SeqAt.shaped; simp [PyData.canLay0, h, PyData.depth]; omega
  · unfold SeqAt.shaped; simp [PyData.canLay0, h, PyData.depth]; omega
@[simp] theorem m_cMeth (c m F dD fo fa) : cMeth c m F dD fo fa env S = (fo env S).bind fun o S1 => if clsOf S1 o = some c ∧ noFld m S1 o = true then (fa env S1).bind fun ds S2 => F (o :: (ds ++ dD)) S2 else .bad := (rfl)
@[simp] theorem m_cMethK (c m n F dD fo fk) : cMethK c m n F dD fo fk env S = (fo env S).bind fun o S1 => if clsOf S1 o = some c ∧ noFld m S1 o = true then (fk env S1).bind fun es S2 => if es.length = n then F (o :: (es ++ dD)) S2 else .bad else .bad := (rfl)
@[simp] theorem m_cListR (fa) : cListR fa env S = (fa env S).bind fun ds S1 => match ds with
  | [d] => match asSeq S1 d with
    | some xs => .ok (.ref S1.length) (S1 ++ [.lst xs])
    | none => .bad
  | _ => .bad := (rfl)
end Fe

set_option Elab.async false
set_option linter.all false
set_option maxRecDepth 100000
set_option maxHeartbeats 1000000
namespace Fe
open PySem PySem.Spec PyProof.Rows L2

/-! ### a lambda handed to a def -/
/-- the maker's slots, as the function keeps them -/
def capE : D → DEnv
  | .fn _ _ _ es _ => es.map uncap
  | _ => []
open Classical in
/-- x(), x the name of the slot i, in which the function φ stands -/
noncomputable def cAct (i : Nat) (φ : D) (fb : CE') : CE' := fun env S => if env[i]? = some (some φ) then fb (capE φ) S else .bad
/-- the def that gets the function φ runs: n names, g its body -/
noncomputable def lamRun (n : Nat) (g : CE' → CS) (fb : CE') (φ : D) : Sto → R D := fun S => endB (g (cAct 0 φ fb) (startD n [φ]) S)
open Classical in
/-- f(lambda: e), whatever the addresses are -/
noncomputable def cLam (n : Nat) (g : CE' → CS) (fb : CE') : CE' := fun env S =>
  if ∀ a c q σ, lamRun n g fb (.fn a c q (env.map cap) σ) S = lamRun n g fb (.fn 0 0 "" (env.map cap) []) S then lamRun n g fb (.fn 0 0 "" (env.map cap) []) S else .bad
theorem cLam_eq {n : Nat} {g : CE' → CS} {fb : CE'} {env : DEnv} {S : Sto} {r : R D} (h : ∀ a c q σ, lamRun n g fb (.fn a c q (env.map cap) σ) S = r) : cLam n g fb env S = r := by
  unfold cLam
  rw [if_pos (fun a c q σ => (h a c q σ).trans (h 0 0 "" []).symm)]
  exact h 0 0 "" []
/-- a def that gets a function first: its body with any reading of the call -/
structure FnL (Pr : Program) (w : World) (G : Gc) (mg : Str → Option Value) (base : Heap) (k : Nat) (x qual : Str) (st : Stmt) (gad : Addr) (Ng : List Str) (a : Str) (g : CE' → CS) : Prop where
  body : ∀ (cdv : Value) (A : Around) (outer : List Env) (s : Shared) (H : Hp) (E : XK) (act : CE'), CtxG G (bCx Pr w G mg base Ng qual st gad cdv A outer s H E) k →
      PassesOwn (model Pr w) (bCx Pr w G mg base Ng qual st gad cdv A outer s H E).A (bCx Pr w G mg base Ng qual st gad cdv A outer s H E).env (bCx Pr w G mg base Ng qual st gad cdv A outer s H E).xe →
      (∀ (pn : List (Addr × Obj)) (xe : Value → Shared → Prop) (p1 p2 : Pos), PF G ((bCx Pr w G mg base Ng qual st gad cdv A outer s H E).tr pn xe) (.Call (.Name a p1) [] [] p2) act) →
      PFSs G (bCx Pr w G mg base Ng qual st gad cdv A outer s H E) (defBody st) (g act)
section
variable {G : Gc} {Wx : WX} {Z : Addr → Prop} {W : Wd} {σ : L2.St} {X : Cx} {k : Nat}
theorem cap_env {env : DEnv} (er : EnvR G W env σ) : (env.map cap).length = σ.length ∧ ∀ (i : Nat) (d : P ⊕ Nat), (env.map cap)[i]? = some (some d) → ∃ u, σ[i]? = some (some u) ∧ RepC G W d u := by
  refine ⟨by simp [er.1], fun i d h => ?_⟩
  rw [List.getElem?_map, Option.map_eq_some_iff] at h
  obtain ⟨o, h1, h2⟩ := h
  match o, h1, h2 with
  | some (.p x), h1, h2 =>
    cases h2
    obtain ⟨u, a1, a2⟩ := er.2 i _ h1
    exact ⟨u, a1, a2⟩
  | some (.ref j), h1, h2 =>
    cases h2
    obtain ⟨u, a1, a2⟩ := er.2 i _ h1
    exact ⟨u, a1, a2⟩
  | some (.fn _ _ _ _ _), _, h2 => cases h2
  | none, _, h2 => cases h2
theorem env_cap {es : List (Option (P ⊕ Nat))} (hl : es.length = σ.length) (h : ∀ (i : Nat) (d : P ⊕ Nat), es[i]? = some (some d) → ∃ u, σ[i]? = some (some u) ∧ RepC G W d u) : EnvR G W (es.map uncap) σ := by
  refine ⟨by simp [hl], fun i d e => ?_⟩
  rw [List.getElem?_map, Option.map_eq_some_iff] at e
  obtain ⟨o, h1, h2⟩ := e
  match o, h1, h2 with
  | some (.inl x), h1, h2 =>
    cases h2
    obtain ⟨u, a1, a2⟩ := h i _ h1
    exact ⟨u, a1, a2⟩
  | some (.inr j), h1, h2 =>
    cases h2
    obtain ⟨u, a1, a2⟩ := h i _ h1
    exact ⟨u, a1, a2⟩
  | none, _, h2 => cases h2
/-- what a lambda's object is -/
structure LamAt (X : Cx) (s : Shared) (H : Hp) (params : Arguments) (body : Expr) (scope : Scope) (f c' : Addr) : Prop where
  ob : ∃ pm ctv, s.heap.get? f = some (PySem.W.kla_obj "<lambda>" (X.env.qual ++ "<lambda>") params body scope (cloFrom X.env.cells scope.names []) pm c' ctv)
  nH : H f = none
  nS : f ∉ frs X.stack
/-- x() within the def that got the lambda -/
theorem pf_act {pins : List (Addr × Obj)} {H₁ : Hp} {s : Shared} {Ng : List Str} {qg : Str} {stg : Stmt} {gad f c' : Addr} {cdg : Value} {params : Arguments} {body : Expr} {scope : Scope} {i : Nat} {a : Str} {kb : Nat} {fb : CE'} {Eg : XK} {es : List (Option (P ⊕ Nat))}
    (hkk : X.K = G.K) (I : Inv X pins σ H₁ s) (L : LamX.LamS X.env.scope scope) (la : LamAt X s H₁ params body scope f c') (nd : X.N.Nodup)
    (hbind : ∀ (q : Str) (cl : List (Str × Addr)) (pm cv ctv : Value), bindArgs (PySem.W.kla_fn "<lambda>" q params body scope cl pm cv ctv) ⟨[], []⟩ = pure [])
    (hr : Room (kb + 1) (X.A.deeper (envOfC qg (defScope stg) s.heap.objs.size gad cdg))) (hg : X.A.guards = some [])
    (hbody : ∀ (A : Around) (outer : List Env) (s : Shared) (H : Hp) (E : XK), CtxG G (LamX.lamCx X A outer s H E scope f c') kb → PF G (LamX.lamCx X A outer s H E scope f c') body fb)
    (hN : Ng[i]? = some a) (hv : Vis (defScope stg) a) (hd : (a == ("__debug__" : Str)) = false) (hcd : (a == ("__classdict__" : Str)) = false) (pn : List (Addr × Obj)) (xe : Value → Shared → Prop) (p1 p2 : Pos) :
    PF G ((bCx X.prog X.w G X.mg X.base Ng qg stg gad cdg X.A X.stack s H₁ Eg).tr pn xe) (.Call (.Name a p1) [] [] p2) (cAct i (.fn f c' (X.env.qual ++ "<lambda>") es σ) fb) := fun Wx tk => by
  refine ⟨fun pinsZ sZ σZ HZ Q IZ h => ?_⟩
  obtain ⟨Z, S, W, env, rfl, st, er, p⟩ := h
  unfold cAct at p
  split at p
  case isFalse => exact p.elim
  rename_i henv
  obtain ⟨v, hσ, rv⟩ := er.2 i _ henv
  obtain ⟨rfl, ⟨nu, hc⟩, hes, hvs⟩ := rv
  have erM : EnvR G W (es.map uncap) σ := env_cap hes hvs
  refine wpAny_Call_Name_kw (thn ((pe_var (pos := p1) (i := i) hN hv hd hcd).run pinsZ sZ σZ W.H (fun v H1 => v = .ref f ∧ H1 = W.H) IZ ⟨.ref f, hσ, rfl, rfl⟩) fun u sA hA => ?_)
  obtain ⟨v1, HA, IA, rA, eA⟩ := hA
  obtain ⟨ev, eh⟩ := eA
  subst ev
  rw [eh] at IA
  obtain rfl : u = Value.ref f := rA
  obtain ⟨⟨pm, ctv, hob⟩, nH, nS⟩ := la
  have obA := IA.base.keep f _ hob nH nS (fun z => nomatch (show f ∈ ([] : List Addr) from z))
  refine PySem.W.callWith_F0 ⟨_, _, _, _, obA⟩ ?_
  have unA : Un (frs X.stack) [] H₁ W.H s.heap sA.heap := IA.base
  obtain ⟨⟨oc, vs, tt, hoc, hdc, hvc⟩, _, _⟩ := IA.hok c' _ hc
  have rc : codeAny (model X.prog X.w) (X.A.deeper (envOfC qg (defScope stg) s.heap.objs.size gad cdg)) (.call (.ref f) ⟨[], []⟩)
      (CR (CX X.prog X.w) (envOfC qg (defScope stg) s.heap.objs.size gad cdg :: X.stack) X.prog X.w W.H sA Q fun cls d H' => Wx cls d σZ H') sA := by
    refine PySem.W.kla_callFunE hr.depth obA rfl L.co L.gen rfl ⟨c', oc, vs, tt, rfl, hoc, hdc, hvc⟩ ?_
    rw [hbind]
    refine wpAny_pure (wpAny_newFunctionEnv (fun y hy => (L.own y hy).2) (fun y hy => absurd hy (by simp)) (fun hB hns hsb => ⟨IA.nolimit.fresh _ hsb, ?_⟩) L.kind)
    show codeAny _ _ (.expr body (LamX.lamEnv X scope sA.heap.objs.size f c')) _ _
    have kpB : ∀ b o, sA.heap.get? b = some o → hB.get? b = some o := fun b o e => hsb.extBut b o (Nat.ne_of_lt (Heap.lt_size e)) (Heap.get?_push_of_some _ e)
    have J : Inv (LamX.lamCx X (X.A.deeper (envOfC qg (defScope stg) s.heap.objs.size gad cdg)) (envOfC qg (defScope stg) s.heap.objs.size gad cdg :: X.stack) sA W.H (fun cls d H' => Wx cls d σZ H') scope f c') [] σ W.H _ :=
      LamX.lam_start2 (tk := sA.toks + ([] : List (Str × Value)).length) I L (by have z := IA.env0; rw [show (Cx.tr _ pn xe).K = X.K from hkk.symm] at z; exact z) hr.hd unA hns kpB
    have cgL : CtxG G (LamX.lamCx X (X.A.deeper (envOfC qg (defScope stg) s.heap.objs.size gad cdg)) (envOfC qg (defScope stg) s.heap.objs.size gad cdg :: X.stack) sA W.H (fun cls d H' => Wx cls d σZ H') scope f c') kb :=
      ⟨hkk, rfl, hr.deeper _, hg, nd⟩
    have tkL := takes_of (X := LamX.lamCx X (X.A.deeper (envOfC qg (defScope stg) s.heap.objs.size gad cdg)) (envOfC qg (defScope stg) s.heap.objs.size gad cdg :: X.stack) sA W.H (fun cls d H' => Wx cls d σZ H') scope f c') (E := fun cls d H' => Wx cls d σZ H') rfl rfl rfl rfl
    have pB : PostE G (wxE fun cls d H' => Wx cls d σZ H') Z W σ Q (fb (es.map uncap) S) := by
      have p' : PostE G Wx Z W σZ Q (fb (es.map uncap) S) := p
      cases hF : fb (es.map uncap) S with
      | bad => rw [hF] at p'; exact p'
      | ok d S' => rw [hF] at p'; exact p'
      | exc c ns vs S' => rw [hF] at p'; exact p'
    refine PySem.W.kla_codeExpr (wpAny_mono ((hbody _ _ sA W.H _ cgL _ tkL).run [] _ _ W.H Q J ⟨Z, S, W, es.map uncap, rfl, st, erM, pB⟩) (fun v sC hq => ?_) fun e sC hq => hq)
    obtain ⟨wv, HC, JC, rC, qC⟩ := hq
    exact ⟨wv, HC, JC.os, JC.bare, JC.base, JC.hok, rC, qC⟩
  refine wpAny_call (codeAny_mono rc fun r sD hq => ?_)
  cases r with
  | error e => exact tk e sD (XE.of_call IA (fun cls d H' z => z) hq)
  | ok fl =>
    cases fl with
    | ret u => exact IA.after hq
    | next => exact False.elim hq
    | brk => exact False.elim hq
    | cont => exact False.elim hq
/-- the tables grow, all else stays -/
theorem ext_world {H1 : Hp} {S : Sto} (st : StRep G W Z S) (eN : LamX.ExtN W.H H1) (T1 : LamX.Tabs G.T H1) : Go Z W { W with H := H1 } ∧ StRep G { W with H := H1 } Z S := by
  have go : Go Z W { W with H := H1 } := by
    refine ⟨⟨⟨fun b o n e u => ⟨eN b o e n, u⟩⟩, fun _ _ => rfl, Nat.le_refl _⟩, fun b z => ?_⟩
    obtain ⟨o, e, n⟩ := st.ut b (st.zu b z)
    exact (eN b o e n.tb).trans e.symm
  refine ⟨go, ⟨T1, st.len, st.zu, fun b u => ?_, fun i so e l => ?_, st.inj, st.back⟩⟩
  · obtain ⟨o, e, n⟩ := st.ut b u
    exact ⟨o, eN b o e n.tb, n⟩
  · obtain ⟨h1, h2, h3⟩ := st.obj i so e l
    obtain ⟨o, eo, n⟩ := st.ut _ h1
    exact ⟨h1, h2, ObjR.ext go.toExt ((eN _ o eo n.tb).trans eo.symm) h3⟩
/-- f(lambda: e) -/
theorem pf_lam {x a qg : Str} {gad c Pt : Addr} {fdg : FuncData} {stg : Stmt} {Ng : List Str} {g : CE' → CS} {params : Arguments} {body : Expr} {scope : Scope} {fb : CE'} {p lpos pos : Pos} {kb kg : Nat}
    (Fg : Fun G.K x qg stg gad fdg) (Sg : FnScope Ng [a] (defScope stg)) (FL : FnL X.prog X.w G X.mg X.base kg x qg stg gad Ng a g) (cg : CtxG G X k) (hk1 : kg + 1 ≤ k) (hk2 : kb + 1 ≤ kg)
    (hg : Gl X x) (hm : X.mg x = some (.ref gad)) (hkeep : PySem.W.keepIn G.K (.ref gad) = true) (hb : Binds G.K fdg [a] [])
    (TB : LamX.TabB X.base X.mg c Pt) (hcode : X.env.code = .ref c) (hmT : (Pt, X.env.qual ++ "<lambda>") ∈ G.T) (hu : ∀ p ∈ G.T, p.1 = Pt → p.2 = X.env.qual ++ "<lambda>")
    (L : LamX.LamS X.env.scope scope) (hbody : ∀ (A : Around) (outer : List Env) (s : Shared) (H : Hp) (E : XK) (f c' : Addr), CtxG G (LamX.lamCx X A outer s H E scope f c') kb → PF G (LamX.lamCx X A outer s H E scope f c') body fb)
    (hN : Ng[0]? = some a := by rfl) (hv : Vis (defScope stg) a := by first | exact Or.inl rfl | exact Or.inr (Or.inl rfl) | exact Or.inr (Or.inr rfl))
    (hdef : defaultsOf params X.env = ([], []) := by rfl) (hbind : ∀ (q : Str) (cl : List (Str × Addr)) (pm cv ctv : Value), bindArgs (PySem.W.kla_fn "<lambda>" q params body scope cl pm cv ctv) ⟨[], []⟩ = pure [] := by intro _ _ _ _ _; rfl)
    (hdb : (x == ("__debug__" : Str)) = false := by decide) (hd : (a == ("__debug__" : Str)) = false := by decide) (hcd : (a == ("__classdict__" : Str)) = false := by decide) :
    PF G X (.Call (.Name x p) [.Lambda params body scope lpos] [] pos) (cLam Ng.length g fb) := fun Wx tk => by
  refine ⟨fun pins s σ H Q I h => ?_⟩
  obtain ⟨Z, S, W, env, rfl, st, er, pp⟩ := h
  unfold cLam at pp
  split at pp
  case isFalse => exact pp.elim
  rename_i hall
  have hkk := cg.kk
  refine wpAny_Call_Name_kw (ld_glob I hg hm ?_ hdb)
  refine PySem.W.callWith_K I.ok.mod.kin (by rw [hkk]; exact hkeep) ?_ (by rfl) (by rfl)
  show wpAny _ _ (spliced ((false, eval (.Lambda params body scope lpos) X.env) :: backTo pos (starEach [] X.env))) _ _ s
  refine Calls.spliced_cons (LamX.lam_make2 I TB hcode hmT hu st.tab hdef (L.has I.ok) fun f c' pm ctv H1 s1 I1 eN T1 hf hfn hfr hco => ?_)
  refine Calls.spliced_nil ⟨I1.kIn, ?_⟩
  obtain ⟨go1, st1⟩ := ext_world st eN T1
  have er1 := er.ext go1.toExt
  obtain ⟨cl1, cl2⟩ := cap_env er1
  have nu : ¬ W.U c' := fun u => by
    obtain ⟨o, e, n⟩ := st.ut c' u
    have z := eN c' o e n.tb
    rw [hco] at z
    exact n.co c' _ (Option.some.inj z).symm
  have rd : RepDs G { W with H := H1 } [D.fn f c' (X.env.qual ++ "<lambda>") (env.map cap) σ] [V.ref f] := ⟨⟨rfl, ⟨nu, hco⟩, cl1, cl2⟩, True.intro⟩
  rw [← hall f c' (X.env.qual ++ "<lambda>") σ] at pp
  have pp1 := PostE.shift go1 pp
  have p' : PostE G (wxE fun cls d H => Wx cls d σ H) Z { W with H := H1 } [] Q (endB (g (cAct 0 (.fn f c' (X.env.qual ++ "<lambda>") (env.map cap) σ) fb) (startD Ng.length [.fn f c' (X.env.qual ++ "<lambda>") (env.map cap) σ]) S)) := by
    have p2 : PostE G Wx Z { W with H := H1 } σ Q (endB (g (cAct 0 (.fn f c' (X.env.qual ++ "<lambda>") (env.map cap) σ) fb) (startD Ng.length [.fn f c' (X.env.qual ++ "<lambda>") (env.map cap) σ]) S)) := pp1
    cases hF : endB (g (cAct 0 (.fn f c' (X.env.qual ++ "<lambda>") (env.map cap) σ) fb) (startD Ng.length [.fn f c' (X.env.qual ++ "<lambda>") (env.map cap) σ]) S) with
    | bad => rw [hF] at p2; exact p2
    | ok d S' => rw [hF] at p2; exact p2
    | exc c ns vs S' => rw [hF] at p2; exact p2
  have rm : Room (kg + 1) X.A := cg.room.mono hk1
  have kin1 : G.K.In s1.heap := hkk ▸ I1.kIn
  have rc : codeAny (model X.prog X.w) X.A (.call (.ref gad) ⟨[.ref f], []⟩) (CR (CX X.prog X.w) X.stack X.prog X.w H1 s1 Q fun cls d H => Wx cls d σ H) s1 := by
    refine run_okG (W := { W with H := H1 }) (vs := [V.ref f]) (us := [Value.ref f]) Fg Sg rm cg.grd (Env0.cg hkk I1.env0) (hb s1 [.ref f] kin1 rfl) (.cons rfl .nil) st1 rd rfl p' fun cdv hcd2 cgB ownB => ?_
    refine FL.body cdv X.A X.stack s1 H1 _ _ cgB ownB fun pn xe p1 p2 => ?_
    exact pf_act (i := 0) (kb := kb) hkk I1 L ⟨⟨pm, ctv, hf⟩, hfn, hfr⟩ cg.nd hbind (cgB.room.mono hk2) cg.grd (fun A outer s H E cgL => hbody A outer s H E f c' cgL) hN hv hd hcd pn xe p1 p2
  refine wpAny_call (codeAny_mono rc fun r s2 hq => ?_)
  cases r with
  | error e => exact tk e s2 (XE.of_call I1 (fun cls d H' z => z) hq)
  | ok fl =>
    cases fl with
    | ret u => exact I1.after hq
    | next => exact False.elim hq
    | brk => exact False.elim hq
    | cont => exact False.elim hq
end
end Fe

set_option Elab.async false
set_option linter.all false
set_option maxRecDepth 100000
set_option maxHeartbeats 1000000
namespace Fe
open PySem PySem.Spec PyProof.Rows L2

/-! ### the end, with tables of code objects: cs, the code objects, their tables, the lambdas' names -/
abbrev tob : Obj := { cls := .none, data := .fields #[] }
section
variable {P : Program} {w : World} {G : Gc} {mg mb : Str → Option Value} {k : Nat} {fa a : Addr} {fd : FuncData} {x : Str} {s₁ : Shared} {vs : List Value} {ns : List Int} {Fd : FD} {cs : List (Addr × Addr × Str)}
theorem start_T {H : Hp} (KX : G.K.In s₁.heap) (hns : s₁.heap.Ns mainGlobals mg) (hb : s₁.heap.Ns builtinsNs mb) (hbb : ∀ x : Str, x ≠ "__name__" → mb x = bootBuiltins x) (hlim : s₁.heap.NoLimit) (hg : s₁.gens = #[])
    (ht : ∀ p ∈ cs, s₁.heap.get? p.2.1 = some tob) (nt : ∀ p ∈ cs, G.K.lookup p.2.1 = none) (hcd : ∀ p ∈ cs, PySem.W.codeHdIn G.K p.1 p.2.1 = true) (hGT : G.T = cs.map fun p => (p.2.1, p.2.2))
    (hbm : ∃ (bm : Addr) (ob : Obj), mg "__builtins__" = some (.ref bm) ∧ bm ≠ builtinsNs ∧ s₁.heap.get? bm = some ob ∧ ob.cls = .type "module" ∧ ob.dict = some builtinsNs ∧ ob.data = .plain)
    (ha : s₁.heap.get? a = some { cls := .type "list", data := .seq vs.toArray }) (hr : Room k callerA)
    (F : ∀ base : Heap, G.K.In base → base.Ns mainGlobals mg → (∀ p ∈ cs, LamX.TabB base mg p.1 p.2.1) → FnG P w G mg base k fa fd [x] Fd) (hbind : ∀ (s : Shared) (u : Value), BindsTo s fd ⟨[u], []⟩ [(x, u)])
    (hF : SaysTrue (Fd [scriptD ns] [])) (hok : HOk P w H s₁.heap) (hA : ∀ b, H b ≠ none → b = a ∨ ∃ p ∈ cs, p.2.1 = b) (hH : ∀ p ∈ cs, H p.2.1 = some (.tbl #[])) (hfz : ∀ u, H a = some u → ∃ o xs, u = .frz o (.lst xs)) (hK : H a ≠ none → G.K.lookup a = none)
    (rep : RepD G { H := H, U := fun _ => False, ρ := fun _ => 0, n := 0 } (scriptD ns) (.ref a)) :
    codeAny (model P w) callerA (.call (.ref fa) ⟨[.ref a], []⟩) (fun r s' => r = .ok (.ret (.bool true)) ∧ OldK s₁.heap s'.heap ∧ s'.os = s₁.os ∧ AllBare s'.gens) s₁ := by
  have toB : ∀ {b : Addr} {o : Obj}, s₁.heap.get? b = some o → H b = none → (hidT s₁.heap H).get? b = some o := fun e n => hidT_get e n
  -- what is neither a sequence nor a table is not tracked
  have out : ∀ {b : Addr} {o : Obj}, s₁.heap.get? b = some o → o ≠ tob → (∀ us n, o.data ≠ .seq us n) → H b = none := fun {b o} e n1 n2 => by
    cases q : H b with
    | none => rfl
    | some u =>
      rcases hA b (by rw [q]; simp) with rfl | ⟨p, hp, rfl⟩
      · exact absurd rfl (by rw [ha] at e; cases e; exact n2 _ _)
      · rw [ht p hp] at e
        exact absurd (Option.some.inj e).symm n1
  have dictB : ∀ {b : Addr} {m : Str → Option Value}, s₁.heap.Ns b m → (hidT s₁.heap H).Ns b m := fun {b m} ⟨o, es, ep, e, d, r⟩ =>
    ⟨o, es, ep, toB e (out e (fun z => by rw [z] at d; cases d) fun us n z => by rw [z] at d; cases d), d, r⟩
  have kB : G.K.In (hidT s₁.heap H) := fun b o e => toB (KX b o e) (by
    cases q : H b with
    | none => rfl
    | some u =>
      rcases hA b (by rw [q]; simp) with rfl | ⟨p, hp, rfl⟩
      · rw [hK (by rw [q]; simp)] at e; cases e
      · rw [nt p hp] at e; cases e)
  have modB : Mod G.K mg (hidT s₁.heap H) := ⟨kB, dictB hns, ⟨mb, dictB hb, hbb⟩, let ⟨mc, h1, h2⟩ := hlim; ⟨mc, dictB h1, h2⟩⟩
  have tB : ∀ p ∈ cs, LamX.TabB (hidT s₁.heap H) mg p.1 p.2.1 := fun p hp => by
    obtain ⟨go, ges, gep, ge, gd, _⟩ := hns
    have gne : mainGlobals ≠ p.2.1 := fun z => by rw [z, ht p hp] at ge; cases ge; cases gd
    obtain ⟨bm, ob, b1, b2, b3, b4, b5, b6⟩ := hbm
    refine NdefX.tabB_of_K kB (hcd p hp) ⟨bm, ob, b1, b2, fun z => ?_, fun z => ?_, toB b3 (out b3 (fun z => by rw [z] at b6; cases b6) fun us n z => by rw [z] at b6; cases b6), b4, b5, b6⟩ gne
    · rw [z, ge] at b3; cases b3; rw [gd] at b6; cases b6
    · rw [z, ht p hp] at b3; cases b3; cases b6
  have e0 : Env0 P w G.K mg (hidT s₁.heap H) callerA [] s₁ H := ⟨rfl, modB, fun b o e => of_hidT e, Nat.le_of_eq (hidT_size _ _), trivial, fun b hb => absurd (show b ∈ ([] : List Addr) from hb) (by simp), hok, .of_eq hg⟩
  obtain ⟨S', hF⟩ := hF
  let W : Wd := { H := H, U := fun _ => False, ρ := fun _ => 0, n := 0 }
  have tabs : LamX.Tabs G.T W.H := fun q hq => by
    rw [hGT] at hq
    obtain ⟨p, hp, rfl⟩ := List.mem_map.mp hq
    exact LamX.TabS.nil (hH p hp)
  have st : StRep G W (fun _ => False) [] := ⟨tabs, rfl, fun _ z => z, fun _ z => z.elim, fun i so e => by simp at e, fun i j so so' e => by simp at e, fun _ z => z.elim⟩
  have run := (F _ kB (dictB hns) tB).run callerA [] s₁ ⟨[.ref a], []⟩ [.ref a] [.ref a] (fun _ => False) [] W [scriptD ns] (fun v _ => v = .bl true) (fun _ _ _ => False) hr rfl e0 (hbind s₁ (.ref a)) (.cons rfl .nil) st ⟨rep, True.intro⟩ (by
    rw [hF]
    exact fun v W' go st' r => rep_bl r)
  refine codeAny_mono run fun r s' h => ?_
  match r, h with
  | .error e, ⟨_, _, _, _, _, _, _, _, _, _, _, _, z⟩ => exact z.elim
  | .ok .next, h => exact False.elim h
  | .ok .brk, h => exact False.elim h
  | .ok .cont, h => exact False.elim h
  | .ok (.ret u), ⟨v, H', os, bare, un, hok', r', q⟩ =>
    have q' : v = .bl true := q
    subst q'
    obtain rfl : u = Value.bool true := r'
    have stays : ∀ b o, (∀ p ∈ cs, p.2.1 ≠ b) → s₁.heap.get? b = some o → s'.heap.get? b = some o := fun b o nb e => by
      cases q : H b with
      | none => exact un.keep b o e q (by intro z; exact absurd (show b ∈ ([] : List Addr) from z) (by simp)) (by simp)
      | some u =>
        rcases hA b (by rw [q]; simp) with rfl | ⟨p, hp, z⟩
        · obtain ⟨ob, xs, rfl⟩ := hfz u q
          obtain ⟨e1, _⟩ := hok b _ q
          obtain ⟨e2, _⟩ := hok' b _ (un.frzs b ob _ q)
          rw [e] at e1; cases e1
          exact e2
        · exact absurd z (nb p hp)
    have more : ∀ p ∈ cs, ∃ us : Array Value, s'.heap.get? p.2.1 = some { cls := .none, data := .fields us } := fun p hp => by
      obtain ⟨us, z⟩ := un.tbls p.2.1 #[] (hH p hp)
      exact ⟨_, hok' p.2.1 _ z⟩
    have code : ∀ p ∈ cs, PySem.W.CodeHd s₁.heap p.1 p.2.1 := fun p hp => PySem.W.codeHd_of_K KX (hcd p hp)
    refine ⟨rfl, ⟨fun b o e => ?_, fun b o e => ?_⟩, os, bare⟩ <;> by_cases hb : ∃ p ∈ cs, p.2.1 = b
    · obtain ⟨p, hp, rfl⟩ := hb
      obtain ⟨us, hm⟩ := more p hp
      rw [ht p hp] at e
      cases e
      exact .inr (.inl ⟨((code p hp).tab (ht p hp)).isCodeTable, rfl, #[], us, rfl, by rw [Array.empty_append]; exact hm⟩)
    · exact .inl (stays b o (fun p hp z => hb ⟨p, hp, z⟩) e)
    · obtain ⟨p, hp, rfl⟩ := hb
      obtain ⟨us, hm⟩ := more p hp
      exact ⟨_, hm⟩
    · exact ⟨o, stays b o (fun p hp z => hb ⟨p, hp, z⟩) e⟩
theorem law_callT (KX : G.K.In s₁.heap) (hns : s₁.heap.Ns mainGlobals mg) (hb : s₁.heap.Ns builtinsNs mb) (hbb : ∀ x : Str, x ≠ "__name__" → mb x = bootBuiltins x) (hlim : s₁.heap.NoLimit) (hg : s₁.gens = #[])
    (ht : ∀ p ∈ cs, s₁.heap.get? p.2.1 = some tob) (nt : ∀ p ∈ cs, G.K.lookup p.2.1 = none) (hcd : ∀ p ∈ cs, PySem.W.codeHdIn G.K p.1 p.2.1 = true) (hGT : G.T = cs.map fun p => (p.2.1, p.2.2))
    (hbm : ∃ (bm : Addr) (ob : Obj), mg "__builtins__" = some (.ref bm) ∧ bm ≠ builtinsNs ∧ s₁.heap.get? bm = some ob ∧ ob.cls = .type "module" ∧ ob.dict = some builtinsNs ∧ ob.data = .plain)
    (ha : s₁.heap.get? a = some { cls := .type "list", data := .seq vs.toArray }) (hi : IntsAre vs ns) (hl : ns.length ≤ sizeLine) (hr : Room k callerA)
    (F : ∀ base : Heap, G.K.In base → base.Ns mainGlobals mg → (∀ p ∈ cs, LamX.TabB base mg p.1 p.2.1) → FnG P w G mg base k fa fd [x] Fd) (hbind : ∀ (s : Shared) (u : Value), BindsTo s fd ⟨[u], []⟩ [(x, u)])
    (hF : SaysTrue (Fd [scriptD ns] [])) :
    codeAny (model P w) callerA (.call (.ref fa) ⟨[.ref a], []⟩) (fun r s' => r = .ok (.ret (.bool true)) ∧ OldK s₁.heap s'.heap ∧ s'.os = s₁.os ∧ AllBare s'.gens) s₁ := by
  have rv := vals_ints hi
  have lenV := hi.length
  have aT : ∀ p ∈ cs, p.2.1 ≠ a := fun p hp z => by
    have e := ht p hp
    rw [z, ha] at e
    have e' : Data.seq vs.toArray _ = Data.fields #[] := congrArg Obj.data (Option.some.inj e)
    cases e'
  let O : HO := .frz { cls := .type "list", data := .seq vs.toArray } (.lst (ns.map V.int))
  -- the script is known of K, or tracked
  have go : ∀ so : Option HO, (so = none ∨ so = some O) → (so ≠ none → G.K.lookup a = none) →
      RepD G { H := fun b => if b ∈ cs.map (fun p => p.2.1) then some (.tbl #[]) else if b = a then so else none, U := fun _ => False, ρ := fun _ => 0, n := 0 } (scriptD ns) (.ref a) → _ := fun so hso hk rep => by
    have nA : a ∉ cs.map fun p => p.2.1 := fun z => by obtain ⟨p, hp, e⟩ := List.mem_map.mp z; exact aT p hp e
    have hHa : (fun b => if b ∈ cs.map (fun p => p.2.1) then some (HO.tbl #[]) else if b = a then so else none) a = so := by simp only [nA, if_false, if_true]
    refine start_T (H := fun b => if b ∈ cs.map (fun p => p.2.1) then some (.tbl #[]) else if b = a then so else none) KX hns hb hbb hlim hg ht nt hcd hGT hbm ha hr F hbind hF (fun b u z => ?_) (fun b z => ?_) (fun p hp => if_pos (List.mem_map.mpr ⟨p, hp, rfl⟩)) (fun u z => ?_) (fun z => hk fun q => z (hHa.trans q)) rep
    · dsimp only at z
      by_cases hbT : b ∈ cs.map fun p => p.2.1
      · rw [if_pos hbT] at z
        cases z
        obtain ⟨p, hp, rfl⟩ := List.mem_map.mp hbT
        exact ht p hp
      · rw [if_neg hbT] at z
        by_cases hba : b = a
        · subst hba
          rw [if_pos rfl] at z
          rcases hso with q | q
          · rw [q] at z; cases z
          · rw [q] at z
            cases z
            exact ⟨ha, by rw [List.length_map]; exact hl, vs, _, rv, ha⟩
        · rw [if_neg hba] at z; cases z
    · by_cases hbT : b ∈ cs.map fun p => p.2.1
      · obtain ⟨p, hp, e⟩ := List.mem_map.mp hbT
        exact .inr ⟨p, hp, e⟩
      · by_cases hba : b = a
        · exact .inl hba
        · exact absurd (by rw [if_neg hbT, if_neg hba]) z
    · have z2 := hHa.symm.trans z
      rcases hso with q | q
      · rw [q] at z2; cases z2
      · rw [q] at z2
        cases z2
        exact ⟨_, _, rfl⟩
  have nA : a ∉ cs.map fun p => p.2.1 := fun z => by obtain ⟨p, hp, e⟩ := List.mem_map.mp z; exact aT p hp e
  cases hk : G.K.lookup a with
  | some o =>
    have e := KX a o hk
    rw [ha] at e
    cases e
    refine go none (.inl rfl) (fun z => absurd rfl z) ?_
    simp only [scriptD, RepD, Rep]
    exact ⟨a, ns.map V.int, rfl, .inr ⟨_, vs.toArray, _, hk, rfl, rfl, rfl, by rw [List.size_toArray, lenV]; exact hl, by simpa using rv⟩, reps_ints ns⟩
  | none =>
    refine go (some O) (.inr rfl) (fun _ => hk) ?_
    simp only [scriptD, RepD, Rep]
    exact ⟨a, ns.map V.int, rfl, .inl ⟨fun z => z, _, by simp only [nA, if_false, if_true]; rfl⟩, reps_ints ns⟩
end
/-- a def of the module whose code object's table is asked -/
structure Maker (K : PySem.W.Frag) (mg : Str → Option Value) (x : Str) (p : Addr × Addr × Str) : Prop where
  hd : PySem.W.codeHdIn K p.1 p.2.1 = true
  out : K.lookup p.2.1 = none
  ex : ∃ (f : Addr) (o : Obj) (fd : FuncData), mg x = some (.ref f) ∧ K.lookup f = some o ∧ o.data = .func fd ∧ fd.code = .ref p.1
theorem walk_ofT {l : PySem.W.OpenLaw} {n k : Nat} {q : Program} {loose : List Str} {XP : (Str → Option Value) → Heap → Prop} {YP : World → Heap → Prop} {d : DefRec} {K : Params → PySem.W.Frag} {x : Str} {Fd : FD} {mks : List Str}
    (hn : l.most = some n) (hn2 : n ≤ sizeLine) (hdf : d.params.defaults = []) (hr : Room k callerA) (hrec : (mks.all fun m => (recsOf q).any fun e => e.name == m) = true)
    (hY : ∀ (w : World) (h : Heap), YP w h → (K w.params).In h)
    (F : ∀ (w : World) (mg : Str → Option Value) (fa : Addr) (h : Heap), (K w.params).In h → h.Ns mainGlobals mg → mg d.name = some (.ref fa) →
      ∃ (cl : Nat → Addr) (fd : FuncData) (cs : List (Addr × Addr × Str)), (∀ (s : Shared) (u : Value), BindsTo s fd ⟨[u], []⟩ [(x, u)]) ∧ (∀ p ∈ cs, ∃ m ∈ mks, Maker (K w.params) mg m p) ∧
        ∀ base : Heap, (K w.params).In base → base.Ns mainGlobals mg → (∀ p ∈ cs, LamX.TabB base mg p.1 p.2.1) → FnG l.prog w ⟨K w.params, cl, cs.map fun p => (p.2.1, p.2.2)⟩ mg base k fa fd [x] Fd)
    (hF : ∀ ns : List Int, ns.length ≤ n → (∀ z ∈ ns, Builtin.Int.intBits z ≤ 1048576) → SaysTrue (Fd [scriptD ns] [])) :
    PySem.W.WalkO q loose XP YP l.row.toRowW d [] (fun f vs => PySem.call f vs) := by
  refine Att.attach_callB hn hdf fun w s₀ s₁ mg mb fa o pm cd doc a vs ns Gr Y ho hd hcd hmg hobj hints hlen hbits hg => ?_
  have KX := hY w _ Y
  obtain ⟨cl, fd, cs, hb, hmk, hFn⟩ := F w mg fa _ KX Gr.T.g hmg
  refine law_callT (G := ⟨K w.params, cl, cs.map fun p => (p.2.1, p.2.2)⟩) KX Gr.T.g Gr.T.b Gr.T.builtins Gr.T.nolimit hg (fun p hp => ?_) (fun p hp => ?_) (fun p hp => ?_) rfl Gr.T.bmain hobj hints (Nat.le_trans hlen hn2) hr hFn hb (hF ns hlen hbits)
  · obtain ⟨m, hm, mk⟩ := hmk p hp
    obtain ⟨dL, h1, h2⟩ := List.any_eq_true.mp (List.all_eq_true.mp hrec m hm)
    obtain ⟨f, o1, fd1, z1, z2, z3, z4⟩ := mk.ex
    obtain ⟨f', o', fd', c', P', y1, y2, y3, y4, y5, y6⟩ := Gr.T.tab dL h1
    rw [beq_iff_eq.mp h2, z1] at y1
    cases y1
    rw [KX _ _ z2] at y2
    cases y2
    rw [z3] at y3
    cases y3
    rw [z4] at y4
    cases y4
    obtain ⟨⟨oc, vc, e1, _, e3, e4⟩, hP⟩ := y6
    obtain ⟨oc', vc', _, _, _, _, _, _, _, g1, _, g3, g4, _⟩ := PySem.W.codeHd_of_K KX mk.hd
    rw [g1] at e1
    cases e1
    rw [g3] at e3
    cases e3
    rw [g4] at e4
    cases e4
    exact hP
  · obtain ⟨m, hm, mk⟩ := hmk p hp
    exact mk.out
  · obtain ⟨m, hm, mk⟩ := hmk p hp
    exact mk.hd
end Fe
namespace Fe
open PySem PySem.Spec PyProof.Rows L2
/-- a lambda in a comprehension -/
theorem lamS_blk {sc sc0 scope : Scope} {env : Env} (h : LamX.lamSB (relS sc0 sc) scope = true) (he : env.scope = sc) : LamX.LamS (relabel sc0 env) scope := by
  subst he
  exact LamX.lamS_by h
/-- the table of a code object -/
def tabOfK (K : PySem.W.Frag) (c : Addr) : Addr := match K.lookup c with
  | some ⟨_, _, .fields vs, _⟩ => (match vs.getD 11 .none with
    | .ref p => p
    | _ => 0)
  | _ => 0
end Fe

set_option Elab.async false
set_option linter.all false
set_option maxRecDepth 100000
set_option maxHeartbeats 1000000
namespace Fe
open PySem PySem.Spec PyProof.Rows L2

section
variable {G : Gc} {Wx : WX} {Z : Addr → Prop} {W : Wd} {S : Sto} {σ : L2.St} {X : Cx} {k j : Nat}
/-! ### methods of built-in values, with a pure answer -/
def cBm (rv : Sto → D → Bool) (g : Sto → D → List D → Option D) (fo : CE') (fa : CA) : CE' := fun env S => (fo env S).bind fun o S1 => if rv S1 o = true then (fa env S1).bind fun ds S2 => R.ofO S2 (g S2 o ds) else .bad
/-- what a method does, by values -/
structure BmOk (G : Gc) (X : Cx) (T : String) (rv : Sto → D → Bool) (g : Sto → D → List D → Option D) (r : V → List V → Hp → VK → Prop) : Prop where
  ty : ∀ (Z : Addr → Prop) (S : Sto) (W : Wd) (d : D) (v : V), StRep G W Z S → RepD G W d v → rv S d = true → L2.tyV X.K T v W.H
  op : ∀ (Z : Addr → Prop) (S : Sto) (W : Wd) (d : D) (v : V) (ds : List D) (vs : List V) (res : D) (Q : VK), StRep G W Z S → RepD G W d v → RepDs G W ds vs → g S d ds = some res → (∀ u W', Go Z W W' → StRep G W' Z S → RepD G W' res u → Q u W'.H) → r v vs W.H Q
theorem pf_bm {T : String} {rv : Sto → D → Bool} {g : Sto → D → List D → Option D} {name : Str} {id : String} {r : V → List V → Hp → VK → Prop} {o e : Expr} {es : List Expr} {fo : CE'} {fa : CA} {apos cpos : Pos} (pa : PlainAttrs T) (hr : BmOk G X T rv g r) (slot : Slot T name id) (hty : typeOf (.builtin id) = pure (.type "method_descriptor")) (hm : MtR X id r) (ho : PF G X o fo) (ha : PFA G X (e :: es) fa)
    (hbase : attributeBase o name X.env (eval o X.env) = eval o X.env := by rfl)
    (hfew : ((backTo cpos (starEach (e :: es) X.env)).all (fun x => !x.1) && (backToKw cpos (keywordEach [] X.env)).all (fun x => x.1.isSome)
      && decide ((e :: es).length + ([] : List Keyword).length + (if ([] : List Keyword).isEmpty then 0 else 1) < 30)) = true := by rfl)
    (hline : (apos.endLine == cpos.line) = true := by rfl) (hs : starEach (e :: es) X.env = (false, eval e X.env) :: starEach es X.env := by rfl) (hplain : (backTo cpos (starEach es X.env)).any (·.1) = false := by rfl) :
    PF G X (.Call (.Attribute o name apos) (e :: es) [] cpos) (cBm rv g fo fa) := fun Wx tk => by
  refine PE.imp (pe_bm pa slot hty hm (ho Wx tk) (ha Wx tk) hbase hfew hline hs hplain) fun σ H Q h => ?_
  obtain ⟨Z, S, W, env, rfl, st, er, p⟩ := h
  refine ⟨Z, S, W, env, rfl, st, er, (seqEE p).mono fun v H1 h1 => ?_⟩
  obtain ⟨d1, S1, W1, rfl, go1, st1, r1, p1⟩ := h1
  split at p1
  · rename_i hl
    refine ⟨hr.ty Z S1 W1 d1 v st1 r1 hl, Z, S1, W1, env, rfl, st1, er.ext go1.toExt, (seqAE p1).mono fun ws H2 h2 => ?_⟩
    obtain ⟨ds, S2, W2, rfl, go2, st2, r2, p2⟩ := h2
    obtain ⟨d, ed, q⟩ := ofO_post p2
    exact hr.op Z S2 W2 d1 v ds ws d Q st2 (RepD.ext go2.toExt r1) r2 ed q
  · exact p1.elim
theorem pf_bm0 {T : String} {rv : Sto → D → Bool} {g : Sto → D → List D → Option D} {name : Str} {id : String} {r : V → List V → Hp → VK → Prop} {o : Expr} {fo : CE'} {apos cpos : Pos} (pa : PlainAttrs T) (hr : BmOk G X T rv g r) (slot : Slot T name id) (hty : typeOf (.builtin id) = pure (.type "method_descriptor")) (hm : MtR X id r) (ho : PF G X o fo)
    (hbase : attributeBase o name X.env (eval o X.env) = eval o X.env := by rfl) (hline : (apos.endLine == cpos.line) = true := by rfl) : PF G X (.Call (.Attribute o name apos) [] [] cpos) (cBm rv g fo cNil) := fun Wx tk => by
  refine PE.imp (pe_bm0 pa slot hty hm (ho Wx tk) hbase hline) fun σ H Q h => ?_
  obtain ⟨Z, S, W, env, rfl, st, er, p⟩ := h
  refine ⟨Z, S, W, env, rfl, st, er, (seqEE p).mono fun v H1 h1 => ?_⟩
  obtain ⟨d1, S1, W1, rfl, go1, st1, r1, p1⟩ := h1
  split at p1
  · rename_i hl
    obtain ⟨d, ed, q⟩ := ofO_post p1
    exact ⟨hr.ty Z S1 W1 d1 v st1 r1 hl, hr.op Z S1 W1 d1 v [] [] d Q st1 r1 True.intro ed q⟩
  · exact p1.elim
/-! ### texts -/
def isStr (_ : Sto) : D → Bool
  | .p (.str _) => true
  | _ => false
theorem isStr_rep {d : D} {v : V} (e : isStr S d = true) (r : RepD G W d v) : ∃ z, d = .p (.str z) ∧ v = .str z := by
  unfold isStr at e
  split at e
  · exact ⟨_, rfl, rep_str r⟩
  · cases e
theorem isStr_ty : ∀ (Z : Addr → Prop) (S : Sto) (W : Wd) (d : D) (v : V), StRep G W Z S → RepD G W d v → isStr S d = true → L2.tyV X.K "str" v W.H := fun Z S W d v _ r h => by
  obtain ⟨z, _, rfl⟩ := isStr_rep h r
  rfl
def asStrs : List P → Option (List Str)
  | [] => some []
  | .str b :: xs => (asStrs xs).map (b :: ·)
  | _ => none
theorem asStrs_rep : ∀ {xs : List P} {bs : List Str} {vs : List V}, asStrs xs = some bs → Reps G W xs vs → vs = bs.map V.str
  | [], _, [], e, _ => by simp [asStrs] at e; subst e; rfl
  | [], _, _ :: _, _, r => by simp [Reps] at r
  | _ :: _, _, [], _, r => by simp [Reps] at r
  | x :: xs, bs, v :: vs, e, r => by
    simp only [Reps] at r
    cases x <;> simp only [asStrs, Option.map_eq_some_iff] at e <;> try contradiction
    obtain ⟨cs, h, rfl⟩ := e
    rw [asStrs_rep h r.2, List.map_cons]
    congr 1
    simpa only [Rep] using r.1
/-- sep.join(xs) -/
def joinS (a : Str) : Option (List Str) → Option D
  | some ys => if (ys.map (·.length)).sum + ys.length * a.length ≤ 16777216 then some (.p (.str (Txt.join a ys))) else none
  | none => none
def dJoin (S : Sto) (x : D) : List D → Option D
  | [y] => (asS x).bind fun a => joinS a ((asSeq S y).bind asStrs)
  | _ => none
theorem join_ok (cg : CtxG G X k) : BmOk G X "str" isStr dJoin (fun x xs H Q => ∃ a p, ∃ ys : List Str, x = .str a ∧ xs = [.ref p] ∧ (SqL X.K H p (ys.map V.str) ∨ SqT X.K H p (ys.map V.str)) ∧ (ys.map (·.length)).sum + ys.length * a.length ≤ 16777216 ∧ Q (.str (Txt.join a ys)) H) := by
  refine ⟨isStr_ty, fun Z S W d v ds vs res Q st r rd e q => ?_⟩
  match ds, vs, rd, e with
  | [y], [u], rd, e =>
    obtain ⟨a, ha, e⟩ := Option.bind_eq_some_iff.mp e
    cases h : (asSeq S y).bind asStrs with
    | none => rw [h] at e; cases e
    | some ys =>
      rw [h] at e
      simp only [joinS] at e
      split at e
      · rename_i hb
        cases e
        obtain ⟨xs, h1, h2⟩ := Option.bind_eq_some_iff.mp h
        obtain ⟨p, us, rfl, t, rr⟩ := asSeq_rep cg.kk st h1 rd.1
        exact ⟨a, p, ys, asS_rep ha r, rfl, by rw [← asStrs_rep h2 rr]; exact t, hb, q _ W (Go.refl _ _) st (mk_str _)⟩
      · cases e
  | [], _, _, e => simp [dJoin] at e
  | _ :: _ :: _, _, _, e => simp [dJoin] at e
  | [_], [], rd, _ => exact rd.elim
  | [_], _ :: _ :: _, rd, _ => exact rd.2.elim
/-- n.bit_length() -/
def dBits (S : Sto) : D → Option D
  | .p (.int i) => some (.p (.int (Builtin.Int.intBits i : Nat)))
  | _ => none
theorem pf_bits {o : Expr} {fo : CE'} {apos pos : Pos} (ho : PF G X o fo) (hbase : attributeBase o "bit_length" X.env (eval o X.env) = eval o X.env := by rfl) (hline : (apos.endLine == pos.line) = true := by rfl) :
    PF G X (.Call (.Attribute o "bit_length" apos) [] [] pos) (cUn dBits fo) := fun Wx tk => by
  refine PE.imp (pe_bits (ho Wx tk) hbase hline) fun σ H Q h => ?_
  obtain ⟨Z, S, W, env, rfl, st, er, p⟩ := h
  refine ⟨Z, S, W, env, rfl, st, er, (seqEE p).mono fun v H1 h1 => ?_⟩
  obtain ⟨d1, S1, W1, rfl, go1, st1, r1, p1⟩ := h1
  obtain ⟨d, ed, q⟩ := ofO_post p1
  unfold dBits at ed
  split at ed
  · cases ed
    exact ⟨_, rep_int r1, q _ W1 (Go.refl _ _) st1 (mk_int _)⟩
  · cases ed
/-- a text times a number -/
def dMulT (S : Sto) (x y : D) : Option D := match x, y with
  | .p (.str z), .p (.int j) => if j ≤ 1000000 ∧ -1000000 ≤ j ∧ z.length * j.toNat ≤ 16000000 then some (.p (.str (Txt.mul z j))) else none
  | _, _ => none
theorem mulT_ok {z : Str} {j : Int} (h : j ≤ 1000000 ∧ -1000000 ≤ j ∧ z.length * j.toNat ≤ 16000000) : MulOk z j := by
  refine ⟨by simp only [Bool.or_eq_false_iff, decide_eq_false_iff_not]; omega, fun h1 h2 => ?_, fun h1 h2 => ?_⟩
  · have hj : 0 < j := by omega
    have e : (z.length : Int) ≤ (2 ^ 63 - 1) / j := by
      rw [Int.le_ediv_iff_mul_le hj]
      have e1 : ((z.length * j.toNat : Nat) : Int) = (z.length : Int) * j := by
        rw [Int.natCast_mul, Int.toNat_of_nonneg (by omega)]
      rw [← e1]
      omega
    omega
  · unfold Builtin.Str.tooLong
    simp only [decide_eq_false_iff_not]
    rw [sizeLine_eq]
    omega
theorem v_mulT : OpR X (binaryOp .Mult) (v2D G dMulT) := by
  intro pins s σ H x y v u Q I rx ry h'
  obtain ⟨Z, S, W, d1, d2, d, rfl, st, r1, r2, e, q⟩ := h'
  unfold dMulT at e
  split at e
  · split at e
    · rename_i hc
      cases e
      cases rep_str r1
      cases rep_int r2
      obtain ⟨t, rfl⟩ := (show ∃ t, v = Value.str _ t from rx)
      obtain ⟨t', rfl⟩ := (show ∃ t, u = Value.int _ t from ry)
      exact PySem.SB.mul (mulT_ok hc) fun t2 k => ⟨.str _, W.H, I.tok _, ⟨t2, rfl⟩, q _ W (Go.refl _ _) st (mk_str _)⟩
    · cases e
  · cases e
theorem foldl_app (a : Array Nat) : ∀ (n : Nat) (acc : Array Nat), ((List.replicate n a).foldl (· ++ ·) acc).toList = acc.toList ++ (List.replicate n a.toList).flatten
  | 0, acc => by simp
  | n + 1, acc => by
    simp only [List.replicate_succ, List.foldl_cons, List.flatten_cons]
    rw [foldl_app a n (acc ++ a)]
    simp
theorem mul_cps (z : Str) (j : Int) : (Txt.mul z j).cps.toList = (List.replicate j.toNat z.cps.toList).flatten := by
  unfold Txt.mul
  split
  · have : j.toNat = 0 := by omega
    rw [this]; rfl
  · split
    · rename_i h1 h2
      simp only [Bool.or_eq_true, beq_iff_eq] at h2
      rcases h2 with rfl | h2
      · simp
      · have : z.cps.toList = [] := by
          have e : z.cps.size = 0 := h2
          simpa using e
        rw [this]
        simp
    · rw [foldl_app]; simp
end
end Fe

set_option Elab.async false
set_option linter.all false
set_option maxRecDepth 100000
set_option maxHeartbeats 1000000
namespace Fe
open PySem PySem.Spec PyProof.Rows L2
/-! ### repr of the empty dict; what is not read -/
section
variable {G : Gc} {X : Cx} {k : Nat}
theorem pf_bad {e : Expr} : PF G X e (fun _ _ => .bad) := fun Wx tk => ⟨fun pins s σ H Q I q => by
  obtain ⟨Z, S, W, env, _, _, _, p⟩ := q
  exact p.elim⟩
theorem pfs_bad {e : Stmt} : PFS G X e (fun _ _ => .bad) := fun Wx tk => ⟨fun pins s σ H Q I q => by
  obtain ⟨Z, S, W, env, _, _, _, p⟩ := q
  exact p.elim⟩
def cBad : CE' := fun _ _ => .bad
def sBad : CS := fun _ _ => .bad
theorem pf_cbad {e : Expr} : PF G X e cBad := pf_bad
theorem pfs_sbad {e : Stmt} : PFS G X e sBad := pfs_bad
def dReprD (S : Sto) : D → Option D
  | .p (.dct [] []) => some (.p (.str "{}"))
  | d => dRepr S d
theorem c_reprD (cg : CtxG G X k) : CallR X (.builtin "repr") (vsD G (on1 dReprD)) := call1 fun pins s σ x u Q Z S W d1 d I ru st r1 e q => by
  unfold dReprD at e
  split at e
  · cases e
    simp only [RepD, Rep] at r1
    obtain ⟨a, vs, rfl, hd, hr⟩ := r1
    cases vs with
    | cons => simp [Reps] at hr
    | nil =>
    cases ru
    have key : (a == sysModules) = false ∧ ∃ o es ep, s.heap.get? a = some o ∧ o.ExactDict ∧ o.data = .dict es ep ∧ es.toList = [] := by
      rcases hd with ⟨_, kk, h1, h2, h3⟩ | ⟨_, kk, h1, h2, h3⟩
      · cases h1
        obtain ⟨_, z, vs, r, o, es, ep, g1, g2, g3, _, g4, _⟩ := dk_rd I.hok h3
        refine ⟨z, o, es, ep, g1, g2, g3, ?_⟩
        cases r
        cases es with
        | mk l => cases l with
          | nil => rfl
          | cons => cases g4
      · cases h1
        obtain ⟨_, z, xs, r, o, es, ep, g1, g2, g3, g4, _⟩ := dt_rd I.hok h3
        refine ⟨z, o, es, ep, g1, g2, g3, ?_⟩
        cases r
        exact g4
    obtain ⟨z, o, es, ep, g1, g2, g3, g4⟩ := key
    have rd : Reads s.heap (.ref a) (.dict []) [a] := by
      have := Reads.dict (kvs := []) (as := []) (bs := []) g1 g2.1 g3 (by rw [g4]; exact .nil) (by rw [g4]; exact .nil)
      exact this
    have hu : X.A.units + ((PyData.dict []).depth + 1) < cLine := by
      have := cg.room.un
      have : (PyData.dict []).depth ≤ 10 := by decide
      omega
    refine repr_of_reads' rd rfl (fun _ hm => ?_) cg.grd hu (fun _ _ z => z) (fun h' u tk kp => ⟨.str "{}", W.H, I.kept (t' := tk) kp, ⟨_, rfl⟩, q _ W (Go.refl _ _) st (mk_str _)⟩) (by decide)
    rw [List.mem_singleton] at hm
    rw [hm] at z
    simp at z
  · exact c_repr cg pins s σ W.H [x] [u] Q I (.cons ru .nil) ⟨Z, S, W, [d1], d, rfl, st, ⟨r1, True.intro⟩, e, q⟩
theorem reprD_of {S : Sto} {x z : D} (h : dRepr S x = some z) : dReprD S x = some z := by
  unfold dReprD
  split
  · simp [dRepr, toPyD, toPy] at h
  · exact h
theorem reprD_nil {S : Sto} : dReprD S (.p (.dct [] [])) = some (.p (.str "{}")) := (rfl)
end
end Fe

set_option Elab.async false
set_option linter.all false
set_option maxRecDepth 100000
set_option maxHeartbeats 1000000
namespace Fe
open PySem PySem.Spec PyProof.Rows L2
/-! ### data whose ==, in, repr are known: w its weight, d its depth -/
def Lay (x : P) (w d : Nat) : Prop := ∃ pd, toPy x = some pd ∧ pd.canLay0 = true ∧ pd.showable = true ∧ pd.leavesShort 64 = true ∧ pd.weight ≤ w ∧ pd.depth ≤ d
def Lays (xs : List P) (w d : Nat) : Prop := ∃ pds, toPys xs = some pds ∧ PyData.canLayAll0 pds = true ∧ PyData.showableAll pds = true ∧ PyData.leavesShortAll 64 pds = true ∧ PyData.weightAll pds ≤ w ∧ PyData.depthAll pds ≤ d
theorem Lay.mono {x : P} {w d w' d' : Nat} (h : Lay x w d) (hw : w ≤ w') (hd : d ≤ d') : Lay x w' d' := by
  obtain ⟨pd, a, b, c, e, f, g⟩ := h
  exact ⟨pd, a, b, c, e, by omega, by omega⟩
theorem lay_non {w d : Nat} : Lay .non w d := ⟨.none, rfl, rfl, rfl, rfl, Nat.zero_le _, Nat.zero_le _⟩
theorem lay_bl {b : Bool} {w d : Nat} : Lay (.bl b) w d := ⟨.bool b, rfl, rfl, rfl, rfl, Nat.zero_le _, Nat.zero_le _⟩
theorem lay_int {i : Int} {w d : Nat} (h : i.natAbs < 2 ^ 200) (hw : 200 ≤ w) : Lay (.int i) w d := by
  have l : i.natAbs.log2 < 200 := by
    by_cases h0 : i.natAbs = 0
    · rw [h0]; decide
    · exact (Nat.log2_lt h0).mpr h
  refine ⟨.int i, rfl, rfl, ?_, ?_, ?_, Nat.zero_le _⟩
  · simp only [PyData.showable, decide_eq_true_eq]; omega
  · simp only [PyData.leavesShort, decide_eq_true_eq]
    have e : (2 : Nat) ^ 200 ≤ 10 ^ 61 := by decide
    have := int_text_length_le10 (a := i) (k := 61) (by decide) (by omega)
    show (Str.ofString (toString i)).length ≤ 64
    rw [PySem.ofString_length]; omega
  · simp only [PyData.weight]; split <;> omega
theorem lay_str {z : Str} {w d : Nat} (h : z.cps.toList.all (· < 0x110000) = true) (hw : z.length ≤ w) : Lay (.str z) w d := by
  have h' : ∀ c ∈ z.cps.toList, c < 0x110000 := fun c hc => by simpa using List.all_eq_true.mp h c hc
  refine ⟨.str z, rfl, ?_, rfl, ?_, hw, Nat.zero_le _⟩
  · show z.cps.all (· < 0x110000) = true
    rw [← Array.all_toList]; exact h
  · simp only [PyData.leavesShort, List.all_eq_true, decide_eq_true_eq]
    intro c hc
    have := h' c hc
    have e : (0x110000 : Nat) < 16 ^ 8 := by decide
    omega
theorem lays_nil {w d : Nat} : Lays [] w d := ⟨[], rfl, rfl, rfl, rfl, Nat.zero_le _, Nat.zero_le _⟩
theorem lays_cons {x : P} {xs : List P} {w w' d : Nat} (h : Lay x w d) (h' : Lays xs w' d) : Lays (x :: xs) (w + 1 + w') d := by
  obtain ⟨pd, a, b, c, e, f, g⟩ := h
  obtain ⟨pds, a', b', c', e', f', g'⟩ := h'
  exact ⟨pd :: pds, by simp [toPys, a, a'], by simp [PyData.canLayAll0, b, b'], by simp [PyData.showableAll, c, c'], by simp [PyData.leavesShortAll, e, e'], by simp only [PyData.weightAll]; omega, Nat.max_le.mpr ⟨g, g'⟩⟩
theorem Lays.mono {x : List P} {w d w' d' : Nat} (h : Lays x w d) (hw : w ≤ w') (hd : d ≤ d') : Lays x w' d' := by
  obtain ⟨pd, a, b, c, e, f, g⟩ := h
  exact ⟨pd, a, b, c, e, by omega, by omega⟩
theorem lays_all {w d : Nat} : ∀ {xs : List P}, (∀ x ∈ xs, Lay x w d) → Lays xs (xs.length * (w + 1)) d
  | [], _ => by simpa using (lays_nil : Lays [] 0 d)
  | x :: xs, h => by
    have := lays_cons (h x List.mem_cons_self) (lays_all fun y hy => h y (List.mem_cons_of_mem _ hy))
    refine this.mono ?_ (Nat.le_refl _)
    simp only [List.length_cons, Nat.succ_mul]; omega
theorem lay_tup {xs : List P} {w d : Nat} (h : Lays xs w d) : Lay (.tup xs) w (d + 1) := by
  obtain ⟨pds, a, b, c, e, f, g⟩ := h
  exact ⟨.tuple pds, by simp [toPy, a], by simpa [PyData.canLay0] using b, by simpa [PyData.showable] using c, by simpa [PyData.leavesShort] using e, by simpa [PyData.weight] using f, by simp only [PyData.depth]; omega⟩
theorem lay_lst {xs : List P} {w d : Nat} (h : Lays xs w d) : Lay (.lst xs) w (d + 1) := by
  obtain ⟨pds, a, b, c, e, f, g⟩ := h
  exact ⟨.list pds, by simp [toPy, a], by simpa [PyData.canLay0] using b, by simpa [PyData.showable] using c, by simpa [PyData.leavesShort] using e, by simpa [PyData.weight] using f, by simp only [PyData.depth]; omega⟩
theorem lay_pair {x y : P} {w d : Nat} (h : Lay x w d) (h' : Lay y w d) : Lay (.tup [x, y]) (2 * w + 2) (d + 1) := lay_tup ((lays_cons h (lays_cons h' (lays_nil (w := 0)))).mono (w' := 2 * w + 2) (by omega) (Nat.le_refl _))
section
variable {x y : P} {w d w' d' : Nat} {S : Sto}
theorem Lay.shaped (h : Lay x w d) (hd : d ≤ 60) : ∃ pd, toPy x = some pd ∧ SeqAt.shaped pd = true := by
  obtain ⟨pd, a, b, c, e, f, g⟩ := h
  exact ⟨pd, a, by unfold SeqAt.shaped; rw [b]; simp; omega⟩
theorem repr_lay (h : Lay x w d) (hw : w ≤ 200000) (hd : d ≤ 60) : ∃ z : Str, ∀ S, dRepr S (.p x) = some (.p (.str z)) := by
  obtain ⟨pd, a, b, c, e, f, g⟩ := h
  have h1 := PyData.shown_le 64 (by decide) pd e
  refine repr_any a c (PyData.hasDict_of_canLay pd b) (by omega) ?_
  rw [sizeLine_eq]
  have : (64 + 2) * pd.weight ≤ 66 * 200000 := Nat.mul_le_mul (by omega) (by omega)
  omega
theorem same_lay (h : Lay x w d) (hd : d ≤ 60) : dEq S (.p x) (.p x) = some (.p (.bl true)) ∧ dNe S (.p x) (.p x) = some (.p (.bl false)) := by
  obtain ⟨pd, a, b⟩ := h.shaped hd
  cases hs : strPair (.p x) (.p x) with
  | none => exact same_eq (pd := pd) a a b hs
  | some c =>
    obtain ⟨u, v, e1, e2, rfl⟩ := strPair_of hs
    cases e1
    cases e2
    exact ⟨by rw [dEq, hs]; simp, by rw [dNe, hs]; simp⟩
/-- x == y, as a Bool -/
def eqP (x y : P) : Bool := match toPy x, toPy y with
  | some a, some b => PyData.eqv a b
  | _, _ => false
theorem eq_lay (h : Lay x w d) (hd : d ≤ 60) (h' : Lay y w' d') (hd' : d' ≤ 60) : dEq S (.p x) (.p y) = some (.p (.bl (eqP x y))) ∧ dNe S (.p x) (.p y) = some (.p (.bl (!eqP x y))) := by
  obtain ⟨pd, a, b⟩ := h.shaped hd
  obtain ⟨pd', a', b'⟩ := h'.shaped hd'
  cases hs : strPair (.p x) (.p y) with
  | none =>
    have := eq_by (S := S) (x := .p x) (y := .p y) a a' b b' hs
    unfold eqP
    rw [a, a']
    exact this
  | some c =>
    obtain ⟨u, v, e1, e2, rfl⟩ := strPair_of hs
    cases e1
    cases e2
    have e : eqP (.str u) (.str v) = decide (u = v) := by
      show (u == v) = _
      by_cases huv : u = v
      · subst huv; simp
      · rw [decide_eq_false huv]
        cases hb : u == v
        · rfl
        · exact absurd (eq_of_beq hb) huv
    exact ⟨by rw [dEq, hs, e], by rw [dNe, hs, e]⟩
end
end Fe
namespace Fe
open PySem PySem.Spec PyProof.Rows L2
/-! ### the signs of what repr gives -/
def Asc (z : Str) : Prop := ∀ c ∈ z.cps.toList, c < 0x110000
theorem char_lt (c : Char) : c.toNat < 0x110000 := by
  have := c.valid
  rcases this with h | h
  · have : c.val.toNat < 0xd800 := h
    show c.val.toNat < _
    omega
  · exact h.2
theorem asc_of (s : String) : Asc (Str.ofString s) := fun c hc => by
  have e : (Str.ofString s).cps.toList = s.toList.map Char.toNat := by
    rw [Str.ofString_eq_toList]
  rw [e] at hc
  obtain ⟨d, _, rfl⟩ := List.mem_map.mp hc
  exact char_lt d
theorem asc_app {a b : Str} (ha : Asc a) (hb : Asc b) : Asc (a ++ b) := fun c hc => by
  have e : (a ++ b).cps.toList = a.cps.toList ++ b.cps.toList := by
    show (a.cps ++ b.cps).toList = _
    simp
  rw [e] at hc
  rcases List.mem_append.mp hc with h | h
  · exact ha c h
  · exact hb c h
theorem asc_char {q c : Nat} (hq : q < 0x110000) (hc : c < 0x110000) : ∀ d ∈ Builtin.Str.reprChar q c, d < 0x110000 := by
  have hex : ∀ w : Nat, ∀ d ∈ (List.replicate (w - ((Nat.toDigits 16 c).map Char.toNat).length) 48 ++ (Nat.toDigits 16 c).map Char.toNat), d < 0x110000 := fun w d hd => by
    rcases List.mem_append.mp hd with h | h
    · have := (List.mem_replicate.mp h).2
      omega
    · obtain ⟨e, _, rfl⟩ := List.mem_map.mp h
      exact char_lt e
  intro d hd
  unfold Builtin.Str.reprChar at hd
  simp only at hd
  split at hd
  · simp at hd; omega
  · split at hd
    · simp at hd; omega
    · split at hd
      · simp at hd; omega
      · split at hd
        · simp at hd; omega
        · split at hd
          · simp at hd; omega
          · split at hd
            · rcases List.mem_append.mp hd with h | h
              · simp at h; omega
              · exact hex 2 d h
            · split at hd
              · rcases List.mem_append.mp hd with h | h
                · simp at h; omega
                · exact hex 4 d h
              · rcases List.mem_append.mp hd with h | h
                · simp at h; omega
                · exact hex 8 d h
theorem asc_repr {z : Str} (h : Asc z) : Asc (reprText z) := by
  have hq : reprQuote z < 0x110000 := by unfold reprQuote; split <;> decide
  have key : ∀ (l : List Nat) (acc : Array Nat), (∀ c ∈ l, c < 0x110000) → (∀ c ∈ acc.toList, c < 0x110000) → ∀ c ∈ (l.foldl (fun out c => out ++ (Builtin.Str.reprChar (reprQuote z) c).toArray) acc).toList, c < 0x110000 := fun l => by
    induction l with
    | nil => exact fun acc _ ha => ha
    | cons c l ih =>
      intro acc hl ha
      refine ih _ (fun d hd => hl d (List.mem_cons_of_mem _ hd)) fun d hd => ?_
      simp only [Array.toList_append, List.mem_append] at hd
      rcases hd with hd | hd
      · exact ha d hd
      · exact asc_char hq (hl c List.mem_cons_self) d (by simpa using hd)
  intro c hc
  unfold reprText at hc
  rw [← Array.foldl_toList] at hc
  simp only [Array.toList_push, List.mem_append, List.mem_singleton] at hc
  rcases hc with hc | rfl
  · exact key z.cps.toList #[reprQuote z] h (fun d hd => by simp at hd; omega) c hc
  · exact hq
theorem asc_from : ∀ (ts : List Str) (k : Nat) (acc : Str), (∀ t ∈ ts, Asc t) → Asc acc → Asc (textFrom k acc ts)
  | [], _, _, _, h => h
  | t :: ts, k, acc, ht, h => asc_from ts (k + 1) _ (fun u hu => ht u (List.mem_cons_of_mem _ hu)) (asc_app (asc_app h (asc_of _)) (ht t List.mem_cons_self))
theorem asc_join : ∀ (ts : List Str), (∀ t ∈ ts, Asc t) → Asc (Str.join ", " ts)
  | [], _ => fun c hc => by cases hc
  | [t], h => h t List.mem_cons_self
  | t :: u :: ts, h => asc_app (asc_app (h t List.mem_cons_self) (asc_of _)) (asc_join (u :: ts) fun v hv => h v (List.mem_cons_of_mem _ hv))
mutual
theorem asc_shown : ∀ d : PyData, d.canLay0 = true → Asc d.shown
  | .none, _ => asc_of _
  | .bool b, _ => by cases b <;> exact asc_of _
  | .int i, _ => asc_of _
  | .str z, h => asc_repr fun c hc => by
    have h' : z.cps.all (· < 0x110000) = true := h
    rw [← Array.all_toList] at h'
    simpa using List.all_eq_true.mp h' c hc
  | .list xs, h => by
    have := asc_shownAll xs (by simpa [PyData.canLay0] using h)
    exact asc_app (asc_from _ _ _ this (asc_of _)) (asc_of _)
  | .tuple xs, h => by
    have := asc_shownAll xs (by simpa [PyData.canLay0] using h)
    exact asc_app (asc_app (asc_of _) (asc_join _ this)) (asc_of _)
  | .dict _, h => by simp [PyData.canLay0] at h
theorem asc_shownAll : ∀ ds : List PyData, PyData.canLayAll0 ds = true → ∀ t ∈ PyData.shownAll ds, Asc t
  | [], _, _, h => by cases h
  | d :: ds, h, t, ht => by
    have h' : d.canLay0 = true ∧ PyData.canLayAll0 ds = true := by simpa [PyData.canLayAll0] using h
    rcases List.mem_cons.mp ht with rfl | ht
    · exact asc_shown d h'.1
    · exact asc_shownAll ds h'.2 t ht
end
/-- repr's text, as data again -/
theorem repr_lay2 {x : P} {w d : Nat} (h : Lay x w d) (hw : w ≤ 200000) (hd : d ≤ 60) : ∃ z : Str, (∀ S, dRepr S (.p x) = some (.p (.str z))) ∧ Asc z ∧ z.length ≤ 66 * w + 64 := by
  obtain ⟨pd, a, b, c, e, f, g⟩ := h
  have h1 := PyData.shown_le 64 (by decide) pd e
  have hs := asc_shown pd b
  have hm : (64 + 2) * pd.weight ≤ 66 * w := Nat.mul_le_mul (by omega) f
  have hl : pd.shown.length ≤ sizeLine := by rw [sizeLine_eq]; omega
  refine ⟨pd.shown, fun S => ?_, hs, by omega⟩
  have tp : toPyD S (.p x) = some pd := a
  unfold dRepr
  rw [tp]
  cases pd with
  | none => rfl
  | bool b => cases b <;> rfl
  | int i =>
    have hc : i.natAbs.log2 < 1920 := by simpa [PyData.showable] using c
    simp only [hc, if_true]
    rfl
  | str z =>
    have hz : (reprText z).length ≤ sizeLine := hl
    simp only [hz, if_true]
    rfl
  | list xs => simp only [c, PyData.hasDict_of_canLay _ b, hl, show (PyData.list xs).depth < 100 by omega, and_self, if_true]
  | tuple xs => simp only [c, PyData.hasDict_of_canLay _ b, hl, show (PyData.tuple xs).depth < 100 by omega, and_self, if_true]
  | dict _ => simp [PyData.canLay0] at b
theorem Asc.all {z : Str} (h : Asc z) : z.cps.toList.all (· < 0x110000) = true := List.all_eq_true.mpr fun c hc => by simpa using h c hc
end Fe

set_option Elab.async false
set_option linter.all false
set_option maxRecDepth 100000
set_option maxHeartbeats 1000000
namespace Fe
open PySem PySem.Spec PyProof.Rows L2
/-! ### the laws' draws: a state that was asked at most k times -/
def Sd (k : Nat) (so : SO) : Prop := ∃ a b c : Int, so = st3 a b c ∧ 0 ≤ c ∧ c ≤ k
theorem Sd.mono {k k' : Nat} {so : SO} (h : Sd k so) (hk : k ≤ k') : Sd k' so := by
  obtain ⟨a, b, c, e, h0, h1⟩ := h
  exact ⟨a, b, c, e, h0, by omega⟩
theorem Sd.live {k : Nat} {so : SO} (h : Sd k so) : so.live = true := by
  obtain ⟨a, b, c, rfl, _⟩ := h
  rfl
/-- a call that borrows the state -/
theorem sd_borrow {F : FD} {S : Sto} {p : Nat} {so so' : SO} {x : P} {k : Nat} (xs : List P) (hp : S[p]? = some so) (h : Sd k so) (e : F (.ref 0 :: xs.map D.p) [so] = .ok (.p x) [so']) (h' : so'.live = true) : borrowF F (.ref p :: xs.map D.p) S = .ok (.p x) (S.set p so') :=
  borrow_ok (S := S) xs rfl hp h.live e rfl h'
theorem sd_draw {S : Sto} {p k : Nat} {so : SO} (h : Sd k so) (hp : S[p]? = some so) (n : Int) (hk : k ≤ 99000 := by omega) (h1 : 1 ≤ n := by omega) (h2 : n ≤ 1000000 := by omega) :
    ∃ r so', borrowF drawF [.ref p, .p (.int n)] S = .ok (.p (.int r)) (S.set p so') ∧ 0 ≤ r ∧ r < n ∧ Sd (k + 1) so' := by
  obtain ⟨a, b, c, rfl, c0, c1⟩ := h
  obtain ⟨r, a', c', e, h3, h4, h5, h6⟩ := draw_ok a b c n c0 (by omega) h1 h2
  exact ⟨r, st3 a' b c', sd_borrow (k := k) [.int n] hp ⟨a, b, c, rfl, c0, c1⟩ e rfl, h3, h4, ⟨a', b, c', rfl, by omega, by omega⟩⟩
theorem sd_pick {S : Sto} {p k : Nat} {so : SO} (h : Sd k so) (hp : S[p]? = some so) (items : List P) (h1 : 0 < items.length := by decide) (h2 : items.length ≤ 1000 := by decide) (hk : k ≤ 99000 := by omega) :
    ∃ x so', borrowF pickF [.ref p, .p (.lst items)] S = .ok (.p x) (S.set p so') ∧ x ∈ items ∧ Sd (k + 1) so' := by
  obtain ⟨a, b, c, rfl, c0, c1⟩ := h
  obtain ⟨x, a', c', e, h3, h5, h6⟩ := pick_ok a b c items c0 (by omega) h1 h2
  exact ⟨x, st3 a' b c', sd_borrow (k := k) [.lst items] hp ⟨a, b, c, rfl, c0, c1⟩ e rfl, h3, ⟨a', b, c', rfl, by omega, by omega⟩⟩
/-- one of the signs of a text, one of a tuple -/
theorem sd_pickS {S : Sto} {p k : Nat} {so : SO} (h : Sd k so) (hp : S[p]? = some so) (z : Str) (h1 : 0 < z.length := by decide) (h2 : z.length ≤ 1000 := by decide) (hk : k ≤ 99000 := by omega) :
    ∃ c so', borrowF pickF [.ref p, .p (.str z)] S = .ok (.p (.str ⟨#[c]⟩)) (S.set p so') ∧ c ∈ z.cps.toList ∧ Sd (k + 1) so' := by
  obtain ⟨r, so', e, r0, r1, s1⟩ := sd_draw (S := [so]) (p := 0) h rfl (z.length : Int) hk (by omega) (by omega)
  have hl : z.cps.toList.length = z.length := by simp [Str.length]
  have hr : r.toNat < z.cps.toList.length := by omega
  refine ⟨z.cps.toList[r.toNat], so', sd_borrow (k := k) [.str z] hp h ?_ s1.live, List.getElem_mem _, s1⟩
  have hsz : z.length ≤ sizeLine := small_sz _ (by omega)
  refine body_rt rfl ?_
  have ln : ∀ S, dLen S (.p (.str z)) = some (.p (.int z.length)) := fun S => by
    show (if z.length ≤ sizeLine then some (D.p (.int z.length)) else none) = _
    rw [if_pos hsz]
  have ix : ∀ S, dIx S (.p (.str z)) (.p (.int r)) = some (.p (.str ⟨#[z.cps.toList[r.toNat]]⟩)) := fun S => by
    show (if z.length ≤ sizeLine then (atI z.cps.toList r).map fun c => D.p (.str ⟨#[c]⟩) else none) = _
    rw [if_pos hsz, atI_pos r0 (by omega), List.getElem?_eq_getElem hr]
    rfl
  simp only [List.set_cons_zero] at e
  simp [startD, ln, e, ix]
/-- a comprehension whose elements are drawn -/
theorem lc_sd {fe : CE'} {i p m B : Nat} {env : DEnv} {S : Sto} {N : P → Prop} (hF : ∀ (x : P) (so : SO) (k : Nat), k + m ≤ B → Sd k so → ∃ t so', fe (env.set i (some (.p x))) (S.set p so) = .ok (.p t) (S.set p so') ∧ N t ∧ Sd (k + m) so') :
    ∀ (ds acc : List P) (so : SO) (k : Nat), k + ds.length * m ≤ B → Sd k so → acc.length + ds.length ≤ 60000 → ∃ ys so', lcL ckT (gN i) cYes fe env ds acc (S.set p so) = .ok (.p (.lst (acc ++ ys))) (S.set p so') ∧ ys.length = ds.length ∧ (∀ y ∈ ys, N y) ∧ Sd (k + ds.length * m) so'
  | [], acc, so, k, h1, h2, h3 => ⟨[], so, by simp, rfl, by simp, by simpa using h2⟩
  | x :: ds, acc, so, k, h1, h2, h3 => by
    simp only [List.length_cons, Nat.succ_mul] at h1 h3
    obtain ⟨t, so1, e1, n1, s1⟩ := hF x so k (by omega) h2
    obtain ⟨ys, so2, e2, l2, n2, s2⟩ := lc_sd hF ds (acc ++ [t]) so1 (k + m) (by omega) s1 (by simp; omega)
    refine ⟨t :: ys, so2, ?_, by simp [l2], ?_, ?_⟩
    · rw [lcL_cons (S3 := S.set p so1) (x := t) rfl rfl e1 (Nat.lt_of_lt_of_le (by omega : acc.length < 60001) (small_sz 60001 (by decide))), e2]
      simp
    · intro y hy
      rcases List.mem_cons.mp hy with rfl | hy
      · exact n1
      · exact n2 y hy
    · have e : k + (x :: ds).length * m = k + m + ds.length * m := by simp only [List.length_cons, Nat.succ_mul]; omega
      rw [e]; exact s2
/-- a for loop whose body draws: I holds of the frame's slots -/
theorem for_sd {b : CS} {g : CG} {p m B : Nat} {S : Sto} {I : DEnv → Prop} (hF : ∀ (x : P) (env : DEnv) (so : SO) (k : Nat), k + m ≤ B → I env → Sd k so → ∃ env1 S1, g (.p x) env (S.set p so) = some (env1, S1) ∧ ∃ env' so', b env1 S1 = .nx env' (S.set p so') ∧ I env' ∧ Sd (k + m) so') :
    ∀ (ds : List P) (env : DEnv) (so : SO) (k : Nat), k + ds.length * m ≤ B → I env → Sd k so → ∃ env' so', forL ckT g b ds env (S.set p so) = .nx env' (S.set p so') ∧ I env' ∧ Sd (k + ds.length * m) so'
  | [], env, so, k, h1, hI, h2 => ⟨env, so, rfl, hI, by simpa using h2⟩
  | x :: ds, env, so, k, h1, hI, h2 => by
    simp only [List.length_cons, Nat.succ_mul] at h1
    obtain ⟨env1, S1, e1, env', so1, e2, i1, s1⟩ := hF x env so k (by omega) hI h2
    obtain ⟨env2, so2, e3, i2, s2⟩ := for_sd hF ds env' so1 (k + m) (by omega) i1 s1
    refine ⟨env2, so2, ?_, i2, ?_⟩
    · rw [forL_nx e1 e2, e3]
    · have e : k + (x :: ds).length * m = k + m + ds.length * m := by simp only [List.length_cons, Nat.succ_mul]; omega
      rw [e]; exact s2
/-! ### readings of the new rules -/
variable {S S1 : Sto} {env : DEnv}
@[simp] theorem m_cBm (rv g fo fa) : cBm rv g fo fa env S = (fo env S).bind fun o S1 => if rv S1 o = true then (fa env S1).bind fun ds S2 => R.ofO S2 (g S2 o ds) else .bad := (rfl)
@[simp] theorem m_isStr (z : Str) : isStr S (.p (.str z)) = true := (rfl)
@[simp] theorem m_cXf (f ok fo) : cXf f ok fo env S = (fo env S).bind fun d S1 => R.ofO S1 (dXf f ok d) := (rfl)
@[simp] theorem m_iTxt (f) : iTxt f env S = (f env S).bind fun d S1 => R.ofO S1 ((asS d).map fun z => (signs z, ckT)) := (rfl)
@[simp] theorem m_asS (z : Str) : asS (.p (.str z)) = some z := (rfl)
theorem lam_nx {n : Nat} {g : CE' → CS} {fb : CE'} {φ : D} {e : DEnv} (h : g (cAct 0 φ fb) (startD n [φ]) S = .nx e S1) : lamRun n g fb φ S = .ok (.p .non) S1 := by unfold lamRun; rw [h]; rfl
theorem lam_rt {n : Nat} {g : CE' → CS} {fb : CE'} {φ d : D} (h : g (cAct 0 φ fb) (startD n [φ]) S = .rt d S1) : lamRun n g fb φ S = .ok d S1 := by unfold lamRun; rw [h]; rfl
theorem m_act {φ : D} {fb : CE'} (h : env[0]? = some (some φ)) : cAct 0 φ fb env S = fb (capE φ) S := by unfold cAct; rw [if_pos h]
theorem uncap_cap : ∀ o : Option D, (∀ a c q es σ, o ≠ some (.fn a c q es σ)) → uncap (cap o) = o
  | none, _ => rfl
  | some (.p _), _ => rfl
  | some (.ref _), _ => rfl
  | some (.fn a c q es σ), h => absurd rfl (h a c q es σ)
theorem capE_of {a c : Addr} {q : Str} {σ : List (Option V)} {env : DEnv} (h : ∀ o ∈ env, ∀ a c q es σ, o ≠ some (D.fn a c q es σ)) : capE (.fn a c q (env.map cap) σ) = env := by
  show (env.map cap).map uncap = env
  rw [List.map_map]
  have : ∀ o ∈ env, (uncap ∘ cap) o = o := fun o ho => uncap_cap o (h o ho)
  rw [List.map_congr_left this, List.map_id']
end Fe
namespace Fe
open PySem PySem.Spec PyProof.Rows L2
@[simp] theorem uncap_cap_p (o : Option P) : uncap (cap (o.map D.p)) = o.map D.p := by cases o <;> rfl
@[simp] theorem uncap_cap_p' (x : P) : uncap (cap (some (.p x))) = some (.p x) := rfl
@[simp] theorem uncap_cap_r (i : Nat) : uncap (cap (some (.ref i))) = some (.ref i) := rfl
@[simp] theorem uncap_cap_n : uncap (cap none) = none := rfl
end Fe
namespace Fe
open PySem PySem.Spec PyProof.Rows L2
/-- "".join of signs -/
theorem asStrs_signs : ∀ l : List Nat, asStrs (l.map fun c => P.str ⟨#[c]⟩) = some (l.map fun c => (⟨#[c]⟩ : Str))
  | [] => rfl
  | c :: l => by simp [asStrs, asStrs_signs l]
theorem join_one : ∀ l : List Nat, TL.joinL [] (l.map fun c => [c]) = l
  | [] => rfl
  | [c] => rfl
  | c :: d :: l => by
    have ih := join_one (d :: l)
    simp only [List.map_cons] at ih ⊢
    show [c] ++ [] ++ TL.joinL [] ([d] :: l.map fun c => [c]) = _
    rw [ih]; rfl
theorem join_signs (l : List Nat) (h : l.length ≤ 60000) (S : Sto) : dJoin S (.p (.str "")) [.p (.lst (l.map fun c => .str ⟨#[c]⟩))] = some (.p (.str ⟨l.toArray⟩)) := by
  show joinS "" ((some (l.map fun c => P.str ⟨#[c]⟩)).bind asStrs) = _
  rw [Option.bind_some, asStrs_signs]
  have hs : ∀ l : List Nat, ((l.map fun c => (⟨#[c]⟩ : Str)).map (·.length)).sum = l.length := fun l => by
    induction l with
    | nil => rfl
    | cons c l ih =>
      simp only [List.map_cons, List.sum_cons, List.length_cons]
      rw [ih]
      show 1 + l.length = _
      omega
  have h0 : ("" : Str).length = 0 := rfl
  dsimp only [joinS]
  rw [if_pos (by rw [hs, h0]; omega)]
  have ej := SX.join_S [] (l.map fun c => [c])
  rw [List.map_map, join_one] at ej
  exact congrArg (fun z : Str => some (D.p (P.str z))) ej
end Fe
namespace Fe
open PySem PySem.Spec PyProof.Rows L2
/-! ### the law's outer loop -/
def NF (o : Option D) : Prop := ∀ a c q es σ, o ≠ some (D.fn a c q es σ)
@[simp] theorem nf_none : NF none := fun _ _ _ _ _ e => by cases e
@[simp] theorem nf_p (x : P) : NF (some (.p x)) := fun _ _ _ _ _ e => by cases e
@[simp] theorem nf_ref (i : Nat) : NF (some (.ref i)) := fun _ _ _ _ _ e => by cases e
def NoFn (env : DEnv) : Prop := ∀ o ∈ env, NF o
@[simp] theorem nofn_nil : NoFn [] := fun o h => by cases h
@[simp] theorem nofn_cons (o : Option D) (env : DEnv) : NoFn (o :: env) ↔ NF o ∧ NoFn env := by
  constructor
  · exact fun h => ⟨h o List.mem_cons_self, fun x hx => h x (List.mem_cons_of_mem _ hx)⟩
  · intro h x hx
    rcases List.mem_cons.mp hx with rfl | hx
    · exact h.1
    · exact h.2 x hx
theorem capE_nf {a c : Addr} {q : Str} {σ : List (Option V)} {env : DEnv} (h : NoFn env) : capE (.fn a c q (env.map cap) σ) = env := capE_of fun o ho => h o ho
theorem nofn_set {env : DEnv} {o : Option D} (h : NoFn env) (ho : NF o) (i : Nat) : NoFn (env.set i o) := fun x hx => by
  rcases List.mem_or_eq_of_mem_set hx with hx | rfl
  · exact h x hx
  · exact ho
theorem cutn (xs : List P) (n : Nat) : cutP xs none (some (n : Int)) = xs.take n := by
  unfold cutP
  rw [HT.sIx_none, HT.sIx_nat]
  show List.take (min n xs.length - 0) (List.drop 0 xs) = _
  rw [List.drop_zero, Nat.sub_zero]
  by_cases h : xs.length ≤ n
  · rw [Nat.min_eq_right h, List.take_length, List.take_of_length_le h]
  · rw [Nat.min_eq_left (by omega)]
abbrev cellsI (m : Int) : CI := iEnumP (cCons (cSl ((cOrT (cVar 0) (cLst (cCons (cP (.int 5)) cNil)))) oNone (oSome (cP (.int m)))) cNil)
theorem cells_src (ns : List Int) (m : Int) (hm : 1 ≤ m) : ∃ cells : List Int, (cells.length : Int) ≤ m ∧ ∀ env : DEnv, env[0]? = some (some (scriptD ns)) → cellsI m env [] = .ok (enumP 0 (cells.map P.int), ckT) [] := by
  obtain ⟨n, rfl⟩ := Int.eq_ofNat_of_zero_le (show 0 ≤ m by omega)
  have tk : ∀ xs : List P, asL1 ([] : Sto) [.p (.lst xs)] = some xs := fun xs => rfl
  cases ns with
  | nil =>
    refine ⟨[5], by simpa using hm, fun env he => ?_⟩
    have tr : truD ([] : Sto) (scriptD []) = some false := rfl
    have t1 : List.take n [P.int 5] = [P.int 5] := List.take_of_length_le (by simp; omega)
    simp [cellsI, iEnumP, cOrT, m_var 0 _ he, tr, m_lst_eq, mkLst, pureDs, pureD, cutn, tk, t1]
  | cons x ns =>
    refine ⟨(x :: ns).take n, by simp only [List.length_take]; omega, fun env he => ?_⟩
    have tr : truD ([] : Sto) (scriptD (x :: ns)) = some true := rfl
    have sl : dSl ([] : Sto) (scriptD (x :: ns)) none (some (n : Int)) = some (.p (.lst (((x :: ns).take n).map P.int))) := by
      show some (D.p (.lst (cutP ((x :: ns).map P.int) none (some (n : Int))))) = _
      rw [cutn, List.map_take]
    simp [-m_dSl_lst, cellsI, iEnumP, cOrT, m_var 0 _ he, tr, sl, tk]
theorem enum_loop {b : CS} {m : Int} {I : DEnv → Prop} (hb : ∀ (k : Nat) (cell : Int) (env : DEnv) (S : Sto), (k : Int) < m → I env → ∃ env' S', b ((env.set 1 (some (.p (.int k)))).set 2 (some (.p (.int cell)))) S = .nx env' S' ∧ I env') :
    ∀ (cells : List Int) (k : Nat) (env : DEnv) (S : Sto), (k : Int) + cells.length ≤ m → I env → ∃ env' S', forL ckT (gT 2 (gCons' (gN 1) (gCons' (gN 2) gNil'))) b (enumP k (cells.map P.int)) env S = .nx env' S' ∧ I env'
  | [], k, env, S, h, hI => ⟨env, S, rfl, hI⟩
  | x :: cells, k, env, S, h, hI => by
    simp only [List.length_cons] at h
    obtain ⟨env1, S1, e1, i1⟩ := hb k x env S (by omega) hI
    obtain ⟨env2, S2, e2, i2⟩ := enum_loop hb cells (k + 1) env1 S1 (by omega) i1
    refine ⟨env2, S2, ?_, i2⟩
    show forL ckT _ b (.tup [.int k, .int x] :: enumP (k + 1) (cells.map P.int)) env S = _
    rw [forL_nx (S1 := S) (env1 := (env.set 1 (some (.p (.int k)))).set 2 (some (.p (.int x)))) rfl e1]
    exact e2
theorem law_says {ns : List Int} {N : Nat} {m : Int} {b tail : CS} {I : DEnv → Prop} (hm : 1 ≤ m) (h0 : I (startD N [scriptD ns]))
    (hb : ∀ (k : Nat) (cell : Int) (env : DEnv) (S : Sto), (k : Int) < m → I env → ∃ env' S', b ((env.set 1 (some (.p (.int k)))).set 2 (some (.p (.int cell)))) S = .nx env' S' ∧ I env')
    (ht : ∀ (env : DEnv) (S : Sto), I env → ∃ S', tail env S = .rt (.p (.bl true)) S') : SaysTrue (cBody 1 N (sSeq (sFor (cellsI m) (gT 2 (gCons' (gN 1) (gCons' (gN 2) gNil'))) b) tail) [scriptD ns] []) := by
  obtain ⟨cells, hc, hsrc⟩ := cells_src ns m hm
  obtain ⟨env1, S1, e1, i1⟩ := enum_loop hb cells 0 (startD N [scriptD ns]) [] (by simpa using hc) h0
  obtain ⟨S2, e2⟩ := ht env1 S1 i1
  refine ⟨S2, body_rt rfl ?_⟩
  rw [m_seq, m_for, hsrc _ rfl, m_toSI_ok _ _ _ rfl, e1]
  exact e2
end Fe
namespace Fe
open PySem PySem.Spec PyProof.Rows L2
theorem sd_at {S : Sto} {p : Nat} (so : SO) (h : p < S.length) : (S.set p so)[p]? = some so := List.getElem?_set_self h
/-- a call that borrows, at a place that was written -/
theorem sd_borrow' {F : FD} {S : Sto} {p : Nat} {so so' : SO} {x : P} {k k' : Nat} (xs : List P) (hp : p < S.length) (h : Sd k so) (e : F (.ref 0 :: xs.map D.p) [so] = .ok (.p x) [so']) (h' : Sd k' so') : borrowF F (.ref p :: xs.map D.p) (S.set p so) = .ok (.p x) (S.set p so') := by
  rw [sd_borrow xs (sd_at so hp) h e h'.live, List.set_set]
end Fe

set_option Elab.async false
set_option linter.all false
set_option maxRecDepth 100000
set_option maxHeartbeats 4000000
namespace Fe
open PySem PySem.Spec PyProof.Rows L2
/-! ### int(text, 2) -/
namespace I2
open PySem.NumText
def binV (l : List Nat) : Nat := l.foldl (fun a c => a * 2 + (c - 48)) 0
def bin (l : List Nat) : Bool := l.all fun c => c == 48 || c == 49
theorem tCall (a b : Value) : checkTypeCall "int" ⟨[a, b], []⟩ = pure () := by kernel_rfl
theorem nCall (a b : Value) : checkBuiltinCall "int.__new__" ⟨[.type "int", a, b], []⟩ = pure () := by kernel_rfl
theorem dig {c : Nat} (h : c = 48 ∨ c = 49) : digit? c = some (c - 48) := by rcases h with rfl | rfl <;> rfl
theorem step2 {c : Nat} (h : c = 48 ∨ c = 49) (p : Array Nat × Bool) : step 2 p c = some (p.1.push (c - 48), true) := by
  rcases h with rfl | rfl <;> rfl
theorem fold2 : ∀ (l : List Nat) (p : Array Nat × Bool), (∀ c ∈ l, c = 48 ∨ c = 49) → l.foldlM (step 2) p = some (p.1 ++ (l.map (· - 48)).toArray, if l = [] then p.2 else true)
  | [], p, _ => by simp
  | c :: l, p, h => by
    rw [List.foldlM_cons, step2 (h c List.mem_cons_self)]
    show (l.foldlM (step 2) (p.1.push (c - 48), true)) = _
    rw [fold2 l _ fun d hd => h d (List.mem_cons_of_mem _ hd)]
    simp
theorem digs {l : List Nat} (h : ∀ c ∈ l, c = 48 ∨ c = 49) (hn : l ≠ []) : digits? 2 l = some (l.map (· - 48)).toArray := by
  unfold digits?
  rw [fold2 l _ h]
  simp [hn]
theorem dw_no {p : Nat → Bool} {l : List Nat} (h : ∀ c ∈ l, p c = false) : l.dropWhile p = l := by
  cases l with
  | nil => rfl
  | cons c l => rw [List.dropWhile_cons, h c List.mem_cons_self]; rfl
theorem tw_all {p : Nat → Bool} : ∀ {l : List Nat}, (∀ c ∈ l, p c = true) → l.takeWhile p = l
  | [], _ => rfl
  | c :: l, h => by rw [List.takeWhile_cons, h c List.mem_cons_self, if_pos rfl, tw_all fun d hd => h d (List.mem_cons_of_mem _ hd)]
theorem based2 {l : List Nat} (h : ∀ c ∈ l, c = 48 ∨ c = 49) : based 2 l = (2, false, l) := by
  match l, h with
  | [], _ => rfl
  | [c], h => rcases h c List.mem_cons_self with rfl | rfl <;> rfl
  | c :: d :: l, h => rcases h c List.mem_cons_self with rfl | rfl <;> rcases h d (.tail _ (.head _)) with rfl | rfl <;> rfl
theorem sgn {l : List Nat} (h : ∀ c ∈ l, c = 48 ∨ c = 49) : sign l = (false, l) := by
  cases l with
  | nil => rfl
  | cons c l => rcases h c List.mem_cons_self with rfl | rfl <;> rfl
theorem fold_v : ∀ (l : List Nat) (a : Nat), (l.map (· - 48)).foldl (fun acc d => acc * 2 + d) a = l.foldl (fun a c => a * 2 + (c - 48)) a
  | [], _ => rfl
  | c :: l, a => fold_v l _
theorem read2 {l : List Nat} (lim : Nat) (h : ∀ c ∈ l, c = 48 ∨ c = 49) (hn : l ≠ []) : (int_private% "readNumeral") lim 2 l = (int_private% "Numeral.value") (binV l : Int) := by
  rw [readNumeral_eq]
  have hb : ∀ c ∈ l, blank c = false := fun c hc => by rcases h c hc with rfl | rfl <;> rfl
  have hr : ∀ c ∈ l.reverse, blank c = false := fun c hc => hb c (List.mem_reverse.mp hc)
  have bd := based2 h
  rw [dw_no hb, sgn h, bd, dw_no hr, List.reverse_reverse]
  show judge lim false 2 false (digits? 2 l) = _
  rw [digs h hn]
  unfold judge
  have e : (l.map (· - 48)).toArray.foldl (fun acc d => acc * 2 + d) 0 = binV l := by
    rw [← Array.foldl_toList]
    exact fold_v l 0
  have e1 : (![2, 4, 8, 16, 32].contains 2 && lim != 0 && decide ((l.map (· - 48)).toArray.size > lim)) = false := by
    have : ([2, 4, 8, 16, 32] : List Nat).contains 2 = true := by decide
    rw [this]; rfl
  refine (if_neg (by rw [e1]; exact Bool.false_ne_true)).trans ?_
  refine (if_neg (by simp)).trans ?_
  show (if (false && _) = true then _ else _) = _
  rw [Bool.false_and]
  show (int_private% "Numeral.value") _ = _
  rw [e]
  rfl
theorem wp2 {M : Model} {A : Around} {E : Value → Shared → Prop} {s : Shared} {Q : Value → Shared → Prop} {v : Value} {text : List Nat} {n : Int}
    (hs : (text.takeWhile (· != 0)).length ≤ 640) (hr : (int_private% "readNumeral") 0 2 (text.takeWhile (· != 0)) = (int_private% "Numeral.value") n)
    (ha : ((text.takeWhile (· != 0)).length == text.length) = true) (h : Q (.int n s.toks) { s with toks := s.toks + 1 }) :
    wpAny M A ((int_private% "intFromText") v text 2) Q E s := by
  obtain ⟨hp, g, d, tk, os⟩ := s
  repeat (any_goals (first
    | assumption
    | (with_reducible refine wpAny_ite_true (decide_eq_true hs) ?_)
    | (with_reducible refine wpAny_ite_true (decide_eq_true ha) ?_)
    | wp_step))
  all_goals (try rw [hr])
  all_goals (try dsimp only)
  repeat (any_goals (first
    | assumption
    | (with_reducible refine wpAny_ite_true (decide_eq_true hs) ?_)
    | (with_reducible refine wpAny_ite_true (decide_eq_true ha) ?_)
    | wp_step))
theorem gives2 {x : PySem.Str} {u u2 : Tok} (hl : x.length ≤ 640) (hb : bin x.cps.toList = true) (hn : x.cps.toList ≠ []) : Gives (Builtin.«int.__new__» ⟨[.type "int", .str x u, .int 2 u2], []⟩) (.int (binV x.cps.toList : Int)) :=
  .of_wp fun M A E s Q h => by
    obtain ⟨hp, g, d, tk, os⟩ := s
    have hb' : ∀ c ∈ x.cps.toList, c = 48 ∨ c = 49 := fun c hc => by
      have := List.all_eq_true.mp hb c hc
      simpa using this
    have f1 := F.conv_sub_int
    have f2 := F.madeHere_int
    have f6 : typeOf (.str x u) = pure (.type "str") := rfl
    have et : numTextOf x = x.cps.toList := by
      unfold numTextOf
      rw [if_pos]
      rw [← Array.all_toList, List.all_eq_true]
      intro c hc
      rcases hb' c hc with e | e <;> rw [e] <;> rfl
    have es : numSeenOf x = x.cps.toList := by
      show (numTextOf x).takeWhile (· != 0) = _
      rw [et]
      exact tw_all fun c hc => by rcases hb' c hc with e | e <;> rw [e] <;> rfl
    have h1 : (numSeenOf x).length ≤ 640 := by rw [es]; simpa [Str.length] using hl
    have h2 : (int_private% "readNumeral") 0 2 (numSeenOf x) = (int_private% "Numeral.value") (binV x.cps.toList : Int) := by rw [es]; exact read2 0 hb' hn
    have h3 : ((numSeenOf x).length == (numTextOf x).length) = true := by rw [es, et]; simp
    have hk := PySem.W.KIN.Hid.mk (And.intro h1 (And.intro h2 h3))
    clear h1 h2 h3 hb' hb hn et es hl
    repeat (any_goals (first
      | assumption
      | ((with_reducible show wpAny _ _ ((int_private% "intFromText") _ _ _) _ _ _); refine wp2 hk.out.1 hk.out.2.1 hk.out.2.2 ?_)
      | wp_step))
    all_goals first | exact ⟨_, rfl, h⟩ | skip
end I2
end Fe

set_option Elab.async false
set_option linter.all false
set_option maxRecDepth 100000
set_option maxHeartbeats 4000000
namespace Fe
open PySem PySem.Spec PyProof.Rows L2
section
variable {G : Gc} {X : Cx} {k : Nat}
def dInt2 (S : Sto) : List D → Option D
  | [.p (.str z), .p (.int 2)] => if z.length ≤ 640 ∧ I2.bin z.cps.toList = true ∧ z.cps.toList ≠ [] then some (.p (.int (I2.binV z.cps.toList : Int))) else none
  | _ => none
theorem c_int2 : CallR X (.type "int") (vsD G dInt2) := by
  intro pins s σ H xs us Q I rs h'
  obtain ⟨Z, S, W, ds, d, rfl, st, rd, e, q⟩ := h'
  unfold dInt2 at e
  split at e
  · rename_i z
    split at e
    · rename_i hz
      cases e
      match xs, rd with
      | [a, b], rd =>
        have ra := rd.1
        have rb := rd.2.1
        cases rs with
        | cons r1 rs =>
          cases rs with
          | cons r2 rs =>
            cases rs
            rw [rep_str ra] at r1
            rw [rep_int rb] at r2
            obtain ⟨t1, rfl⟩ := r1
            obtain ⟨t2, rfl⟩ := r2
            exact callType_new F.called_int F.newNe_int (I2.tCall _ _) (I2.nCall _ _) (fun obj => F.args_object_init_3 obj _ _) F.entry_int_new (I2.gives2 hz.1 hz.2.1 hz.2.2).meets
              (show (Made.int _).post _ s from ⟨rfl, .int (I2.binV z.cps.toList : Int), W.H, I.tok _, ⟨_, rfl⟩, q _ W (Go.refl _ _) st (mk_int _)⟩)
      | [], rd => exact rd.elim
      | [_], rd => exact rd.2.elim
      | _ :: _ :: _ :: _, rd => exact rd.2.2.elim
    · cases e
  · cases e
def nn : PyData → Bool
  | .none => false
  | _ => true
/-- x < y, x <= y of alike data -/
def dLtD (S : Sto) (x y : D) : Option D := match toPyD S x, toPyD S y with
  | some a, some b => if PySem.W.alike a b = true ∧ nn a = true ∧ a.depth < 100 then some (.p (.bl (PySem.W.dataLt a b))) else none
  | _, _ => none
theorem v_ltD (cg : CtxG G X k) : OpR X (compareOp .Lt) (v2D G dLtD) := by
  intro pins s σ H x y v u Q I rx ry h'
  obtain ⟨Z, S, W, d1, d2, d, rfl, st, r1, r2, e, q⟩ := h'
  unfold dLtD at e
  split at e
  · rename_i a b ha hb
    split at e
    · rename_i hc
      cases e
      obtain ⟨as, ra⟩ := Dp.reads I a x v (toPyD_dp cg.kk st ha r1) rx
      obtain ⟨bs, rb⟩ := Dp.reads I b y u (toPyD_dp cg.kk st hb r2) ry
      refine PySem.W.lt_data ra rb hc.1 (fun z => by rw [z] at hc; exact absurd hc.2.1 (by decide)) ?_ ⟨.bl (PySem.W.dataLt a b), W.H, I, rfl, q _ W (Go.refl _ _) st (mk_bl _)⟩
      have := cg.room.un
      have := Nat.min_le_left a.depth b.depth
      omega
    · cases e
  · cases e
end
end Fe

set_option Elab.async false
set_option linter.all false
set_option maxRecDepth 100000
set_option maxHeartbeats 1000000
namespace Fe
open PySem PySem.Spec PyProof.Rows L2
/-! ### dicts whose keys are ints and texts: get with a default, dict of a list of pairs -/
section
variable {G : Gc} {Wx : WX} {Z : Addr → Prop} {W : Wd} {S : Sto} {σ : L2.St} {X : Cx} {k : Nat}
def dctOf (S : Sto) : D → Option (List P × List P)
  | .p (.dct ks vs) => some (ks, vs)
  | .ref i => match S[i]? with
    | some (.dct ks vs) => some (ks, vs)
    | _ => none
  | _ => none
def getKP : List Key → List P → Key → Option P
  | q :: qs, v :: vs, key => if q = key then some v else getKP qs vs key
  | _, _, _ => none
theorem getKP_rep : ∀ {kk : List Key} {vs : List P} {us : List V} (key : Key), Reps G W vs us → kk.length = us.length → (∀ p, getKP kk vs key = some p → ∃ u, valV (kk.zip us) key = some u ∧ Rep G W p u) ∧ (getKP kk vs key = none → valV (kk.zip us) key = none)
  | [], [], [], key, _, _ => ⟨fun p e => by simp [getKP] at e, fun _ => rfl⟩
  | q :: qs, v :: vs, u :: us, key, r, l => by
    simp only [Reps] at r
    have ih := getKP_rep key r.2 (kk := qs) (by simpa using l)
    rw [List.zip_cons_cons]
    by_cases h : q = key
    · have e1 : getKP (q :: qs) (v :: vs) key = some v := by simp [getKP, h]
      rw [e1, valV_pos (p := (q, u)) h]
      exact ⟨fun p e => by cases e; exact ⟨u, rfl, r.1⟩, fun e => by cases e⟩
    · have e1 : getKP (q :: qs) (v :: vs) key = getKP qs vs key := by simp [getKP, h]
      have e2 : valV ((q, u) :: qs.zip us) key = valV (qs.zip us) key := by simp [valV, List.find?_cons, h]
      rw [e1, e2]
      exact ih
  | [], _ :: _, [], key, r, _ => by simp [Reps] at r
  | [], [], _ :: _, key, r, _ => by simp [Reps] at r
  | [], _ :: _, _ :: _, key, r, l => by simp at l
  | _ :: _, [], [], key, r, l => by simp at l
  | _ :: _, [], _ :: _, key, r, _ => by simp [Reps] at r
  | _ :: _, _ :: _, [], key, r, _ => by simp [Reps] at r
def isPl : D → Bool
  | .ref _ => true
  | _ => false
theorem dctOf_rep (st : StRep G W Z S) {d : D} {v : V} {ks vs : List P} {kk : List Key} (e : dctOf S d = some (ks, vs)) (ek : keysD ks = some kk) (r : RepD G W d v) : ∃ a us, v = .ref a ∧ Reps G W vs us ∧ kk.length = us.length ∧ (Rd W.H a (.dK (kk.zip us)) ∨ (ks = [] ∧ isPl d = false)) := by
  have emp : ∀ {kt : List (List Key)}, tkeysD ks = some kt → ks = [] ∧ kt = [] := fun {kt} h => by
    cases ks with
    | nil => cases h; exact ⟨rfl, rfl⟩
    | cons x xs =>
      cases x <;> simp [tkeysD] at h
      simp [keysD, keyD] at ek
  cases d with
  | fn _ _ _ _ _ => simp [dctOf] at e
  | p x =>
    cases x <;> simp [dctOf] at e
    obtain ⟨rfl, rfl⟩ := e
    simp only [RepD, Rep] at r
    obtain ⟨a, us, rfl, t, rr⟩ := r
    rcases t with ⟨_, kk', h1, h2, h3⟩ | ⟨_, kt, h1, h2, h3⟩
    · rw [ek] at h1; cases h1
      exact ⟨a, us, rfl, rr, h2, .inl h3⟩
    · obtain ⟨rfl, rfl⟩ := emp h1
      cases ek
      have : us = [] := by cases us <;> simp at h2 ⊢
      subst this
      exact ⟨a, [], rfl, rr, rfl, .inr ⟨rfl, rfl⟩⟩
  | ref i =>
    simp only [dctOf] at e
    split at e
    · rename_i ks' vs' hs
      cases e
      obtain ⟨_, _, us, rr, t⟩ := st.obj i _ hs rfl
      have rv := r.2
      subst rv
      rcases t with ⟨kk', h1, h2, h3⟩ | ⟨hne, kt, h1, h2, h3⟩
      · rw [ek] at h1; cases h1
        exact ⟨_, us, rfl, rr, h2, .inl (.inl h3)⟩
      · exact absurd (emp h1).1 hne
    · cases e
def dGetK (S : Sto) (o x z : D) : Option D := match dctOf S o, x with
  | some (ks, vs), .p q => match keysD ks, keyD q with
    | some kk, some key => if ks = [] ∧ isPl o = false then none else some (match getKP kk vs key with
      | some p => .p p
      | none => z)
    | _, _ => none
  | _, _ => none
def cGet2 (fo fk fz : CE') : CE' := fun env S => (fo env S).bind fun o S1 => if (dctOf S1 o).isSome = true then (fk env S1).bind fun x S2 => (fz env S2).bind fun z S3 => R.ofO S3 (dGetK S3 o x z) else .bad
theorem key_rep {q : P} {key : Key} {v : V} (e : keyD q = some key) (r : Rep G W q v) : v = kV key := by
  cases q <;> simp [keyD] at e
  · subst e; simp only [Rep] at r; exact r
  · subst e; simp only [Rep] at r; exact r
theorem dct_isD (st : StRep G W Z S) {d : D} {v : V} (e : (dctOf S d).isSome = true) (r : RepD G W d v) : ∃ a, v = .ref a ∧ IsD W.H a := by
  cases d with
  | fn _ _ _ _ _ => simp [dctOf] at e
  | p x =>
    cases x <;> simp [dctOf] at e
    simp only [RepD, Rep] at r
    obtain ⟨a, us, rfl, t, rr⟩ := r
    rcases t with ⟨_, kk', h1, h2, h3⟩ | ⟨_, kt, h1, h2, h3⟩
    · exact ⟨a, rfl, .inl ⟨_, h3⟩⟩
    · exact ⟨a, rfl, .inr ⟨_, h3⟩⟩
  | ref i =>
    simp only [dctOf] at e
    split at e
    · rename_i ks' vs' hs
      obtain ⟨_, _, us, rr, t⟩ := st.obj i _ hs rfl
      have rv := r.2
      subst rv
      rcases t with ⟨kk', h1, h2, h3⟩ | ⟨_, kt, h1, h2, h3⟩
      · exact ⟨_, rfl, .inl ⟨_, .inl h3⟩⟩
      · exact ⟨_, rfl, .inr ⟨_, .inl h3⟩⟩
    · cases e
theorem pf_get2 {o e f : Expr} {fo fk fz : CE'} {apos cpos : Pos} (cg : CtxG G X k) (ho : PF G X o fo) (he : PF G X e fk) (hf : PF G X f fz)
    (m : M2 X o "get" apos e f cpos := by exact ⟨by rfl, by rfl, by rfl, by rfl⟩) : PF G X (.Call (.Attribute o "get" apos) [e, f] [] cpos) (cGet2 fo fk fz) := fun Wx tk => by
  have hu : X.A.units + 1 < cLine := by
    have := cg.room.un
    omega
  refine PE.imp (pe_dget2 hu (ho Wx tk) (he Wx tk) (hf Wx tk) m) fun σ H Q h => ?_
  obtain ⟨Z, S, W, env, rfl, st, er, pp⟩ := h
  refine ⟨Z, S, W, env, rfl, st, er, (seqEE pp).mono fun v H1 h1 => ?_⟩
  obtain ⟨d1, S1, W1, rfl, go1, st1, r1, p1⟩ := h1
  split at p1
  case isFalse => exact p1.elim
  rename_i hd
  obtain ⟨a, rfl, hD⟩ := dct_isD st1 hd r1
  refine ⟨a, rfl, hD, Z, S1, W1, env, rfl, st1, er.ext go1.toExt, (seqEE p1).mono fun y H2 h2 => ?_⟩
  obtain ⟨d2, S2, W2, rfl, go2, st2, r2, p2⟩ := h2
  refine ⟨Z, S2, W2, env, rfl, st2, er.ext (go1.trans go2).toExt, (seqEE p2).mono fun z H3 h3 => ?_⟩
  obtain ⟨d3, S3, W3, rfl, go3, st3, r3, p3⟩ := h3
  obtain ⟨d, ed, q⟩ := ofO_post p3
  have r1' := RepD.ext (go2.trans go3).toExt r1
  have r2' := RepD.ext go3.toExt r2
  unfold dGetK at ed
  split at ed
  case h_2 => cases ed
  rename_i ks vs qk e1
  split at ed
  case h_2 => cases ed
  rename_i kk key e2 e3
  split at ed
  · cases ed
  · rename_i hne
    obtain ⟨a', us, ea, rr, hl, hR⟩ := dctOf_rep st3 e1 e2 r1'
    cases ea
    have ey := key_rep e3 r2'
    have hR : Rd W3.H a (.dK (kk.zip us)) := hR.resolve_right fun z => hne z
    obtain ⟨g1, g2⟩ := getKP_rep key rr hl
    refine ⟨_, .inl ⟨_, key, hR, ey, rfl⟩, ?_⟩
    cases hg : getKP kk vs key with
    | some p =>
      rw [hg] at ed
      cases ed
      obtain ⟨u, h1, h2⟩ := g1 p hg
      rw [h1]
      exact q u W3 (Go.refl _ _) st3 h2
    | none =>
      rw [hg] at ed
      cases ed
      rw [g2 hg]
      exact q z W3 (Go.refl _ _) st3 r3
/-- dict(pairs), the keys apart -/
def pairsP : List P → Option (List P × List P)
  | [] => some ([], [])
  | .tup [q, v] :: ps => match keyD q, pairsP ps with
    | some _, some (ks, vs) => some (q :: ks, v :: vs)
    | _, _ => none
  | _ => none
theorem put_new {kvs : List (Key × V)} {q : Key} {v : V} (h : q ∉ kvs.map (·.1)) : putK kvs q v = kvs ++ [(q, v)] := by
  unfold putK
  rw [if_neg]
  intro e
  obtain ⟨p, hp, hq⟩ := List.any_eq_true.mp e
  exact h (List.mem_map.mpr ⟨p, hp, by simpa using hq⟩)
theorem merge_new : ∀ (more kvs : List (Key × V)), ((kvs ++ more).map (·.1)).Nodup → mergeK kvs more = kvs ++ more
  | [], kvs, _ => by simp [mergeK]
  | (q, v) :: more, kvs, h => by
    have hq : q ∉ kvs.map (·.1) := by
      intro hm
      rw [List.map_append, List.nodup_append] at h
      exact h.2.2 q hm q (by simp) rfl
    show mergeK (putK kvs q v) more = _
    rw [put_new hq, merge_new more (kvs ++ [(q, v)]) (by simpa using h)]
    simp
theorem pairs_rep {K : PySem.W.Frag} (hk : K = G.K) : ∀ {prs ks vs : List P} {us : List V}, pairsP prs = some (ks, vs) → Reps G W prs us → ∃ (kk : List Key) (ps : List Addr) (ws : List V), keysD ks = some kk ∧ us = ps.map V.ref ∧ kk.length = ws.length ∧ Reps G W vs ws ∧ Paired (fun p (kv : Key × V) => SqT K W.H p [kV kv.1, kv.2]) ps (kk.zip ws)
  | [], ks, vs, us, e, r => by
    cases e
    cases us with
    | nil => exact ⟨[], [], [], rfl, rfl, rfl, by simp only [Reps], .nil⟩
    | cons => simp [Reps] at r
  | x :: prs, ks, vs, us, e, r => by
    unfold pairsP at e
    split at e
    · rename_i hh
      cases hh
    · rename_i q v ps heq
      cases heq
      split at e
      · rename_i key ks' vs' e1 e2
        cases e
        cases us with
        | nil => simp [Reps] at r
        | cons u us =>
          simp only [Reps] at r
          obtain ⟨kk, qs, ws, h1, h2, h3, h4, h5⟩ := pairs_rep hk e2 r.2
          have r0 := r.1
          simp only [Rep] at r0
          obtain ⟨a, ts, rfl, t, rt⟩ := r0
          match ts, rt with
          | [t1, t2], rt =>
            simp only [Reps] at rt
            have ek := key_rep e1 rt.1
            refine ⟨key :: kk, a :: qs, t2 :: ws, by simp [keysD, e1, h1], by simp [h2], by simp [h3], by simp only [Reps]; exact ⟨rt.2.1, h4⟩, ?_⟩
            rw [List.zip_cons_cons]
            refine .cons ?_ h5
            subst ek
            exact t.sq hk
          | [], rt => simp [Reps] at rt
          | [_], rt => simp [Reps] at rt
          | _ :: _ :: _ :: _, rt => simp [Reps] at rt
      · cases e
    · cases e
def dDict (S : Sto) (x : D) : Option D := match (asL S x).bind pairsP with
  | some (ks, vs) => match keysD ks with
    | some kk => if kk.Nodup then some (.p (.dct ks vs)) else none
    | none => none
  | none => none
theorem c_dictP (cg : CtxG G X k) : CallR X (.type "dict") (vsD G (on1 dDict)) := callOf1 (call_dictP cg.calm) fun Q Z S W d1 d x st r1 e q => by
  unfold dDict at e
  split at e
  · rename_i ks vs hp
    obtain ⟨prs, hl, hp⟩ := Option.bind_eq_some_iff.mp hp
    split at e
    · rename_i kk hk
      split at e
      · rename_i hn
        cases e
        obtain ⟨a, us, rfl, t, r⟩ := asL_rep cg.kk st hl r1
        obtain ⟨kk', ps, ws, h1, h2, h3, h4, h5⟩ := pairs_rep cg.kk hp r
        rw [hk] at h1
        cases h1
        subst h2
        refine ⟨a, ps, kk.zip ws, rfl, t, h5, fun p np => ?_⟩
        have em : mergeK [] (kk.zip ws) = kk.zip ws := by
          refine merge_new _ _ ?_
          rw [List.nil_append]
          have : (kk.zip ws).map (·.1) = kk := by
            rw [List.map_fst_zip]
            omega
          rw [this]
          exact hn
        rw [em]
        have gp := put_go st np (.dK (kk.zip ws))
        refine q (.ref p) (W.put p (.dK (kk.zip ws))) gp (put_st st np _) ?_
        simp only [RepD, Rep]
        exact ⟨p, ws, rfl, .inl ⟨put_nu st np, kk, hk, h3, .inl put_at⟩, Reps.ext gp.toExt _ h4⟩
      · cases e
    · cases e
  · cases e
end
end Fe

set_option Elab.async false
set_option linter.all false
set_option maxRecDepth 100000
set_option maxHeartbeats 1000000
namespace Fe
open PySem PySem.Spec PyProof.Rows L2
/-! ### a call with keywords alone, in any order -/
def permL {α : Type} (ix : List Nat) (l : List α) : List α := ix.filterMap fun i => l[i]?
theorem permL_cons {α : Type} (i : Nat) (ix : List Nat) (l : List α) : permL (i :: ix) l = match l[i]? with
    | some a => a :: permL ix l
    | none => permL ix l := by
  unfold permL
  rw [List.filterMap_cons]
  cases l[i]? <;> rfl
theorem perm_vals {vs : List V} {us : List Value} (r : Vals vs us) : ∀ ix : List Nat, Vals (permL ix vs) (permL ix us)
  | [] => .nil
  | i :: ix => by
    have hl := Paired.length r
    rw [permL_cons, permL_cons]
    cases hv : vs[i]? with
    | none =>
      have : us[i]? = none := by
        rw [List.getElem?_eq_none_iff] at hv ⊢
        omega
      rw [this]
      exact perm_vals r ix
    | some v =>
      obtain ⟨u, hu, ruv⟩ : ∃ u, us[i]? = some u ∧ RelV v u := by
        clear hl
        induction r generalizing i with
        | nil => simp at hv
        | @cons x y xs ys hxy _ ih =>
          cases i with
          | zero => simp at hv; subst hv; exact ⟨y, rfl, hxy⟩
          | succ i => simpa using ih i (by simpa using hv)
      rw [hu]
      exact .cons ruv (perm_vals r ix)
theorem perm_reps {G : Gc} {W : Wd} {ds : List D} {vs : List V} (r : RepDs G W ds vs) : ∀ ix : List Nat, RepDs G W (permL ix ds) (permL ix vs)
  | [] => True.intro
  | i :: ix => by
    have hl := RepDs.length r
    rw [permL_cons, permL_cons]
    cases hv : ds[i]? with
    | none =>
      have : vs[i]? = none := by
        rw [List.getElem?_eq_none_iff] at hv ⊢
        omega
      rw [this]
      exact perm_reps r ix
    | some d =>
      obtain ⟨u, hu, ruv⟩ : ∃ u, vs[i]? = some u ∧ RepD G W d u := by
        clear hl
        induction ds generalizing i vs with
        | nil => simp at hv
        | cons x xs ih =>
          match vs, r with
          | y :: ys, r =>
            cases i with
            | zero => simp at hv; subst hv; exact ⟨y, rfl, r.1⟩
            | succ i => simpa using ih r.2 i (by simpa using hv)
      rw [hu]
      exact ⟨ruv, perm_reps r ix⟩
structure KBp (K : PySem.W.Frag) (fd : FuncData) (ps ks : List Str) (ix : List Nat) : Prop where
  to : ∀ (s : Shared) (ws : List Value), K.In s.heap → ws.length = ks.length → (permL ix ws).length = ps.length → BindsTo s fd ⟨[], ks.zip ws⟩ (ps.zip (permL ix ws))
section
variable {G : Gc} {X : Cx} {k j : Nat} {f : Addr} {fd : FuncData} {ps : List Str} {Fd : FD}
def cCallP (nk : Nat) (ix : List Nat) (Fd : FD) (fk : CA) : CE' := fun env S => (fk env S).bind fun es S2 => if es.length = nk then Fd (permL ix es) S2 else .bad
theorem pf_callP {x : Str} {p pos : Pos} {kws : List Keyword} {ks : List Str} {ix : List Nat} {fk : CA} (F : FnG X.prog X.w G X.mg X.base j f fd ps Fd) (cg : CtxG G X k) (hj : j ≤ k) (hg : Gl X x) (hm : X.mg x = some (.ref f)) (hk : PySem.W.keepIn G.K (.ref f) = true)
    (hb : KBp G.K fd ps ks ix) (hkw : PFK G X kws fk) (hall : (backToKw pos (keywordEach kws X.env)).all (·.1.isSome) = true := by rfl) (hks : (backToKw pos (keywordEach kws X.env)).filterMap (·.1) = ks := by rfl)
    (hdb : (x == ("__debug__" : Str)) = false := by decide)
    (hpl : ((backTo pos (starEach [] X.env)).any (·.1) || (backToKw pos (keywordEach kws X.env)).any (·.1.isNone)) = false := by rfl) : PF G X (.Call (.Name x p) [] kws pos) (cCallP ks.length ix Fd fk) := fun Wx tk => by
  refine ⟨fun pins s σ H Q I h => ?_⟩
  refine wpAny_Call_Name_kw (ld_glob I hg hm ?_ hdb)
  obtain ⟨Z, S, W, env, rfl, st, er, p1⟩ := h
  refine PySem.W.callWith_KW0 (h₀ := X.base) I.ok.mod.kin (by rw [cg.kk]; exact hk) hall ?_ hpl
  refine thn ((hkw Wx tk).run pos pins s σ W.H _ I ⟨Z, S, W, env, rfl, st, er, seqAE p1⟩) fun ws s2 h2 => ?_
  obtain ⟨zs, H2, I2, rz, es2, S2, W2, rfl, go2, st2, re, p2⟩ := h2
  split at p2
  case isFalse => exact p2.elim
  rename_i hnk
  have hw : ws.length = ks.length := by rw [← rz.length, ← re.length]; exact hnk
  refine ⟨I2.kIn, ?_⟩
  rw [hks]
  have rd2 := perm_reps re ix
  have r2 := perm_vals rz ix
  have hl : (permL ix ws).length = ps.length := by rw [← r2.length, ← rd2.length]; exact lenOk F p2
  have kin : G.K.In s2.heap := cg.kk ▸ I2.kIn
  exact wp_of_code (run_fnG F cg hj tk (hb.to s2 ws kin hw hl) I2 r2 st2 rd2 p2)
end
end Fe

set_option Elab.async false
set_option linter.all false
set_option maxRecDepth 100000
set_option maxHeartbeats 4000000
namespace Fe
open PySem PySem.Spec PyProof.Rows L2
/-! ### int(text, 2), texts of any length: the limit of digits is not set in the written part -/
structure NoDig (K : PySem.W.Frag) : Prop where
  ok : PySem.W.nsOkIn K cStatics = true
  no : PySem.W.nsIn K cStatics "sys.int_max_str_digits" = some none
theorem NoDig.heap {K : PySem.W.Frag} {h : Heap} (x : NoDig K) (X : K.In h) : h.NoDigits := ⟨_, .of_isNs (PySem.W.isNs_of_in X x.ok), PySem.W.nsMap_none_of_in X x.ok x.no⟩
namespace I2
open PySem.NumText
theorem wp2L {M : Model} {A : Around} {E : Value → Shared → Prop} {s : Shared} {Q : Value → Shared → Prop} {v : Value} {text : List Nat} {n : Int}
    (hd : s.heap.NoDigits) (hr : ∀ lim, (int_private% "readNumeral") lim 2 (text.takeWhile (· != 0)) = (int_private% "Numeral.value") n)
    (ha : ((text.takeWhile (· != 0)).length == text.length) = true) (h : Q (.int n s.toks) { s with toks := s.toks + 1 }) :
    wpAny M A ((int_private% "intFromText") v text 2) Q E s := by
  by_cases hs : (text.takeWhile (· != 0)).length ≤ 640
  · exact wp2 hs (hr 0) ha h
  have hs := decide_eq_false hs
  have hi : ∀ {Q : Nat → Shared → Prop}, Q 4300 s → wpAny M A Builtin.intMaxStrDigits Q E s := fun {Q} q => by
    obtain ⟨mc, hns, hnone⟩ := hd
    unfold Builtin.intMaxStrDigits
    refine wpAny_bind (wpAny_nsGet hns ?_)
    rw [hnone]
    exact wpAny_pure q
  clear hd
  obtain ⟨hp, g, d, tk, os⟩ := s
  repeat (any_goals (first
    | assumption
    | (with_reducible refine wpAny_ite_false hs ?_)
    | (with_reducible show wpAny _ _ Builtin.intMaxStrDigits _ _ _; refine hi ?_)
    | (with_reducible refine wpAny_ite_true (decide_eq_true ha) ?_)
    | wp_step))
  all_goals (try rw [hr])
  all_goals (try dsimp only)
  repeat (any_goals (first
    | assumption
    | (with_reducible refine wpAny_ite_false hs ?_)
    | (with_reducible refine wpAny_ite_true (decide_eq_true ha) ?_)
    | wp_step))
theorem meets2L {x : PySem.Str} {u u2 : Tok} (hb : bin x.cps.toList = true) (hn : x.cps.toList ≠ []) : Meets (Builtin.«int.__new__» ⟨[.type "int", .str x u, .int 2 u2], []⟩) (fun A R s => s.heap.NoDigits ∧ R (.ok (.ret (.int (binV x.cps.toList : Int) s.toks))) { s with toks := s.toks + 1 }) :=
  fun prog w A R s ⟨hd, h⟩ => by
    obtain ⟨hp, g, d, tk, os⟩ := s
    have hb' : ∀ c ∈ x.cps.toList, c = 48 ∨ c = 49 := fun c hc => by
      have := List.all_eq_true.mp hb c hc
      simpa using this
    have f1 := F.conv_sub_int
    have f2 := F.madeHere_int
    have f6 : typeOf (.str x u) = pure (.type "str") := rfl
    have et : numTextOf x = x.cps.toList := by
      unfold numTextOf
      rw [if_pos]
      rw [← Array.all_toList, List.all_eq_true]
      intro c hc
      rcases hb' c hc with e | e <;> rw [e] <;> rfl
    have es : numSeenOf x = x.cps.toList := by
      show (numTextOf x).takeWhile (· != 0) = _
      rw [et]
      exact tw_all fun c hc => by rcases hb' c hc with e | e <;> rw [e] <;> rfl
    have h2 : ∀ lim, (int_private% "readNumeral") lim 2 (numSeenOf x) = (int_private% "Numeral.value") (binV x.cps.toList : Int) := fun lim => by rw [es]; exact read2 lim hb' hn
    have h3 : ((numSeenOf x).length == (numTextOf x).length) = true := by rw [es, et]; simp
    have hk := PySem.W.KIN.Hid.mk (And.intro hd (And.intro h2 h3))
    clear hd h2 h3 hb' hb hn et es
    repeat (any_goals (first
      | assumption
      | ((with_reducible show wpAny _ _ ((int_private% "intFromText") _ _ _) _ _ _); refine wp2L hk.out.1 hk.out.2.1 hk.out.2.2 ?_)
      | wp_step))
    all_goals first | exact ⟨_, rfl, h⟩ | exact h | skip
end I2
section
variable {G : Gc} {X : Cx} {k : Nat}
def dInt2L (S : Sto) : List D → Option D
  | [.p (.str z), .p (.int 2)] => if I2.bin z.cps.toList = true ∧ z.cps.toList ≠ [] then some (.p (.int (I2.binV z.cps.toList : Int))) else none
  | _ => none
theorem c_int2L (nd : NoDig G.K) (cg : CtxG G X k) : CallR X (.type "int") (vsD G dInt2L) := by
  intro pins s σ H xs us Q I rs h'
  obtain ⟨Z, S, W, ds, d, rfl, st, rd, e, q⟩ := h'
  unfold dInt2L at e
  split at e
  · rename_i z
    split at e
    · rename_i hz
      cases e
      match xs, rd with
      | [a, b], rd =>
        have ra := rd.1
        have rb := rd.2.1
        cases rs with
        | cons r1 rs =>
          cases rs with
          | cons r2 rs =>
            cases rs
            rw [rep_str ra] at r1
            rw [rep_int rb] at r2
            obtain ⟨t1, rfl⟩ := r1
            obtain ⟨t2, rfl⟩ := r2
            have hd : s.heap.NoDigits := nd.heap (cg.kk ▸ I.kIn)
            exact callType_new F.called_int F.newNe_int (I2.tCall _ _) (I2.nCall _ _) (fun obj => F.args_object_init_3 obj _ _) F.entry_int_new (I2.meets2L hz.1 hz.2)
              ⟨hd, rfl, .int (I2.binV z.cps.toList : Int), W.H, I.tok _, ⟨_, rfl⟩, q _ W (Go.refl _ _) st (mk_int _)⟩
      | [], rd => exact rd.elim
      | [_], rd => exact rd.2.elim
      | _ :: _ :: _ :: _, rd => exact rd.2.2.elim
    · cases e
  · cases e
end
end Fe

set_option Elab.async false
set_option linter.all false
set_option maxRecDepth 100000
set_option maxHeartbeats 4000000
namespace Fe
open PySem PySem.Spec PyProof.Rows L2
/-! ### a list of the store walked while it stays as it is -/
noncomputable section
def ckR (i : Nat) (xs : List P) (S : Sto) : Bool := @decide (S[i]? = some (.lst xs)) (Classical.propDecidable _)
def srcR (S : Sto) : D → Option (List P × (Sto → Bool))
  | .ref i => match S[i]? with
    | some (.lst xs) => some (xs, ckR i xs)
    | _ => none
  | d => srcG S d
def iRef (f : CE') : CI := fun env S => (f env S).bind fun d S1 => R.ofO S1 (srcR S1 d)
end
section
variable {G : Gc} {X : Cx} {k : Nat}
theorem itd_ref {i : Nat} {xs : List P} {W0 : Wd} (hi : i < W0.n) : ItD G W0 (Itl X.K (W0.ρ i)) xs (ckR i xs) := fun Z W S ex st hc => by
  have hs : S[i]? = some (.lst xs) := by
    unfold ckR at hc
    exact @of_decide_eq_true _ (Classical.propDecidable _) hc
  obtain ⟨_, _, vs, hH, r1⟩ := st.obj i _ hs rfl
  rw [ex.rho i hi] at hH
  have l1 : SqL X.K W.H (W0.ρ i) vs := .inl (.inl hH)
  have len := Reps.length _ _ r1
  refine ⟨fun i hi => ⟨vs, vs[i]'(by omega), l1, List.getElem?_eq_getElem _⟩, ⟨vs, l1, by omega⟩, fun i d x H' e hy => ?_⟩
  obtain ⟨rfl, hx⟩ := hy
  obtain ⟨v, hv, rv⟩ := Reps.get _ _ r1 e
  have := hx vs l1
  rw [hv] at this
  cases this
  exact ⟨W, rfl, Go.refl _ _, st, rv⟩
theorem pfi_ref {tg e : Expr} {f : CE'} (cg : CtxG G X k) (he : PF G X e f) : PFI G X tg e (iRef f) := pi_val he fun pins s σ v u Z S W d ds chk Rr E I rv st r e q => by
  unfold srcR at e
  split at e
  · rename_i i
    split at e
    · rename_i xs hs
      cases e
      obtain ⟨hn, rfl⟩ := r
      obtain ⟨_, _, vs, hH, r1⟩ := st.obj i _ hs rfl
      cases rv
      exact piL I (.inl (.inl hH)) (q _ W (Go.refl _ _) st (itd_ref hn))
    · cases e
  · unfold srcG at e
    obtain ⟨xs, h, e⟩ := Option.map_eq_some_iff.mp e
    cases e
    unfold itemsOf at h
    split at h
    · cases h
      obtain ⟨a, vs, rfl, t, r⟩ := rep_lst r
      cases rv
      exact piL I t.sq (q _ W (Go.refl _ _) st (itd_lst (fun W' x => (t.ext x).sq) r))
    · cases h
      simp only [RepD, Rep] at r
      obtain ⟨a, vs, rfl, t, r⟩ := r
      cases rv
      exact piL I (t.sq cg.kk) (q _ W (Go.refl _ _) st (itd_lst (fun W' x => (t.ext x).sq cg.kk) r))
    · cases h
      obtain ⟨a, vs, rfl, t, r⟩ := rep_tup r
      cases rv
      exact piT I (t.sq cg.kk) (q _ W (Go.refl _ _) st (itd_tup cg t r))
    · cases h
end
@[simp] theorem m_iref {env : DEnv} {S : Sto} (f) : iRef f env S = (f env S).bind fun d S1 => R.ofO S1 (srcR S1 d) := (rfl)
theorem m_src_ref {S : Sto} {i : Nat} {xs : List P} (h : S[i]? = some (.lst xs)) : srcR S (.ref i) = some (xs, ckR i xs) := by
  unfold srcR
  simp only [h]
theorem ckR_ok {S : Sto} {i : Nat} {xs : List P} (h : S[i]? = some (.lst xs)) : ckR i xs S = true := by
  unfold ckR
  exact @decide_eq_true _ (Classical.propDecidable _) h
end Fe

set_option Elab.async false
set_option linter.all false
set_option maxRecDepth 100000
set_option maxHeartbeats 4000000
namespace Fe
open PySem PySem.Spec PyProof.Rows L2
/-! ### dicts of the store: {}, displays with tuple keys, d[k] = v, get -/
section
variable {G : Gc} {Wx : WX} {Z : Addr → Prop} {W : Wd} {S : Sto} {σ : L2.St} {X : Cx} {k : Nat}
/-- {} at a place -/
def cD0R : CE' := fun _ S => .ok (.ref S.length) (S ++ [.dct [] []])
theorem pf_d0R {pos : Pos} : PF G X (.Dict [] [] pos) cD0R := fun Wx tk => by
  refine PE.imp pe_dnewK fun σ H Q h => ?_
  obtain ⟨Z, S, W, env, rfl, st, er, p⟩ := h
  intro q np
  have gg := grow_go st np (.dK [])
  refine p (.ref q) (W.grow q (.dK [])) gg (grow_st st np rfl ⟨[], by simp only [Reps], .inl ⟨[], rfl, rfl, upd_same⟩⟩) ⟨by rw [← st.len]; exact Nat.lt_succ_self _, ?_⟩
  show V.ref q = V.ref (if S.length = W.n then q else _)
  rw [if_pos st.len.symm]
/-! putting -/
section
variable {κ : Type} [DecidableEq κ]
def dputP (kk : List κ) (ks vs : List P) (k : κ) (x v : P) : List P × List P :=
  if (kk.any fun q => decide (q = k)) = true then (ks, List.zipWith (fun q b => if q = k then v else b) kk vs) else (ks ++ [x], vs ++ [v])
def putKs (kk : List κ) (k : κ) : List κ := if (kk.any fun q => decide (q = k)) = true then kk else kk ++ [k]
theorem put_rep {kk : List κ} {ks vs : List P} {us : List V} {k : κ} {x v : P} {u : V} (r : Reps G W vs us) (l : kk.length = us.length) (rv : Rep G W v u) :
    ∃ us', Reps G W (dputP kk ks vs k x v).2 us' ∧ (putKs kk k).length = us'.length ∧ putK (kk.zip us) k u = (putKs kk k).zip us' := by
  have any : ((kk.zip us).any fun kv => decide (kv.1 = k)) = (kk.any fun q => decide (q = k)) := by
    have : ∀ (kk : List κ) (us : List V), kk.length = us.length → ((kk.zip us).any fun kv => decide (kv.1 = k)) = (kk.any fun q => decide (q = k)) := by
      intro kk
      induction kk with
      | nil => intro us _; rfl
      | cons q kk ih =>
        intro us h
        cases us with
        | nil => simp at h
        | cons u us => simp only [List.zip_cons_cons, List.any_cons]; rw [ih us (by simpa using h)]
    exact this kk us l
  unfold dputP putKs putK
  rw [any]
  cases hb : (kk.any fun q => decide (q = k)) with
  | true =>
    simp only [if_true]
    refine ⟨List.zipWith (fun q b => if q = k then u else b) kk us, ?_, by rw [List.length_zipWith]; omega, ?_⟩
    · clear hb any
      have : ∀ (kk : List κ) (vs : List P) (us : List V), Reps G W vs us → kk.length = us.length → Reps G W (List.zipWith (fun q b => if q = k then v else b) kk vs) (List.zipWith (fun q b => if q = k then u else b) kk us) := by
        intro kk
        induction kk with
        | nil =>
          intro vs us r l
          cases us with
          | nil => simp only [List.zipWith_nil_left, Reps]
          | cons _ _ => simp at l
        | cons q kk ih =>
          intro vs us r l
          cases us with
          | nil => simp at l
          | cons b us =>
            cases vs with
            | nil => simp [Reps] at r
            | cons a vs =>
              simp only [Reps] at r
              simp only [List.zipWith_cons_cons, Reps]
              refine ⟨?_, ih vs us r.2 (by simpa using l)⟩
              split
              · exact rv
              · exact r.1
      exact this kk vs us r l
    · clear hb any r
      induction kk generalizing us with
      | nil => simp
      | cons q kk ih =>
        cases us with
        | nil => simp at l
        | cons b us =>
          simp only [List.zip_cons_cons, List.map_cons, List.zipWith_cons_cons]
          rw [ih (by simpa using l)]
          congr 1
          split <;> rfl
  | false =>
    simp only [Bool.false_eq_true, if_false]
    refine ⟨us ++ [u], Reps.append G W r (by simp only [Reps]; exact ⟨rv, trivial⟩), by simp [l], ?_⟩
    rw [List.zip_append l]
    rfl
end
theorem keys_snoc : ∀ {ks : List P} {kk : List Key} {x : P} {k : Key}, keysD ks = some kk → keyD x = some k → keysD (ks ++ [x]) = some (kk ++ [k])
  | [], kk, x, k, h, e => by simp [keysD] at h; subst h; simp [keysD, e]
  | y :: ks, kk, x, k, h, e => by
    simp only [keysD] at h
    split at h
    · rename_i q qs h1 h2
      cases h
      have := keys_snoc h2 e
      simp only [List.cons_append, keysD, h1, this]
    · cases h
theorem tkeys_snoc : ∀ {ks : List P} {kk : List (List Key)} {xs : List P} {k : List Key}, tkeysD ks = some kk → keysD xs = some k → tkeysD (ks ++ [.tup xs]) = some (kk ++ [k])
  | [], kk, xs, k, h, e => by simp [tkeysD] at h; subst h; simp [tkeysD, e]
  | y :: ks, kk, xs, k, h, e => by
    cases y <;> simp only [tkeysD, reduceCtorEq] at h
    split at h
    · rename_i q qs h1 h2
      cases h
      have := tkeys_snoc h2 e
      simp only [List.cons_append, tkeysD, h1, this]
    · cases h
theorem keys_len : ∀ {ks : List P} {kk : List Key}, keysD ks = some kk → kk.length = ks.length
  | [], kk, h => by simp [keysD] at h; subst h; rfl
  | y :: ks, kk, h => by
    simp only [keysD] at h
    split at h
    · rename_i h2; cases h; simp [keys_len h2]
    · cases h
theorem tkeys_len : ∀ {ks : List P} {kk : List (List Key)}, tkeysD ks = some kk → kk.length = ks.length
  | [], kk, h => by simp [tkeysD] at h; subst h; rfl
  | y :: ks, kk, h => by
    cases y <;> simp only [tkeysD, reduceCtorEq] at h
    split at h
    · rename_i h2; cases h; simp [tkeys_len h2]
    · cases h
theorem putP_keys {ks vs : List P} {kk : List Key} {x v : P} {k : Key} (h : keysD ks = some kk) (e : keyD x = some k) : keysD (dputP kk ks vs k x v).1 = some (putKs kk k) := by
  unfold dputP putKs
  split
  · exact h
  · exact keys_snoc h e
theorem putP_tkeys {ks vs : List P} {kk : List (List Key)} {xs : List P} {v : P} {k : List Key} (h : tkeysD ks = some kk) (e : keysD xs = some k) : tkeysD (dputP kk ks vs k (.tup xs) v).1 = some (putKs kk k) ∧ (dputP kk ks vs k (.tup xs) v).1 ≠ [] := by
  unfold dputP putKs
  split
  · rename_i hb
    refine ⟨h, fun z => ?_⟩
    subst z
    simp [tkeysD] at h
    subst h
    simp at hb
  · exact ⟨tkeys_snoc h e, by simp⟩
theorem keys_reps : ∀ {xs : List P} {kk : List Key} {vs : List V}, keysD xs = some kk → Reps G W xs vs → vs = kk.map kV
  | [], kk, [], h, r => by simp [keysD] at h; subst h; rfl
  | [], _, _ :: _, h, r => by simp [Reps] at r
  | _ :: _, _, [], h, r => by simp [Reps] at r
  | x :: xs, kk, v :: vs, h, r => by
    simp only [keysD] at h
    simp only [Reps] at r
    split at h
    · rename_i q qs h1 h2
      cases h
      rw [keys_reps h2 r.2, key_rep h1 r.1]
      rfl
    · cases h
/-! the place is written -/
theorem wrp_dct (st : StRep G W Z S) {i : Nat} {ks vs : List P} (e : S[i]? = some (.dct ks vs)) {ks' vs' : List P} {us : List V} {o : HO} (nc : NC o) (r : Reps G W vs' us)
    (h : (∃ kk, keysD ks' = some kk ∧ kk.length = us.length ∧ o = .dK (kk.zip us)) ∨ (ks' ≠ [] ∧ ∃ kk, tkeysD ks' = some kk ∧ kk.length = us.length ∧ o = .dT (kk.zip us))) : StRep G (W.wrp (W.ρ i) o) Z (S.set i (.dct ks' vs')) := by
  have go := wrp_go st e rfl o
  have hi : i < S.length := (List.getElem?_eq_some_iff.mp e).1
  have hu := (st.obj i _ e rfl).1
  have hz := (st.obj i _ e rfl).2.1
  have tc := obj_tc (W := W) (a := W.ρ i) (so := .dct ks vs) rfl (st.obj i _ e rfl).2.2
  refine ⟨tabs_ext st.tab (fun b ps h => (upd_ne (fun e2 : b = W.ρ i => tc.1 ps (e2 ▸ h))).trans h) (fun b q h => (upd_ne (fun e2 : b = W.ρ i => tc.2 b q (by rw [e2] at h ⊢; exact h))).trans h), by rw [List.length_set]; exact st.len, st.zu, fun a u => ?_, fun j so' hj l => ?_, fun j j' so1 so2 h1 h2 l1 l2 q => ?_, fun a u => ?_⟩
  · by_cases ha : a = W.ρ i
    · subst ha; exact ⟨o, upd_same, nc⟩
    · obtain ⟨q, h, n⟩ := st.ut a u
      exact ⟨q, by show upd W.H _ o a = _; rw [upd_ne ha]; exact h, n⟩
  · by_cases hij : i = j
    · subst hij
      rw [List.getElem?_set_self hi] at hj
      cases hj
      refine ⟨hu, hz, us, Reps.ext go.toExt _ r, ?_⟩
      rcases h with ⟨kk, h1, h2, rfl⟩ | ⟨h0, kk, h1, h2, rfl⟩
      · exact .inl ⟨kk, h1, h2, upd_same⟩
      · exact .inr ⟨h0, kk, h1, h2, upd_same⟩
    · rw [List.getElem?_set_ne hij] at hj
      obtain ⟨h1, h2, h3⟩ := st.obj j so' hj l
      exact ⟨h1, h2, ObjR.ext go.toExt (upd_ne fun e2 => hij (st.inj i j _ so' e hj rfl l e2.symm)) h3⟩
  · have get : ∀ {j : Nat} {so' : SO}, (S.set i (.dct ks' vs'))[j]? = some so' → so'.live = true → ∃ so2, S[j]? = some so2 ∧ so2.live = true := fun {j so'} hj l => by
      by_cases hij : i = j
      · subst hij; exact ⟨_, e, rfl⟩
      · rw [List.getElem?_set_ne hij] at hj; exact ⟨so', hj, l⟩
    obtain ⟨s1, k1, m1⟩ := get h1 l1
    obtain ⟨s2, k2, m2⟩ := get h2 l2
    exact st.inj j j' s1 s2 k1 k2 m1 m2 q
  · rcases st.back a u with z | ⟨j, so', hj, l, q⟩
    · exact .inl z
    · by_cases hij : i = j
      · subst hij
        exact .inr ⟨i, .dct ks' vs', by rw [List.getElem?_set_self hi], rfl, q⟩
      · exact .inr ⟨j, so', by rw [List.getElem?_set_ne hij]; exact hj, l, q⟩
/-! ### d[k] = v -/
def setDk (S : Sto) (o x d : D) : Option Sto := match o, x with
  | .ref i, .p q => match pureD d S, keyD q with
    | some (y, S1), some key => match S1[i]? with
      | some (.dct ks vs) => match keysD ks with
        | some kk => if kk.length < sizeLine then some (S1.set i (.dct (dputP kk ks vs key q y).1 (dputP kk ks vs key q y).2)) else none
        | none => none
      | _ => none
    | _, _ => none
  | _, _ => none
def gSetDk (fo fi : CE') : CG := fun d env S => match okE fo env S with
  | some (o, S1) => match okE fi env S1 with
    | some (ix, S2) => (setDk S2 o ix d).map fun S3 => (env, S3)
    | none => none
  | none => none
theorem nc_dK (kvs : List (Key × V)) : NC (.dK kvs) := ⟨(fun _ e => nomatch e), (fun c q e => by unfold LamX.CodeO at e; cases e), fun _ e => nomatch e⟩
theorem nc_dT (kvs : List (List Key × V)) : NC (.dT kvs) := ⟨(fun _ e => nomatch e), (fun c q e => by unfold LamX.CodeO at e; cases e), fun _ e => nomatch e⟩
theorem pfg_setDk {o ie : Expr} {fo fi : CE'} {pos : Pos} (cg : CtxG G X k) (ho : PF G X o fo) (hi : PF G X ie fi)
    (ha : ∀ v, assign (.Subscript o ie pos) X.env v = (do
      let ov ← holding [v] (eval o X.env)
      let iv ← holding [v, ov] (eval ie X.env)
      standAt pos
      holding [v, ov, iv] (setItem ov iv v)
      release [v, ov, iv] []) := by intro _; rfl) : PG X (.Subscript o ie pos) (tMG G (gSetDk fo fi)) := by
  have hu : X.A.units + 1 < cLine := by
    have := cg.room.un
    omega
  refine PG.imp (pg_sub (ho _ takes_false) (hi _ takes_false) (set_dict hu) ha) fun v σ H Q h => ?_
  obtain ⟨Z, S, W, env, d, env', S', rfl, st, er, r, e, q⟩ := h
  unfold gSetDk at e
  split at e
  · rename_i od S1 h1
    split at e
    · rename_i ix S2 h2
      obtain ⟨S3, h3, e⟩ := Option.map_eq_some_iff.mp e
      cases e
      refine ⟨Z, S, W, env, rfl, st, er, okE_post h1 fun ov W1 go1 st1 r1 => ?_⟩
      refine ⟨Z, S1, W1, env, rfl, st1, er.ext go1.toExt, okE_post h2 fun iv W2 go2 st2 r2 => ?_⟩
      unfold setDk at h3
      split at h3
      · rename_i i q0
        split at h3
        · rename_i y S4 key hp hk
          obtain ⟨W4, e4, g4, s4, r4⟩ := pureD_rep st2 hp (RepD.ext (go1.trans go2).toExt r)
          split at h3
          · rename_i ks vs hs
            split at h3
            · rename_i kk hkk
              split at h3
              · rename_i hlt
                cases h3
                obtain ⟨u1, u2, us, h5, h6⟩ := s4.obj i _ hs rfl
                have ro := (RepD.ext (go2.trans g4).toExt r1)
                rcases h6 with ⟨kk', a1, a2, a3⟩ | ⟨hne, kt, a1, _, _⟩
                · rw [hkk] at a1; cases a1
                  obtain ⟨us', b1, b2, b3⟩ := put_rep (G := G) (W := W4) (ks := ks) (k := key) (x := q0) h5 a2 r4
                  have hkv := key_rep hk r2
                  refine ⟨W4.ρ i, upd W2.H (W4.ρ i) (.dK (putK (kk.zip us) key v)), ro.2, .inl ⟨kk.zip us, key, by rw [← e4]; exact a3, hkv, by rw [List.length_zip]; omega, rfl⟩, ?_⟩
                  have go5 := wrp_go s4 hs rfl (.dK (putK (kk.zip us) key v))
                  have st5 := wrp_dct s4 hs (ks' := (dputP kk ks vs key q0 y).1) (nc_dK (putK (kk.zip us) key v)) b1 (.inl ⟨putKs kk key, putP_keys hkk hk, b2, by rw [b3]⟩)
                  have := q σ (W4.wrp (W4.ρ i) (.dK (putK (kk.zip us) key v))) ((go1.trans go2).trans (g4.trans go5)) st5 (er.ext ((go1.trans go2).trans (g4.trans go5)).toExt)
                  have e6 : (W4.wrp (W4.ρ i) (.dK (putK (kk.zip us) key v))).H = upd W2.H (W4.ρ i) (.dK (putK (kk.zip us) key v)) := by show upd W4.H _ _ = _; rw [e4]
                  rw [e6] at this
                  exact this
                · cases ks with
                  | nil => exact absurd rfl hne
                  | cons z zs =>
                    cases z <;> simp only [tkeysD, reduceCtorEq] at a1
                    simp [keysD, keyD] at hkk
              · cases h3
            · cases h3
          · cases h3
        · cases h3
      · cases h3
    · cases e
  · cases e
/-- a tuple of keys, displayed where it is asked for -/
def setDt (S : Sto) (o : D) (xs : List P) (d : D) : Option Sto := match o with
  | .ref i => match pureD d S, keysD xs with
    | some (y, S1), some key => match S1[i]? with
      | some (.dct ks vs) => match tkeysD ks with
        | some kk => if kk.length < sizeLine ∧ ks ≠ [] then some (S1.set i (.dct (dputP kk ks vs key (.tup xs) y).1 (dputP kk ks vs key (.tup xs) y).2)) else none
        | none => none
      | _ => none
    | _, _ => none
  | _ => none
def okA (f : CA) (env : DEnv) (S : Sto) : Option (List D × Sto) := match f env S with
  | .ok ds S1 => some (ds, S1)
  | _ => none
theorem okA_post {f : CA} {env : DEnv} {S : Sto} {ds : List D} {S1 : Sto} {Q : List V → Hp → Prop} (h : okA f env S = some (ds, S1)) (q : ∀ vs W1, Go Z W W1 → StRep G W1 Z S1 → RepDs G W1 ds vs → Q vs W1.H) : PostA G Wx Z W σ Q (f env S) := by
  unfold okA at h
  cases hf : f env S with
  | bad => rw [hf] at h; cases h
  | exc c ns ds S' => rw [hf] at h; cases h
  | ok d' S' =>
    rw [hf] at h
    cases h
    exact q
def gSetDt (fo : CE') (fa : CA) : CG := fun d env S => match okE fo env S with
  | some (o, S1) => match okA fa env S1 with
    | some (ds, S2) => match pureDs ds S2 with
      | some (xs, S3) => if xs.length ≤ sizeLine then (setDt S3 o xs d).map fun S4 => (env, S4) else none
      | none => none
    | none => none
  | none => none
theorem pfg_setDt {o : Expr} {es : List Expr} {fo : CE'} {fa : CA} {pos pos' : Pos} {x1} (cg : CtxG G X k) (ho : PF G X o fo) (hi : PFA G X es fa)
    (ha : ∀ v, assign (.Subscript o (.Tuple es x1 pos') pos) X.env v = (do
      let ov ← holding [v] (eval o X.env)
      let iv ← holding [v, ov] (eval (.Tuple es x1 pos') X.env)
      standAt pos
      holding [v, ov, iv] (setItem ov iv v)
      release [v, ov, iv] []) := by intro _; rfl) : PG X (.Subscript o (.Tuple es x1 pos') pos) (tMG G (gSetDt fo fa)) := by
  have hu : X.A.units + 1 < cLine := by
    have := cg.room.un
    omega
  refine PG.imp (pg_sub (ho _ takes_false) (pe_tup (hi _ takes_false)) (set_dict hu) ha) fun v σ H Q h => ?_
  obtain ⟨Z, S, W, env, d, env', S', rfl, st, er, r, e, q⟩ := h
  unfold gSetDt at e
  split at e
  · rename_i od S1 h1
    split at e
    · rename_i ds S2 h2
      split at e
      · rename_i xs S3 hps
        split at e
        · rename_i hsz
          obtain ⟨S4, h3, e⟩ := Option.map_eq_some_iff.mp e
          cases e
          refine ⟨Z, S, W, env, rfl, st, er, okE_post h1 fun ov W1 go1 st1 r1 => ?_⟩
          refine ⟨Z, S1, W1, env, rfl, st1, er.ext go1.toExt, okA_post h2 fun vs W2 go2 st2 r2 => ?_⟩
          obtain ⟨W3, e3, g3, s3, r3⟩ := pureDs_rep st2 hps r2
          refine ⟨by rw [← Reps.length _ _ r3]; exact hsz, fun p np => ?_⟩
          rw [← e3] at np ⊢
          have g5 := put_go s3 np (.tup vs)
          have s5 := put_st s3 np (.tup vs)
          have gA := (go1.trans go2).trans (g3.trans g5)
          unfold setDt at h3
          split at h3
          · rename_i i
            split at h3
            · rename_i y S5 key hp hk
              obtain ⟨W6, e6, g6, s6, r6⟩ := pureD_rep s5 hp (RepD.ext gA.toExt r)
              split at h3
              · rename_i ks vs' hs
                split at h3
                · rename_i kk hkk
                  split at h3
                  · rename_i hlt
                    cases h3
                    obtain ⟨u1, u2, us, h5, h6⟩ := s6.obj i _ hs rfl
                    have ro := (RepD.ext (go2.trans (g3.trans (g5.trans g6))).toExt r1)
                    have hvs := keys_reps hk r3
                    rcases h6 with ⟨kk', a1, a2, a3⟩ | ⟨hne, kt, a1, a2, a3⟩
                    · exfalso
                      cases ks with
                      | nil => exact hlt.2 rfl
                      | cons z zs =>
                        cases z <;> simp only [tkeysD, reduceCtorEq] at hkk
                        simp [keysD, keyD] at a1
                    · rw [hkk] at a1; cases a1
                      obtain ⟨us', b1, b2, b3⟩ := put_rep (G := G) (W := W6) (ks := ks) (k := key) (x := .tup xs) h5 a2 r6
                      have hb : W6.H p = some (.tup (key.map kV)) := by
                        rw [e6, ← hvs]
                        exact upd_same
                      have pk := putP_tkeys (ks := ks) (vs := vs') (v := y) hkk hk
                      refine ⟨W6.ρ i, upd (W3.put p (.tup vs)).H (W6.ρ i) (.dT (putK (kk.zip us) key v)), ro.2, .inr ⟨kk.zip us, key, p, ?_, rfl, ?_, by rw [List.length_zip]; omega, rfl⟩, ?_⟩
                      · show (W3.put p (.tup vs)).H _ = _
                        rw [← e6]; exact a3
                      · show (W3.put p (.tup vs)).H _ = _
                        rw [← e6]; exact hb
                      have go5 := wrp_go s6 hs rfl (.dT (putK (kk.zip us) key v))
                      have st5 := wrp_dct s6 hs (ks' := (dputP kk ks vs' key (.tup xs) y).1) (nc_dT (putK (kk.zip us) key v)) b1 (.inr ⟨pk.2, putKs kk key, pk.1, b2, by rw [b3]⟩)
                      have := q σ (W6.wrp (W6.ρ i) (.dT (putK (kk.zip us) key v))) (gA.trans (g6.trans go5)) st5 (er.ext (gA.trans (g6.trans go5)).toExt)
                      have e7 : (W6.wrp (W6.ρ i) (.dT (putK (kk.zip us) key v))).H = upd (W3.put p (.tup vs)).H (W6.ρ i) (.dT (putK (kk.zip us) key v)) := by show upd W6.H _ _ = _; rw [e6]
                      rw [e7] at this
                      exact this
                  · cases h3
                · cases h3
              · cases h3
            · cases h3
          · cases h3
        · cases e
      · cases e
    · cases e
  · cases e
end
end Fe

set_option Elab.async false
set_option linter.all false
set_option maxRecDepth 100000
set_option maxHeartbeats 4000000
namespace Fe
open PySem PySem.Spec PyProof.Rows L2
/-! ### displays of dicts whose keys are tuples that are displayed there -/
def mergeT (kvs more : List (List Key × V)) : List (List Key × V) := more.foldl (fun acc kv => putK acc kv.1 kv.2) kvs
theorem d_dictSetT {X : Cx} {pins : List (Addr × Obj)} {σ : L2.St} {H : Hp} {s : Shared} {E : Value → Shared → Prop} {D b : Addr} {kvs : List (List Key × V)} {k : List Key} {v : V} {r : Value} {Q : Unit → Shared → Prop} (hu : X.A.units < cLine) (I : Inv X pins σ H s) (hD : H D = some (.dT kvs)) (hz : kvs.length < sizeLine)
    (eb : H b = some (.tup (k.map kV))) (rv : RelV v r) (h : ∀ s', Inv X pins σ (upd H D (.dT (putK kvs k v))) s' → Q () s') : wpAny (model X.prog X.w) X.A (dictSet D (.ref b) r) Q E s := by
  obtain ⟨z, hd, xs, rel, dd⟩ := dt_of I.hok hD
  have hzv : xs.length ≤ sizeLine := by rw [← Paired.length rel]; exact z
  have hl : (putK kvs k v).length ≤ sizeLine := by have := length_putK kvs k v; omega
  refine wpAny_dictSet_heap (hsz := hzv) (show (tupleKind (mixKind X.prog X.w)).room X.A from hu) (key_of I.hok eb) dd fun h' dd' hs => h _ ?_
  obtain ⟨q, es, ep, hq, h2, h3, h4, _, h5⟩ := dd'
  refine d_write I (by rw [hD]; exact True.intro) hs ⟨q, hq⟩ ⟨hl, hd, _, (rel.put k eb rv).keeps fun c ys ec => ?_, q, es, ep, hq, h2, h3, h4, h5⟩
  rw [upd_ne (ne_of ec hD (fun z => nomatch z))]
  exact ec
/-- the pairs as they are stored -/
def TK (H : Hp) : List (V × V) → List (List Key × V) → Prop := Paired fun p kv => (∃ b, p.1 = .ref b ∧ H b = some (.tup (kv.1.map kV))) ∧ p.2 = kv.2
theorem TK.keep {H H' : Hp} (h : ∀ b xs, H b = some (.tup xs) → H' b = some (.tup xs)) : ∀ {ps : List (V × V)} {kvs : List (List Key × V)}, TK H ps kvs → TK H' ps kvs
  | _, _, .nil => .nil
  | _, _, .cons a t => .cons ⟨let ⟨b, h1, h2⟩ := a.1; ⟨b, h1, h _ _ h2⟩, a.2⟩ (TK.keep h t)
theorem store_all {X : Cx} {pins : List (Addr × Obj)} {σ : L2.St} {D : Addr} {E : Value → Shared → Prop} {Q : Unit → Shared → Prop} (hu : X.A.units < cLine) : ∀ {ws : List (Value × Value)} {ps : List (V × V)} {more : List (List Key × V)} {kvs : List (List Key × V)} {H : Hp} {s : Shared}, VV ps ws → TK H ps more → Inv X pins σ H s → H D = some (.dT kvs) →
    kvs.length + more.length < sizeLine → (∀ s', Inv X pins σ (upd H D (.dT (mergeT kvs more))) s' → Q () s') → wpAny (model X.prog X.w) X.A (storeAll D ws) Q E s := by
  intro ws
  induction ws with
  | nil =>
    intro ps more kvs H s vv tk I hD hz h
    cases vv
    cases tk
    have e : upd H D (.dT kvs) = H := by
      funext a
      by_cases ha : a = D
      · subst ha; rw [hD]; exact upd_same
      · exact upd_ne ha
    refine wpAny_pure (h s ?_)
    show Inv X pins σ (upd H D (.dT kvs)) s
    rw [e]; exact I
  | cons w ws ih =>
    intro ps more kvs H s vv tk I hD hz h
    cases vv with
    | @cons p _ ps _ h1 h2 =>
      cases tk with
      | @cons _ kv _ more t1 t2 =>
        obtain ⟨k0, v0⟩ := kv
        obtain ⟨px, py⟩ := p
        obtain ⟨wu, wr⟩ := w
        obtain ⟨⟨b, e1, e2⟩, e3⟩ := t1
        simp only at e1 e2 e3
        subst e1 e3
        have r1 : wu = .ref b := h1.1
        subst r1
        simp only [List.length_cons] at hz
        have hl := length_putK kvs k0 py
        have nn : ∀ c xs, H c = some (.tup xs) → upd H D (.dT (putK kvs k0 py)) c = some (.tup xs) := fun c xs hc => by
          rw [upd_ne (ne_of hc hD (fun z => nomatch z))]; exact hc
        unfold storeAll
        rw [List.forIn_cons]
        refine wpAny_bind (wpAny_bind (d_dictSetT hu I hD (by omega) e2 h1.2 fun s' I' => wpAny_pure ?_))
        have := ih (kvs := putK kvs k0 py) (H := upd H D (.dT (putK kvs k0 py))) (s := s') (more := more) h2 (TK.keep nn t2) I' upd_same (by omega) (fun s2 I2 => h s2 (by
          have e : upd (upd H D (.dT (putK kvs k0 py))) D (.dT (mergeT (putK kvs k0 py) more)) = upd H D (.dT (mergeT kvs ((k0, py) :: more))) := by
            funext a
            by_cases ha : a = D
            · subst ha; rw [upd_same, upd_same]; rfl
            · rw [upd_ne ha, upd_ne ha, upd_ne ha]
          rw [← e]; exact I2))
        exact this
def tDispT (trs : List (TE × TE)) : TE := fun σ H Q => ∀ p, H p = none → tPairs trs σ (upd H p (.dT [])) fun ps H2 => H2 p = some (.dT []) ∧ ∃ kvs : List (List Key × V), TK H2 ps kvs ∧ kvs.length ≤ 15 ∧ Q (.ref p) (upd H2 p (.dT (mergeT [] kvs)))
theorem pe_dispT {X : Cx} {pos : Pos} {keys : List (Option Expr)} {values : List Expr} {trs : List (TE × TE)} (hu : X.A.units < cLine) (h : PPs X pos keys values trs) (hall : keys.all (·.isSome) = true) (hl : keys.length = values.length) (h0 : keys ≠ [])
    (h15 : keys.length ≤ 15) : PE X (.Dict keys values pos) (tDispT trs) := by
  refine ⟨fun pins s σ H Q I q => ?_⟩
  have hn := I.hok.fresh (Nat.le_refl s.heap.objs.size)
  have I1 := I.laid (a := s.heap.objs.size) (o := .dT []) (h' := s.heap.push { cls := .type "dict", data := .dict #[] }) (t' := s.toks) (fun _ _ q => Heap.get?_push_of_some _ q) (Nat.le_refl _) (dt_empty s.heap I.big)
  refine wpAny_Dict_any hall hl h0 h15 (thn (h.run pins _ σ _ _ I1 (q _ hn)) fun ws s2 ⟨ps, H2, I2, rel, e, kvs, tk, lk, q2⟩ => ?_)
  refine store_all (kvs := []) hu rel tk I2 e ?_ fun s' I' => ⟨.ref s.heap.objs.size, _, I', rfl, q2⟩
  rw [sizeLine_eq, List.length_nil]; omega

section
variable {G : Gc} {Wx : WX} {Z : Addr → Prop} {W : Wd} {S : Sto} {σ : L2.St} {X : Cx} {k : Nat}
/-- the pairs of a display: the keys' elements, the value -/
abbrev Pr3 := List Key × P × P
def cPrs : List (CA × CE') → DEnv → Sto → R (List Pr3)
  | [], _, S => .ok [] S
  | (fa, fv) :: r, env, S => (fa env S).bind fun ds S1 => match pureDs ds S1 with
    | some (xs, S2) => match keysD xs with
      | some kk => if xs.length ≤ sizeLine then (fv env S2).bind fun d S3 => match pureD d S3 with
        | some (y, S4) => (cPrs r env S4).bind fun ps S5 => .ok ((kk, .tup xs, y) :: ps) S5
        | none => .bad
        else .bad
      | none => .bad
    | none => .bad
def putT3 (a : List (List Key) × List P × List P) (p : Pr3) : List (List Key) × List P × List P := (putKs a.1 p.1, (dputP a.1 a.2.1 a.2.2 p.1 p.2.1 p.2.2).1, (dputP a.1 a.2.1 a.2.2 p.1 p.2.1 p.2.2).2)
def cDispT (L : List (CA × CE')) : CE' := fun env S => (cPrs L env S).bind fun ps S1 => match ps.foldl putT3 ([], [], []) with
  | (_, ks, vs) => if ks ≠ [] then .ok (.ref S1.length) (S1 ++ [.dct ks vs]) else .bad
/-- the pairs as they lie -/
def PrR (G : Gc) (W : Wd) : List Pr3 → List (V × V) → Prop
  | [], [] => True
  | (kk, x, y) :: r, (a, b) :: s => (keysD (match x with | .tup xs => xs | _ => []) = some kk ∧ (∃ xs, x = .tup xs)) ∧ (∃ p, a = .ref p ∧ W.H p = some (.tup (kk.map kV)) ∧ ¬ W.U p) ∧ Rep G W y b ∧ PrR G W r s
  | _, _ => False
def PostP (G : Gc) (Wx : WX) (Z : Addr → Prop) (W : Wd) (σ : L2.St) (Q : List (V × V) → Hp → Prop) : R (List Pr3) → Prop
  | .ok ps S' => ∀ pvs W', Go Z W W' → StRep G W' Z S' → PrR G W' ps pvs → Q pvs W'.H
  | .exc c ns ds S' => ∀ cls dx W', Go Z W W' → StRep G W' Z S' → ExcR G W' c ns ds cls dx → Wx cls dx σ W'.H
  | .bad => False
def trsOf (G : Gc) (Wx : WX) (L : List (CA × CE')) : List (TE × TE) := L.map fun p => (tTup (tMA G Wx p.1), tM G Wx p.2)
theorem prs_ok : ∀ (L : List (CA × CE')) {Z : Addr → Prop} {W : Wd} {S : Sto} {env : DEnv} {Q : List (V × V) → Hp → Prop}, StRep G W Z S → EnvR G W env σ → PostP G Wx Z W σ Q (cPrs L env S) → tPairs (trsOf G Wx L) σ W.H Q
  | [], Z, W, S, env, Q, st, er, p => p [] W (Go.refl _ _) st (by simp only [PrR])
  | (fa, fv) :: L, Z, W, S, env, Q, st, er, p => by
    simp only [cPrs] at p
    refine ⟨Z, S, W, env, rfl, st, er, ?_⟩
    show PostA G Wx Z W σ _ (fa env S)
    cases hf : fa env S with
    | bad => rw [hf] at p; exact p.elim
    | exc c ns ds S' => rw [hf] at p; exact p
    | ok ds S1 =>
      rw [hf] at p
      simp only [R.bind_ok] at p
      intro vs W1 go1 st1 r1
      split at p
      · rename_i xs S2 hps
        obtain ⟨W2, e2, g2, s2, r2⟩ := pureDs_rep st1 hps r1
        split at p
        · rename_i kk hkk
          split at p
          · rename_i hsz
            refine ⟨by rw [← Reps.length _ _ r2]; exact hsz, fun a np => ?_⟩
            rw [← e2] at np ⊢
            have g3 := put_go s2 np (.tup vs)
            have s3 := put_st s2 np (.tup vs)
            have nu := put_nu s2 np
            have gA := go1.trans (g2.trans g3)
            have hvs := keys_reps hkk r2
            refine ⟨Z, S2, W2.put a (.tup vs), env, rfl, s3, er.ext gA.toExt, ?_⟩
            show PostE G Wx Z _ σ _ (fv env S2)
            cases hv : fv env S2 with
            | bad => rw [hv] at p; exact p.elim
            | exc c ns ds S' => rw [hv] at p; exact fun cls dx W' go st' x => p cls dx W' (gA.trans go) st' x
            | ok d S3 =>
              rw [hv] at p
              simp only [R.bind_ok] at p
              intro v W4 go4 st4 r4
              split at p
              · rename_i y S4 hy
                obtain ⟨W5, e5, g5, s5, r5⟩ := pureD_rep st4 hy r4
                have gB := gA.trans (go4.trans g5)
                rw [← e5]
                refine prs_ok L s5 (er.ext gB.toExt) ?_
                cases hr : cPrs L env S4 with
                | bad => rw [hr] at p; exact p.elim
                | exc c ns ds S' => rw [hr] at p; exact fun cls dx W' go st' x => p cls dx W' (gB.trans go) st' x
                | ok ps S5 =>
                  rw [hr] at p
                  intro pvs W6 go6 st6 r6
                  have kp := (go4.trans (g5.trans go6)).toExt
                  have ha := kp.keep a (.tup vs) (by exact upd_same) nu
                  refine p ((.ref a, v) :: pvs) W6 (gB.trans go6) st6 ?_
                  simp only [PrR]
                  exact ⟨⟨hkk, xs, rfl⟩, ⟨a, rfl, by rw [← hvs]; exact ha.1, ha.2⟩, Rep.ext go6.toExt _ r5, r6⟩
              · exact p.elim
          · exact p.elim
        · exact p.elim
      · exact p.elim
theorem merge_rep : ∀ {ps : List Pr3} {pvs : List (V × V)} {kk : List (List Key)} {ks vs : List P} {us : List V}, PrR G W ps pvs → Reps G W vs us → tkeysD ks = some kk → kk.length = us.length →
    ∃ more : List (List Key × V), TK W.H pvs more ∧ more.length = ps.length ∧ ∃ us', Reps G W (ps.foldl putT3 (kk, ks, vs)).2.2 us' ∧ tkeysD (ps.foldl putT3 (kk, ks, vs)).2.1 = some (ps.foldl putT3 (kk, ks, vs)).1 ∧ (ps.foldl putT3 (kk, ks, vs)).1.length = us'.length ∧ mergeT (kk.zip us) more = (ps.foldl putT3 (kk, ks, vs)).1.zip us'
  | [], [], kk, ks, vs, us, _, r, hk, hl => ⟨[], .nil, rfl, us, r, hk, hl, rfl⟩
  | [], _ :: _, _, _, _, _, h, _, _, _ => by simp [PrR] at h
  | _ :: _, [], _, _, _, _, h, _, _, _ => by simp [PrR] at h
  | (k0, x, y) :: ps, (a, b) :: pvs, kk, ks, vs, us, h, r, hk, hl => by
    simp only [PrR] at h
    obtain ⟨⟨h1, xs, rfl⟩, ⟨p, rfl, h3, _⟩, h4, h5⟩ := h
    simp only at h1
    obtain ⟨us', b1, b2, b3⟩ := put_rep (G := G) (W := W) (ks := ks) (k := k0) (x := .tup xs) r hl h4
    have pk := putP_tkeys (ks := ks) (vs := vs) (v := y) hk h1
    obtain ⟨more, m1, m2, us2, m3, m4, m5, m6⟩ := merge_rep (kk := putKs kk k0) (ks := (dputP kk ks vs k0 (.tup xs) y).1) (vs := (dputP kk ks vs k0 (.tup xs) y).2) (us := us') h5 b1 pk.1 b2
    refine ⟨(k0, b) :: more, .cons ⟨⟨p, rfl, h3⟩, rfl⟩ m1, by simp [m2], us2, m3, m4, m5, ?_⟩
    refine Eq.trans ?_ m6
    rw [← b3]
    rfl
/-- the place that stood aside becomes one of the store -/
theorem own_st {Z : Addr → Prop} {W : Wd} {S : Sto} {p : Addr} {o0 o : HO} {so : SO} (hz : ¬ Z p) (st : StRep G W (fun a => Z a ∨ a = p) S) (hp : W.H p = some o0) (nt : (∀ ps, o0 ≠ .tbl ps) ∧ ∀ c q, o0 ≠ LamX.CodeO c q) (hl : so.live = true)
    (ho : ObjR G { H := upd W.H p o, U := W.U, ρ := fun i => if i = W.n then p else W.ρ i, n := W.n + 1 } p so) :
    Go Z W { H := upd W.H p o, U := W.U, ρ := fun i => if i = W.n then p else W.ρ i, n := W.n + 1 } ∧ StRep G { H := upd W.H p o, U := W.U, ρ := fun i => if i = W.n then p else W.ρ i, n := W.n + 1 } Z (S ++ [so]) := by
  have hu : W.U p := st.zu p (.inr rfl)
  have go : Go Z W { H := upd W.H p o, U := W.U, ρ := fun i => if i = W.n then p else W.ρ i, n := W.n + 1 } :=
    ⟨⟨⟨fun a q _ h u => ⟨(upd_ne (fun e : a = p => u (e ▸ hu))).trans h, u⟩⟩, fun i hi => by show (if i = W.n then p else W.ρ i) = _; rw [if_neg (by omega)], by show W.n ≤ W.n + 1; omega⟩, fun a z => upd_ne (fun e : a = p => hz (e ▸ z))⟩
  have rho : ∀ i, i < S.length → (if i = W.n then p else W.ρ i) = W.ρ i := fun i hi => by rw [if_neg]; have := st.len; omega
  have rhoN : (if S.length = W.n then p else W.ρ S.length) = p := if_pos st.len.symm
  have get : ∀ {j : Nat} {so' : SO}, (S ++ [so])[j]? = some so' → (j < S.length ∧ S[j]? = some so') ∨ (j = S.length ∧ so' = so) := fun {j so'} h => by
    by_cases hj : j < S.length
    · rw [List.getElem?_append_left hj] at h
      exact .inl ⟨hj, h⟩
    · have hl := (List.getElem?_eq_some_iff.mp h).1
      rw [List.length_append, List.length_singleton] at hl
      have hj' : j = S.length := by omega
      subst hj'
      rw [List.getElem?_append_right (Nat.le_refl _), Nat.sub_self] at h
      simp at h
      exact .inr ⟨rfl, h.symm⟩
  have ne : ∀ {j : Nat} {so' : SO}, S[j]? = some so' → so'.live = true → W.ρ j ≠ p := fun {j so'} h l e => (st.obj j so' h l).2.1 (.inr e)
  refine ⟨go, tabs_ext st.tab (fun b ps h => (upd_ne (fun e2 : b = p => by rw [e2, hp] at h; exact nt.1 ps (Option.some.inj h))).trans h) (fun b q h => (upd_ne (fun e2 : b = p => by rw [e2, hp] at h; exact nt.2 p q (by rw [Option.some.inj h]))).trans h), by rw [List.length_append, List.length_singleton, ← st.len], fun a z => st.zu a (.inl z), fun a u => ?_, fun j so' h l => ?_, fun j j' so1 so2 h1 h2 l1 l2 q => ?_, fun a u => ?_⟩
  · by_cases ha : a = p
    · subst ha; exact ⟨o, upd_same, obj_nc hl ho upd_same⟩
    · obtain ⟨q, h, n⟩ := st.ut a u
      exact ⟨q, by show upd W.H p o a = _; rw [upd_ne ha]; exact h, n⟩
  · show W.U (if j = W.n then p else W.ρ j) ∧ ¬ Z (if j = W.n then p else W.ρ j) ∧ ObjR G _ (if j = W.n then p else W.ρ j) so'
    rcases get h with ⟨hj, h⟩ | ⟨rfl, rfl⟩
    · rw [rho j hj]
      obtain ⟨h1, h2, h3⟩ := st.obj j so' h l
      exact ⟨h1, fun z => h2 (.inl z), ObjR.ext go.toExt (upd_ne (ne h l)) h3⟩
    · rw [rhoN]
      exact ⟨hu, hz, ho⟩
  · have q : (if j = W.n then p else W.ρ j) = (if j' = W.n then p else W.ρ j') := q
    rcases get h1 with ⟨hj, k1⟩ | ⟨e1, _⟩ <;> rcases get h2 with ⟨hj', k2⟩ | ⟨e2, _⟩
    · rw [rho j hj, rho j' hj'] at q
      exact st.inj j j' so1 so2 k1 k2 l1 l2 q
    · subst e2
      rw [rho j hj, rhoN] at q
      exact absurd q (ne k1 l1)
    · subst e1
      rw [rho j' hj', rhoN] at q
      exact absurd q.symm (ne k2 l2)
    · omega
  · rcases st.back a u with z | ⟨j, so', h, l, q⟩
    · rcases z with z | rfl
      · exact .inl z
      · exact .inr ⟨S.length, so, by simp, hl, rhoN⟩
    · refine .inr ⟨j, so', ?_, l, ?_⟩
      · rw [List.getElem?_append_left (List.getElem?_eq_some_iff.mp h).1]; exact h
      · show (if j = W.n then p else W.ρ j) = a
        rw [rho j (List.getElem?_eq_some_iff.mp h).1]; exact q
theorem cPrs_len : ∀ (L : List (CA × CE')) {env : DEnv} {S S1 : Sto} {ps : List Pr3}, cPrs L env S = .ok ps S1 → ps.length = L.length
  | [], env, S, S1, ps, h => by simp [cPrs] at h; simp [← h.1]
  | (fa, fv) :: L, env, S, S1, ps, h => by
    simp only [cPrs] at h
    cases hf : fa env S with
    | bad => rw [hf] at h; cases h
    | exc c ns ds S' => rw [hf] at h; cases h
    | ok ds S1 =>
      rw [hf] at h
      simp only [R.bind_ok] at h
      split at h
      · split at h
        · split at h
          · cases hv : fv env _ with
            | bad => rw [hv] at h; cases h
            | exc c ns ds S' => rw [hv] at h; cases h
            | ok d S3 =>
              rw [hv] at h
              simp only [R.bind_ok] at h
              split at h
              · cases hr : cPrs L env _ with
                | bad => rw [hr] at h; cases h
                | exc c ns ds S' => rw [hr] at h; cases h
                | ok ps' S5 =>
                  rw [hr] at h
                  simp only [R.bind_ok] at h
                  cases h
                  simp [cPrs_len L hr]
              · cases h
          · cases h
        · cases h
      · cases h
theorem pf_dispT {L : List (CA × CE')} {keys : List (Option Expr)} {values : List Expr} {pos : Pos} (cg : CtxG G X k) (h : ∀ Wx, Takes X Wx → PPs X pos keys values (trsOf G Wx L)) (hL : L.length ≤ 15) (hall : keys.all (·.isSome) = true := by rfl) (hl : keys.length = values.length := by rfl) (h0 : keys ≠ [] := by simp) (h15 : keys.length ≤ 15 := by decide) : PF G X (.Dict keys values pos) (cDispT L) := fun Wx tk => by
  have hu : X.A.units < cLine := by
    have := cg.room.un
    omega
  refine PE.imp (pe_dispT hu (h Wx tk) hall hl h0 h15) fun σ H Q h => ?_
  obtain ⟨Z, S, W, env, rfl, st, er, p⟩ := h
  intro q np
  have nz := sNone st np
  have gm := more_go st np (.dT [])
  have sm := more_st st np (.dT []) (nc_dT [])
  refine prs_ok (W := W.more q (.dT [])) L sm (er.ext gm.toExt) ?_
  simp only [cDispT] at p
  cases hf : cPrs L env S with
  | bad => rw [hf] at p; exact p.elim
  | exc c ns ds S' =>
    rw [hf] at p
    exact fun cls dx W' go st' x => p cls dx (W'.done q) (gm.trans ⟨⟨⟨fun a o n hh u => ⟨(go.kp a o n hh u).1, fun z => (go.kp a o n hh u).2 z.1⟩⟩, go.rho, go.le⟩, fun a z => go.z a (.inl z)⟩) (done_st nz st') (by
      obtain ⟨h1, h2⟩ := x
      refine ⟨h1, h2.imp id ?_⟩
      rintro ⟨d0, vs, e1, e2, e3, e4, e5⟩
      exact ⟨d0, vs, e1, e2, fun z => e3 z.1, e4, Reps.kp (done_go (p := q) W') _ e5⟩)
  | ok ps S1 =>
    rw [hf] at p
    simp only [R.bind_ok] at p
    intro pvs W' go st' pr
    have hq : W'.H q = some (.dT []) := (go.z q (.inr rfl)).trans upd_same
    obtain ⟨more, m1, m2, us, m3, m4, m5, m6⟩ := merge_rep (kk := []) (ks := []) (vs := []) (us := []) pr (by simp only [Reps]) rfl rfl
    have pl := cPrs_len L hf
    refine ⟨hq, more, m1, by omega, ?_⟩
    generalize ps.foldl putT3 ([], [], []) = r at *
    obtain ⟨kk, ks, vs⟩ := r
    simp only at p m3 m4 m5 m6
    split at p
    · rename_i hne
      have ow := own_st (so := .dct ks vs) (o := .dT (mergeT [] more)) nz st' hq ⟨(fun _ e => nomatch e), fun c q e => by unfold LamX.CodeO at e; cases e⟩ rfl (by
        have kp : Kp W' { H := upd W'.H q (.dT (mergeT [] more)), U := W'.U, ρ := fun i => if i = W'.n then q else W'.ρ i, n := W'.n + 1 } := ⟨fun a o _ h u => ⟨(upd_ne (fun e : a = q => u (by rw [e]; exact st'.zu q (.inr rfl)))).trans h, u⟩⟩
        refine ⟨us, Reps.kp kp _ m3, .inr ⟨hne, kk, m4, m5, ?_⟩⟩
        show upd W'.H q _ q = _
        rw [upd_same, ← m6]; rfl)
      refine p (.ref q) _ (Go.trans gm (Go.trans (Go.weakZ go fun a z => .inl z) ow.1)) ow.2 ⟨?_, ?_⟩
      · show S1.length < W'.n + 1
        rw [st'.len]; omega
      · show V.ref q = V.ref (if S1.length = W'.n then q else _)
        rw [if_pos st'.len.symm]
    · exact p.elim
theorem ppg_nil {Wx : WX} {pos : Pos} : PPs X pos [] [] (trsOf G Wx []) := pps_nil
theorem ppg_cons {Wx : WX} {pos tpos : Pos} {x1} {es : List Expr} {v : Expr} {ks : List (Option Expr)} {vs : List Expr} {fa : CA} {fv : CE'} {L : List (CA × CE')} (tk : Takes X Wx) (hk : PFA G X es fa) (hv : PF G X v fv) (hr : PPs X pos ks vs (trsOf G Wx L)) :
    PPs X pos (some (.Tuple es x1 tpos) :: ks) (v :: vs) (trsOf G Wx ((fa, fv) :: L)) := pps_cons (pe_tup (hk Wx tk)) (hv Wx tk) hr
end
end Fe

set_option Elab.async false
set_option linter.all false
set_option maxRecDepth 100000
set_option maxHeartbeats 4000000
namespace Fe
open PySem PySem.Spec PyProof.Rows L2
/-! ### sorted: of a list, of a dict -/
noncomputable section
def encP (x : P) : PyData := (toPy x).getD .none
def leP (x y : P) : Bool := !PySem.W.dataLt (encP y) (encP x)
structure SrtOk (xs : List P) : Prop where
  py : ∀ x ∈ xs, ∃ d, toPy x = some d ∧ d.depth ≤ 60
  al : PySem.W.AllAlike (xs.map encP)
  so : PySem.W.Sortable (xs.map encP)
  sz : xs.length ≤ sizeLine
/-- what is sorted -/
def srtOf (S : Sto) : D → Option (List P)
  | .ref i => match S[i]? with
    | some (.dct ks _) => some ks
    | _ => asL S (.ref i)
  | .p (.dct ks _) => some ks
  | d => asL S d
def dSorted (S : Sto) (d : D) : Option D := (srtOf S d).bind fun xs => @ite _ (SrtOk xs) (Classical.propDecidable _) (some (.p (.lst (xs.mergeSort leP)))) none
end
theorem m_sorted {S : Sto} {d : D} {xs : List P} (h : srtOf S d = some xs) (ok : SrtOk xs) : dSorted S d = some (.p (.lst (xs.mergeSort leP))) := by
  unfold dSorted
  rw [h, Option.bind_some, if_pos ok]
section
variable {G : Gc} {Wx : WX} {Z : Addr → Prop} {W : Wd} {S : Sto} {σ : L2.St} {X : Cx} {k : Nat}
def RvP (G : Gc) (W : Wd) (v : Value) (b : P) : Prop := ∃ u, RelV u v ∧ Rep G W b u
theorem each_of : ∀ {xs : List P} {us : List V} {vs : List Value}, Reps G W xs us → Vals us vs → PySem.W.EachIs (RvP G W) vs xs
  | [], [], _, _, h => by cases h; exact .nil
  | [], _ :: _, _, r, _ => by simp [Reps] at r
  | _ :: _, [], _, r, _ => by simp [Reps] at r
  | x :: xs, u :: us, _, r, h => by
    simp only [Reps] at r
    cases h with
    | cons h1 h2 => exact .cons ⟨u, h1, r.1⟩ (each_of r.2 h2)
theorem of_each : ∀ {vs : List Value} {xs : List P}, PySem.W.EachIs (RvP G W) vs xs → ∃ us, Reps G W xs us ∧ Vals us vs
  | _, _, .nil => ⟨[], by simp only [Reps], .nil⟩
  | _, _, .cons ⟨u, h1, h2⟩ t => by
    obtain ⟨us, r, v⟩ := of_each t
    exact ⟨u :: us, by simp only [Reps]; exact ⟨h2, r⟩, .cons h1 v⟩
theorem each_imp {α β : Type} {R R' : α → β → Prop} : ∀ {as : List α} {bs : List β}, PySem.W.EachIs R as bs → (∀ a b, b ∈ bs → R a b → R' a b) → PySem.W.EachIs R' as bs
  | _, _, .nil, _ => .nil
  | _, _, .cons h t, f => .cons (f _ _ List.mem_cons_self h) (each_imp t fun a b hb => f a b (List.mem_cons_of_mem _ hb))
theorem each_len {α β : Type} {R : α → β → Prop} : ∀ {as : List α} {bs : List β}, PySem.W.EachIs R as bs → as.length = bs.length
  | _, _, .nil => rfl
  | _, _, .cons _ t => by simp [each_len t]
theorem rv_reads {pins : List (Addr × Obj)} {s : Shared} (hk : X.K = G.K) (I : Inv X pins σ W.H s) (st : StRep G W Z S) {v : Value} {b : P} (h : ∃ d, toPy b = some d ∧ d.depth ≤ 60) (r : RvP G W v b) : ∃ as, Reads s.heap v (encP b) as := by
  obtain ⟨d, hd, _⟩ := h
  obtain ⟨u, h1, h2⟩ := r
  have e : encP b = d := by unfold encP; rw [hd]; rfl
  rw [e]
  exact Dp.reads I d u v (toPyD_dp (x := .p b) hk st hd h2) h1
mutual
theorem rd_lt {h : Heap} : ∀ (d : PyData) (v : Value) (as : List Addr), Reads h v d as → ∀ a ∈ as, a < h.objs.size
  | .none, _, _, r, a, ha => by cases r; cases ha
  | .bool _, _, _, r, a, ha => by cases r; cases ha
  | .int _, _, _, r, a, ha => by cases r; cases ha
  | .str _, _, _, r, a, ha => by cases r; cases ha
  | .list xs, _, _, r, a, ha => by
    cases r with
    | list h1 h2 h3 h4 =>
      rcases List.mem_cons.mp ha with rfl | ha
      · exact Heap.lt_size h1
      · exact rds_lt xs _ _ h4 a ha
  | .tuple xs, _, _, r, a, ha => by
    cases r with
    | tuple h1 h2 h3 h4 => exact rds_lt xs _ _ h4 a ha
  | .dict kvs, _, _, r, a, ha => by
    cases r with
    | dict h1 h2 h3 h4 h5 =>
      rw [List.cons_append] at ha
      rcases List.mem_cons.mp ha with rfl | ha
      · exact Heap.lt_size h1
      · rcases List.mem_append.mp ha with ha | ha
        · exact rdk_lt kvs _ _ h4 a ha
        · exact rdv_lt kvs _ _ h5 a ha
theorem rds_lt {h : Heap} : ∀ (ds : List PyData) (vs : List Value) (as : List Addr), ReadsAll h vs ds as → ∀ a ∈ as, a < h.objs.size
  | [], _, _, r, a, ha => by cases r; cases ha
  | d :: ds, _, _, r, a, ha => by
    cases r with
    | cons h1 h2 =>
      rcases List.mem_append.mp ha with ha | ha
      · exact rd_lt d _ _ h1 a ha
      · exact rds_lt ds _ _ h2 a ha
theorem rdk_lt {h : Heap} : ∀ (kvs : List (PyData × PyData)) (vs : List Value) (as : List Addr), ReadsAll h vs (kvs.map (·.1)) as → ∀ a ∈ as, a < h.objs.size
  | [], _, _, r, a, ha => by cases r; cases ha
  | d :: ds, _, _, r, a, ha => by
    rw [List.map_cons] at r
    cases r with
    | cons h1 h2 =>
      rcases List.mem_append.mp ha with ha | ha
      · exact rd_lt d.1 _ _ h1 a ha
      · exact rdk_lt ds _ _ h2 a ha
theorem rdv_lt {h : Heap} : ∀ (kvs : List (PyData × PyData)) (vs : List Value) (as : List Addr), ReadsAll h vs (kvs.map (·.2)) as → ∀ a ∈ as, a < h.objs.size
  | [], _, _, r, a, ha => by cases r; cases ha
  | d :: ds, _, _, r, a, ha => by
    rw [List.map_cons] at r
    cases r with
    | cons h1 h2 =>
      rcases List.mem_append.mp ha with ha | ha
      · exact rd_lt d.2 _ _ h1 a ha
      · exact rdv_lt ds _ _ h2 a ha
end
theorem leP_eq : (PySem.W.dataLe false encP) = leP := by
  funext x y
  rfl
theorem sorted_list {pins : List (Addr × Obj)} {s : Shared} {Q : VK} {a : Addr} {xs : List P} {us : List V} (cg : CtxG G X k) (I : Inv X pins σ W.H s) (st : StRep G W Z S) (hs : SqL X.K W.H a us) (r : Reps G W xs us) (ok : SrtOk xs)
    (q : ∀ v W', Go Z W W' → StRep G W' Z S → RepD G W' (.p (.lst (xs.mergeSort leP))) v → Q v W'.H) : wpAny (model X.prog X.w) X.A (call (.builtin "sorted") [.ref a]) (EP X pins σ Q) X.xe s := by
  obtain ⟨its, rv, hl, hz⟩ := I.list hs
  have ev := each_of r rv
  have er := each_imp ev fun v b hb h => rv_reads cg.kk I st (ok.py b hb) h
  have un := cg.room.un
  refine PySem.W.sorted_data (bs := xs) (enc := encP) hl.isList ev er ok.al ok.so ok.sz (fun b hb => ?_) fun out h1 h2 => ?_
  · obtain ⟨d, hd, h60⟩ := ok.py b hb
    have e : encP b = d := by unfold encP; rw [hd]; rfl
    rw [e]; omega
  · rw [leP_eq] at h2
    obtain ⟨us', r', v'⟩ := of_each h2
    obtain ⟨ep, he'⟩ := PyProof.Rows.sortedAll_at s.heap its out.toArray
    have hlen : us'.length ≤ sizeLine := by
      rw [← Reps.length _ _ r', List.length_mergeSort]
      exact ok.sz
    have np : W.H (s.heap.objs.size + 1) = none := I.hok.fresh (Nat.le_succ _)
    have nl := new_lst st r' np
    exact ⟨.ref _, upd W.H (s.heap.objs.size + 1) (.lst us'), I.laid (t' := s.toks) (fun _ _ => PyProof.Rows.sortedAll_old) (Nat.le_succ _) ⟨hlen, out, ep, v', he'⟩, rfl, q _ (W.put (s.heap.objs.size + 1) (.lst us')) (put_go st np _) (put_st st np _) nl⟩
/-- the list of what a dict's walk gives, sorted -/
theorem sorted_dict {pins : List (Addr × Obj)} {s : Shared} {Q : VK} {T : String} {d a : Addr} {n : Nat} {Pk : Nat → Value → Prop} {OK : Heap → Prop} {xs : List P} (cg : CtxG G X k) (I : Inv X pins σ W.H s) (st : StRep G W Z S) (src : PySem.W.KdlSrc X.prog X.w T d a n Pk OK) (hok : OK s.heap) (hn : n = xs.length) (hk : ∀ acc : Array Value, ItemsOf Pk acc n → PySem.W.EachIs (RvP G W) acc.toList xs) (ok : SrtOk xs)
    (q : ∀ v W', Go Z W W' → StRep G W' Z S → RepD G W' (.p (.lst (xs.mergeSort leP))) v → Q v W'.H) : wpAny (model X.prog X.w) X.A (call (.builtin "sorted") [.ref d]) (EP X pins σ Q) X.xe s := by
  refine Calls.call_function_entry PyProof.Rows.kind_sorted PyProof.Rows.plain_sorted PyProof.Rows.entry_sorted (PyProof.Rows.args_sorted1 _) ?_
  unfold Builtin.«sorted»
  refine wpAny_bind (m := checkCount "sorted" 1 1 _) (wpAny_pure ?_)
  refine wpAny_bind (PySem.W.kdu_collect (A := X.A.in1) src (I.ok.hd cg.calm) hok (by rw [hn]; exact ok.sz) fun h' tk acc hkp hacc => ?_)
  have ev := hk acc hacc
  have hal : acc.toList.length = xs.length := each_len ev
  have I1 : Inv X pins σ W.H { s with heap := h', toks := tk } := I.kept hkp
  refine wpAny_bind (wpAny_newList ?_ (by rw [hal]; exact ok.sz))
  have hoL : (h'.push (seqObj "list" acc.toList.toArray 0)).get? h'.objs.size = some (seqObj "list" acc.toList.toArray 0) := Heap.get?_push_size _ rfl
  show wpAny _ _ _ _ _ { s with heap := h'.push (seqObj "list" acc.toList.toArray 0), toks := tk }
  have er : PySem.W.EachIs (fun v b => ∃ as, Reads (h'.push (seqObj "list" acc.toList.toArray 0)) v (encP b) as ∧ h'.objs.size ∉ as) acc.toList xs := each_imp ev fun v b hb h => by
    obtain ⟨as, r⟩ := rv_reads cg.kk I1 st (ok.py b hb) h
    refine ⟨as, PyProof.Rows.Reads.keeps (fun _ _ e => Heap.get?_push_of_some _ e) r, fun hm => ?_⟩
    exact absurd (rd_lt _ _ _ r _ hm) (Nat.lt_irrefl _)
  have un := cg.room.un
  refine wpAny_bind (wpAny_holding (PySem.W.list_sort_data (s := { s with heap := h'.push (seqObj "list" acc.toList.toArray 0), toks := tk }) (A := X.A.in1) (bs := xs) (enc := encP) hoL ev er ok.al ok.so ok.sz (fun b hb => ?_) fun out h1 h2 => ?_))
  · obtain ⟨d, hd, h60⟩ := ok.py b hb
    have e : encP b = d := by unfold encP; rw [hd]; rfl
    rw [e]
    show X.A.units + 1 + 1 + d.depth < cLine
    omega
  · rw [leP_eq] at h2
    obtain ⟨us', r', v'⟩ := of_each h2
    obtain ⟨e', he'⟩ := PyProof.Rows.sortedHeap_at (vs := acc.toList) (out := out.toArray) hoL
    have hlen : us'.length ≤ sizeLine := by
      rw [← Reps.length _ _ r', List.length_mergeSort]
      exact ok.sz
    have np : W.H h'.objs.size = none := I1.hok.fresh (Nat.le_refl _)
    have nl := new_lst st r' np
    refine wpAny_pure ⟨_, rfl, .ref h'.objs.size, upd W.H h'.objs.size (.lst us'), I1.laid (t' := tk) (fun b u e => ?_) (Nat.le_refl _)
      (show ObjOk X.prog X.w _ _ _ (.lst us') from ⟨hlen, out, e', v', he'⟩), rfl, q _ (W.put h'.objs.size (.lst us')) (put_go st np _) (put_st st np _) nl⟩
    have hb : b < h'.objs.size := Heap.lt_size e
    rw [PyProof.Rows.sortedHeap_old (Nat.ne_of_lt hb) (by rw [size_push']; exact Nat.lt_succ_of_lt hb)]
    exact Heap.get?_push_of_some _ e
theorem keys_each : ∀ {xs : List P} {kk : List Key} (vs : List Value), keysD xs = some kk → vs.length = xs.length → (∀ (j : Nat) (v : Value), vs[j]? = some v → ∃ q, kk[j]? = some q ∧ keyIs q v = true) → PySem.W.EachIs (RvP G W) vs xs
  | [], kk, [], _, _, _ => .nil
  | [], kk, _ :: _, _, el, _ => by simp at el
  | _ :: _, kk, [], _, el, _ => by simp at el
  | y :: xs, kk, v :: vs', hk, el, e1 => by
    simp only [keysD] at hk
    split at hk
    · rename_i q qs h1 h2
      cases hk
      refine .cons ?_ (keys_each vs' h2 (by simpa using el) fun j v e => by have := e1 (j + 1) v (by simpa using e); simpa using this)
      obtain ⟨q', e2, e3⟩ := e1 0 v rfl
      simp only [List.getElem?_cons_zero, Option.some.injEq] at e2
      subst e2
      rcases keyIs_shape e3 with ⟨i, t, ek, ev⟩ | ⟨z, t, ek, ev⟩
      · subst ek ev
        cases y <;> simp [keyD] at h1
        subst h1
        exact ⟨.int _, ⟨t, rfl⟩, by simp only [Rep]⟩
      · subst ek ev
        cases y <;> simp [keyD] at h1
        subst h1
        exact ⟨.str _, ⟨t, rfl⟩, by simp only [Rep]⟩
    · cases hk
theorem reps_keys : ∀ {xs : List P} {kk : List Key}, keysD xs = some kk → Reps G W xs (kk.map kV)
  | [], kk, h => by simp [keysD] at h; subst h; simp only [List.map_nil, Reps]
  | x :: xs, kk, h => by
    simp only [keysD] at h
    split at h
    · rename_i q qs h1 h2
      cases h
      simp only [List.map_cons, Reps]
      refine ⟨?_, reps_keys h2⟩
      cases x <;> simp [keyD] at h1 <;> subst h1 <;> simp only [Rep] <;> rfl
    · cases h
theorem tkeys_each (st : StRep G W Z S) : ∀ {xs : List P} {kk : List (List Key)} {bs : List Addr}, tkeysD xs = some kk → Paired (fun (q : List Key) b => W.H b = some (.tup (q.map kV))) kk bs → PySem.W.EachIs (RvP G W) (bs.map Value.ref) xs
  | [], kk, bs, hk, h => by
    simp [tkeysD] at hk; subst hk
    cases h
    exact .nil
  | x :: xs, kk, bs, hk, h => by
    cases x <;> simp only [tkeysD, reduceCtorEq] at hk
    rename_i es
    split at hk
    · rename_i q qs h1 h2
      cases hk
      cases h with
      | @cons _ b _ bs a t =>
        refine .cons ⟨.ref b, rfl, ?_⟩ (tkeys_each st h2 t)
        simp only [Rep]
        have nu : ¬ W.U b := fun u => by
          obtain ⟨o, e1, e2⟩ := st.ut b u
          rw [a] at e1
          cases e1
          exact e2.tp _ rfl
        exact ⟨b, q.map kV, rfl, .inl ⟨nu, .inl a⟩, reps_keys h1⟩
    · cases hk
theorem c_sorted (cg : CtxG G X k) : CallR X (.builtin "sorted") (vsD G (on1 dSorted)) := call1 fun pins s σ x u Q Z S W d1 d I ru st r1 e q => by
  unfold dSorted at e
  obtain ⟨xs, h, e⟩ := Option.bind_eq_some_iff.mp e
  split at e
  · rename_i ok
    cases e
    have lst : ∀ {d1 : D}, asL S d1 = some xs → RepD G W d1 x → wpAny (model X.prog X.w) X.A (call (.builtin "sorted") [u]) (EP X pins σ Q) X.xe s := fun {d1} h r1 => by
      obtain ⟨a, us, rfl, t, r⟩ := asL_rep cg.kk st h r1
      cases ru
      exact sorted_list cg I st t r ok q
    have dk : ∀ {a : Addr} {vs : List V} {kk : List Key}, x = .ref a → keysD xs = some kk → kk.length = vs.length → Rd W.H a (.dK (kk.zip vs)) → wpAny (model X.prog X.w) X.A (call (.builtin "sorted") [u]) (EP X pins σ Q) X.xe s := fun {a vs kk} hx hk hl hr => by
      subst hx
      cases ru
      obtain ⟨z, lo, kvs, rel, dd⟩ := dk_rd I.hok hr
      obtain ⟨ep, hat⟩ := dd.dictAt
      have hkeys : kvs.map (·.1) = kk := by rw [← rel.keys, List.map_fst_zip (by omega)]
      have hn : kvs.length = xs.length := by rw [← keys_len hk, ← hkeys, List.length_map]
      refine sorted_dict cg I st (PySem.W.kdl_dict (knd := mixKind X.prog X.w) (kvs := kvs) (ep := ep) lo) hat hn (fun acc hacc => ?_) ok q
      refine keys_each _ hk (by rw [Array.length_toList, hacc.1, hn]) fun j v e => ?_
      obtain ⟨q, y, e1, e2⟩ := hacc.2 j v (by rw [← Array.getElem?_toList]; exact e)
      exact ⟨q, by rw [← hkeys, List.getElem?_map, e1]; rfl, e2⟩
    have dt : ∀ {a : Addr} {vs : List V} {kk : List (List Key)}, x = .ref a → tkeysD xs = some kk → kk.length = vs.length → Rd W.H a (.dT (kk.zip vs)) → wpAny (model X.prog X.w) X.A (call (.builtin "sorted") [u]) (EP X pins σ Q) X.xe s := fun {a vs kk} hx hk hl hr => by
      subst hx
      cases ru
      obtain ⟨z, hs, ks, pr, o, es, ep, ho, hxd, hdt, he, hnd⟩ := (show ObjOk X.prog X.w W.H s.heap a (.dT (kk.zip vs)) from hr.ok I.hok)
      have l1 : es.size = ks.length := size_of_entries he
      have l2 : (kk.zip vs).length = ks.length := Paired.length pr
      have hn : es.size = xs.length := by rw [l1, ← l2, List.length_zip, ← tkeys_len hk]; omega
      refine sorted_dict cg I st (kdl_raw hs hxd hdt) ho hn (fun acc hacc => ?_) ok q
      have ea : acc.toList = (ks.map fun x => x.2.1).map Value.ref := by
        have hl : acc.toList.length = ks.length := by rw [Array.length_toList, hacc.1]; exact l1
        apply List.ext_getElem?
        intro j
        rw [List.getElem?_map, List.getElem?_map]
        cases hj : acc.toList[j]? with
        | none =>
          have h1 := List.getElem?_eq_none_iff.mp hj
          rw [List.getElem?_eq_none (by omega)]
          rfl
        | some v =>
          obtain ⟨en, hen, hv⟩ := hacc.2 j v (by rw [← Array.getElem?_toList]; exact hj)
          have qe := entry_at he j
          rw [hen] at qe
          cases hb : ks[j]? with
          | none =>
            rw [hb] at qe
            exact nomatch (show some en = none from qe)
          | some b =>
            rw [hb] at qe
            have e2 : en = entryOfKey (tupleKind (mixKind X.prog X.w)) b := Option.some.inj qe
            rw [hv, e2]
            rfl
      rw [ea]
      refine tkeys_each st hk ?_
      have ik := isKeys_of pr
      unfold IsKeys at ik
      clear ea hacc hn l2 l1 he hnd ho pr
      have : ∀ {kk : List (List Key)} {vs : List V} {bs : List Addr}, kk.length = vs.length → Paired (fun (p : List Key × V) b => W.H b = some (.tup (p.1.map kV))) (kk.zip vs) bs → Paired (fun (q : List Key) b => W.H b = some (.tup (q.map kV))) kk bs := by
        intro kk
        induction kk with
        | nil => intro vs bs _ h; cases h; exact .nil
        | cons q kk ih =>
          intro vs bs hl h
          cases vs with
          | nil => simp at hl
          | cons v vs =>
            rw [List.zip_cons_cons] at h
            cases h with
            | cons a t => exact .cons a (ih (by simpa using hl) t)
      exact this hl ik
    unfold srtOf at h
    split at h
    · rename_i i
      split at h
      · rename_i ks vs hs
        cases h
        obtain ⟨_, _, us, rr, t⟩ := st.obj i _ hs rfl
        have rv := r1.2
        rcases t with ⟨kk, h1, h2, h3⟩ | ⟨_, kk, h1, h2, h3⟩
        · exact dk rv h1 h2 (.inl h3)
        · exact dt rv h1 h2 (.inl h3)
      · exact lst h r1
    · rename_i ks vs
      cases h
      simp only [RepD, Rep] at r1
      obtain ⟨a, us, rfl, t, rr⟩ := r1
      rcases t with ⟨_, kk, h1, h2, h3⟩ | ⟨_, kk, h1, h2, h3⟩
      · exact dk rfl h1 h2 h3
      · exact dt rfl h1 h2 h3
    · exact lst h r1
  · cases e
end
end Fe

set_option Elab.async false
set_option linter.all false
set_option maxRecDepth 100000
set_option maxHeartbeats 4000000
namespace Fe
open PySem PySem.Spec PyProof.Rows L2
section
variable {G : Gc} {X : Cx} {k : Nat}
/-! ### >, <=, >= of data -/
def dGtD (S : Sto) (x y : D) : Option D := match toPyD S x, toPyD S y with
  | some a, some b => if PySem.W.alike a b = true ∧ nn a = true ∧ a.depth < 100 then some (.p (.bl (PySem.W.dataLt b a))) else none
  | _, _ => none
def dLeD (S : Sto) (x y : D) : Option D := match toPyD S x, toPyD S y with
  | some a, some b => if PySem.W.alike a b = true ∧ nn a = true ∧ a.depth < 100 then some (.p (.bl (!PySem.W.dataLt b a))) else none
  | _, _ => none
def dGeD (S : Sto) (x y : D) : Option D := match toPyD S x, toPyD S y with
  | some a, some b => if PySem.W.alike a b = true ∧ nn a = true ∧ a.depth < 100 then some (.p (.bl (!PySem.W.dataLt a b))) else none
  | _, _ => none
theorem v_gtD (cg : CtxG G X k) : OpR X (compareOp .Gt) (v2D G dGtD) := by
  intro pins s σ H x y v u Q I rx ry h'
  obtain ⟨Z, S, W, d1, d2, d, rfl, st, r1, r2, e, q⟩ := h'
  unfold dGtD at e
  split at e
  · rename_i a b ha hb
    split at e
    · rename_i hc
      cases e
      obtain ⟨as, ra⟩ := Dp.reads I a x v (toPyD_dp cg.kk st ha r1) rx
      obtain ⟨bs, rb⟩ := Dp.reads I b y u (toPyD_dp cg.kk st hb r2) ry
      refine PySem.W.gt_data ra rb hc.1 (fun z => by rw [z] at hc; exact absurd hc.2.1 (by decide)) ?_ ⟨.bl (PySem.W.dataLt b a), W.H, I, rfl, q _ W (Go.refl _ _) st (mk_bl _)⟩
      have := cg.room.un
      have := Nat.min_le_left a.depth b.depth
      omega
    · cases e
  · cases e
theorem v_leD (cg : CtxG G X k) : OpR X (compareOp .LtE) (v2D G dLeD) := by
  intro pins s σ H x y v u Q I rx ry h'
  obtain ⟨Z, S, W, d1, d2, d, rfl, st, r1, r2, e, q⟩ := h'
  unfold dLeD at e
  split at e
  · rename_i a b ha hb
    split at e
    · rename_i hc
      cases e
      obtain ⟨as, ra⟩ := Dp.reads I a x v (toPyD_dp cg.kk st ha r1) rx
      obtain ⟨bs, rb⟩ := Dp.reads I b y u (toPyD_dp cg.kk st hb r2) ry
      refine PySem.W.le_data ra rb hc.1 (fun z => by rw [z] at hc; exact absurd hc.2.1 (by decide)) ?_ ⟨.bl (!PySem.W.dataLt b a), W.H, I, rfl, q _ W (Go.refl _ _) st (mk_bl _)⟩
      have := cg.room.un
      have := Nat.min_le_left a.depth b.depth
      omega
    · cases e
  · cases e
theorem v_geD (cg : CtxG G X k) : OpR X (compareOp .GtE) (v2D G dGeD) := by
  intro pins s σ H x y v u Q I rx ry h'
  obtain ⟨Z, S, W, d1, d2, d, rfl, st, r1, r2, e, q⟩ := h'
  unfold dGeD at e
  split at e
  · rename_i a b ha hb
    split at e
    · rename_i hc
      cases e
      obtain ⟨as, ra⟩ := Dp.reads I a x v (toPyD_dp cg.kk st ha r1) rx
      obtain ⟨bs, rb⟩ := Dp.reads I b y u (toPyD_dp cg.kk st hb r2) ry
      refine PySem.W.ge_data ra rb hc.1 (fun z => by rw [z] at hc; exact absurd hc.2.1 (by decide)) ?_ ⟨.bl (!PySem.W.dataLt a b), W.H, I, rfl, q _ W (Go.refl _ _) st (mk_bl _)⟩
      have := cg.room.un
      have := Nat.min_le_left a.depth b.depth
      omega
    · cases e
  · cases e
/-! ### tuples that the module holds -/
theorem rep_ktup {W : Wd} {a : Addr} {o : Obj} {its : Array Value} {n : Nat} {xs : List P} {vs : List V} (h : G.K.lookup a = some o) (hc : o.cls = .type "tuple") (hd : o.data = .seq its n) (hs : its.size ≤ sizeLine) (hv : Vals vs its.toList) (r : Reps G W xs vs) : Rep G W (.tup xs) (.ref a) := by
  simp only [Rep]
  exact ⟨a, vs, rfl, .inr ⟨o, its, n, h, hc, hd, hs, hv⟩, r⟩
end
end Fe

set_option Elab.async false
set_option linter.all false
set_option maxRecDepth 100000
set_option maxHeartbeats 4000000
namespace Fe
open PySem PySem.Spec PyProof.Rows L2
/-! ### len of an own class; a list put together at a place -/
section
variable {G : Gc} {Wx : WX} {Z : Addr → Prop} {W : Wd} {S : Sto} {σ : L2.St} {X : Cx} {k j : Nat} {f : Addr} {fd : FuncData} {ps : List Str} {Fd : FD}
/-- a def's answer to values that are pure -/
def ownP (Fd : FD) (xs : List D) : Option P := match allP xs with
  | some _ => match Fd xs [] with
    | .ok (.p y) _ => some y
    | _ => none
  | none => none
theorem run_ownP {A : Around} {pins : List (Addr × Obj)} {s : Shared} {xs : List D} {vs : List V} {us : List Value} {y : P} {E : Value → Shared → Prop} (F : FnG X.prog X.w G X.mg X.base j f fd ps Fd) (hb : Binds G.K fd ps []) (cg : CtxG G X k) (hr : Room j A)
    (hf : A.frames = X.A.frames) (hgd : A.guards = some []) (I : Inv X pins σ W.H s) (st : StRep G W Z S) (rd : RepDs G W xs vs) (rv : Vals vs us) (ha : ownP Fd xs = some y) :
    wpAny (model X.prog X.w) A (call (.ref f) us) (fun z s' => ∃ v W', RelV v z ∧ Rep G W' y v ∧ Inv X pins σ W'.H s' ∧ Go Z W W' ∧ StRep G W' Z S) E s := by
  unfold ownP at ha
  split at ha
  rotate_left
  · cases ha
  rename_i xp hx
  split at ha
  rotate_left
  · cases ha
  rename_i S2 hF
  cases ha
  have p : PostE G (wxE fun _ _ _ => False) Z W [] (fun v H' => ∃ W', W'.H = H' ∧ Go Z W W' ∧ StRep G W' Z S ∧ Rep G W' y v) (pureF Fd xs S) := by
    unfold pureF
    rw [hx]
    simp only [hF, pureR, pureD]
    exact fun v W' go st' r' => ⟨W', rfl, go, st', r'⟩
  have hl : xs.length = ps.length := Decidable.byContradiction fun hl => by
    rw [F.len _ _ hl] at hF
    cases hF
  have e0 : Env0 X.prog X.w G.K X.mg X.base A X.stack s W.H := by
    have e := Env0.cg cg.kk I.env0
    exact ⟨by rw [hf]; exact e.frames, e.mod, e.bs, e.bsz, e.funs, e.frf, e.hok, e.bare⟩
  have kin : G.K.In s.heap := cg.kk ▸ I.kIn
  have hlu : us.length = ps.length := by rw [← rv.length, ← RepDs.length rd]; exact hl
  refine wpAny_call (codeAny_mono (F.pure.run A X.stack s ⟨us, []⟩ us vs Z S W xs _ (fun _ _ _ => False) hr hgd e0 (by
    have := hb s us kin (by simpa using hlu)
    simpa using this) rv st rd p) fun r s' hq => ?_)
  cases r with
  | error e => obtain ⟨_, _, _, _, _, _, _, _, _, _, _, _, hE⟩ := hq; exact hE.elim
  | ok fl =>
    cases fl with
    | ret w =>
      obtain ⟨z, H', I', rz, W', eH, go, st', r'⟩ := I.after hq
      subst eH
      exact ⟨z, W', rz, r', I', go, st'⟩
    | next => exact False.elim hq
    | brk => exact False.elim hq
    | cont => exact False.elim hq
def dLenOwn (c : Nat) (Fd : FD) (S : Sto) (d : D) : Option D := if clsOf S d = some c then (match ownP Fd [d] with
  | some (.int n) => if 0 ≤ n ∧ n < 2 ^ 63 then some (.p (.int n)) else none
  | _ => none) else none
theorem c_lenOwn {c : Nat} (F : FnG X.prog X.w G X.mg X.base j f fd ps Fd) (hb : Binds G.K fd ps []) (cg : CtxG G X k) (hj : j + 1 ≤ k)
    (hs : PySem.W.findIn G.K (.ref (G.cl c)) "__len__" = some (some (.ref f))) (hf : PySem.W.isFn G.K (.ref f) = true) : CallR X (.builtin "len") (vsD G (on1 (dLenOwn c Fd))) := call1 fun pins s σ x u Q Z S W d1 d I ru st r1 e q => by
  unfold dLenOwn at e
  split at e
  · rename_i hc
    split at e
    · rename_i n hn
      split at e
      · rename_i hz
        cases e
        obtain ⟨a, dx, fs, rfl, hA, _⟩ := ins_rep st hc r1
        cases ru
        obtain ⟨mA, J, _⟩ := ins_get I.hok hA
        obtain ⟨od, J, _⟩ := J.look
        obtain ⟨m, hF⟩ := I.fr
        have kk : X.K = G.K := cg.kk
        refine PySem.W.len_K hF I.ok.mod.kin J (by rw [kk]; exact hs) (by rw [kk]; exact hf) ?_
        refine wpAny_mono (run_ownP F hb cg (cg.room.mono hj).in1 rfl cg.grd I st (xs := [d1]) (vs := [.ref a]) ⟨r1, True.intro⟩ (.cons rfl .nil) hn) (fun z s' hz' => ?_) fun _ _ x => x
        obtain ⟨v, W', rv, rr, I', go, st'⟩ := hz'
        simp only [Rep] at rr
        subst rr
        obtain ⟨t, rfl⟩ := rv
        exact ⟨hz, .int n, W'.H, I'.tok _, ⟨_, rfl⟩, q _ W' go st' (mk_int _)⟩
      · cases e
    · cases e
  · cases e
/-- a + b of lists, to a place -/
def cAddR (fa fb : CE') : CE' := fun env S => (fa env S).bind fun x S1 => (fb env S1).bind fun y S2 => match asM S2 x, asM S2 y with
  | some xs, some ys => if xs.length + ys.length ≤ sizeLine then .ok (.ref S2.length) (S2 ++ [.lst (xs ++ ys)]) else .bad
  | _, _ => .bad
theorem pf_addR {a b : Expr} {fa fb : CE'} {pos : Pos} (ha : PF G X a fa) (hb : PF G X b fb) : PF G X (.BinOp a .Add b pos) (cAddR fa fb) := fun Wx tk => by
  refine PE.imp (pe_op op_cat (ha Wx tk) (hb Wx tk)) fun σ H Q h => ?_
  obtain ⟨Z, S, W, env, rfl, st, er, p⟩ := h
  refine ⟨Z, S, W, env, rfl, st, er, (seqEE p).mono fun v H1 h1 => ?_⟩
  obtain ⟨d1, S1, W1, rfl, go1, st1, r1, p1⟩ := h1
  refine ⟨Z, S1, W1, env, rfl, st1, er.ext go1.toExt, (seqEE p1).mono fun v2 H2 h2 => ?_⟩
  obtain ⟨d2, S2, W2, rfl, go2, st2, r2, p2⟩ := h2
  split at p2
  · rename_i xs ys e1 e2
    split at p2
    · rename_i hl
      obtain ⟨a, vs, rfl, t1, rr1⟩ := asM_rep st2 e1 (RepD.ext go2.toExt r1)
      obtain ⟨b, us, rfl, t2, rr2⟩ := asM_rep st2 e2 r2
      have l1 := Reps.length _ _ rr1
      have l2 := Reps.length _ _ rr2
      refine ⟨a, b, vs, us, rfl, rfl, t1, t2, by omega, fun p np => ?_⟩
      have gg := grow_go st2 np (.lst (vs ++ us))
      refine p2 (.ref p) _ gg (grow_st st2 np rfl ⟨_, upd_same, Reps.ext gg.toExt _ (Reps.append _ _ rr1 rr2)⟩) ⟨by rw [← st2.len]; exact Nat.lt_succ_self _, ?_⟩
      show _ = V.ref (if S2.length = W2.n then p else W2.ρ S2.length)
      rw [if_pos st2.len.symm]
    · exact p2.elim
  · exact p2.elim
end
end Fe

set_option Elab.async false
set_option linter.all false
set_option maxRecDepth 100000
set_option maxHeartbeats 4000000
namespace Fe
open PySem PySem.Spec PyProof.Rows L2
/-! ### chains of three comparisons -/
section
variable {X : Cx} {a b c d : Expr} {ta tb tc td : TE} {pos : Pos}
def tChain3 (r r' r'' : R2) (ta tb tc td : TE) : TE := fun σ H Q => ta σ H fun x H1 => tb σ H1 fun y H2 => r x y H2 fun z H3 => ∃ k, z = .bl k ∧
  (if k = true then tc σ H3 fun w' H4 => r' y w' H4 fun z' H5 => ∃ k', z' = .bl k' ∧ (if k' = true then td σ H5 fun u H6 => r'' w' u H6 Q else Q (.bl false) H5) else Q (.bl false) H3)
theorem pe_chain3 {op op' op'' : CmpOp} {r r' r'' : R2} (ho : OpR X (compareOp op) r) (ho' : OpR X (compareOp op') r') (ho'' : OpR X (compareOp op'') r'') (ha : PE X a ta) (hb : PE X b tb) (hc : PE X c tc) (hd : PE X d td)
    (hm : lastMarks [op, op', op''] [b, c, d] = false := by with_unfolding_all rfl) : PE X (.Compare a [op, op', op''] [b, c, d] pos) (tChain3 r r' r'' ta tb tc td) := by
  refine ⟨fun pins s σ H Q I h => ?_⟩
  refine Compare_chain (thn (ha.run pins s σ H _ I h) fun v s1 ⟨x, H1, I1, r1, q1⟩ => chain_link (thn (hb.run pins s1 σ H1 _ I1 q1) fun u s2 ⟨y, H2, I2, r2, q2⟩ =>
    thn (ho pins s2 σ H2 x y v u _ I2 r1 r2 q2) fun d s3 ⟨z, H3, I3, r3, k, e, q3⟩ => ?_)) hm
  subst e
  cases r3
  refine wpAny_truthy_bool ?_
  cases k with
  | false => exact ite_ff ⟨.bl false, H3, I3, rfl, q3⟩
  | true =>
    refine ite_tt (chain_link (thn (hc.run pins s3 σ H3 _ I3 q3) fun w' s4 ⟨z', H4, I4, r4, q4⟩ => thn (ho' pins s4 σ H4 y z' u w' _ I4 r2 r4 q4) fun d' s5 ⟨z5, H5, I5, r5, k5, e5, q5⟩ => ?_))
    subst e5
    cases r5
    refine wpAny_truthy_bool ?_
    cases k5 with
    | false => exact ite_ff ⟨.bl false, H5, I5, rfl, q5⟩
    | true => exact ite_tt (chain_last (thn (hd.run pins s5 σ H5 _ I5 q5) fun w6 s6 ⟨z6, H6, I6, r6, q6⟩ => ho'' pins s6 σ H6 z' z6 w' w6 Q I6 r4 r6 q6))
theorem pt_chain3 {op op' op'' : CmpOp} {r r' r'' : R2} (ho : OpR X (compareOp op) r) (ho' : OpR X (compareOp op') r') (ho'' : OpR X (compareOp op'') r'') (ha : PE X a ta) (hb : PE X b tb) (hc : PE X c tc) (hd : PE X d td)
    (hm : lastMarks [op, op', op''] [b, c, d] = false := by with_unfolding_all rfl) : PT X (.Compare a [op, op', op''] [b, c, d] pos) (tTest (tChain3 r r' r'' ta tb tc td)) := by
  refine ⟨fun pins s σ H Q I h => ?_⟩
  refine isTrue_chain (thn (ha.run pins s σ H _ I h) fun v s1 ⟨x, H1, I1, r1, q1⟩ => test_link (thn (hb.run pins s1 σ H1 _ I1 q1) fun u s2 ⟨y, H2, I2, r2, q2⟩ =>
    thn (ho pins s2 σ H2 x y v u _ I2 r1 r2 q2) fun d s3 ⟨z, H3, I3, r3, k, e, q3⟩ => ?_)) hm
  subst e
  cases r3
  refine wpAny_truthy_bool ?_
  cases k with
  | false =>
    obtain ⟨k', e', q'⟩ := q3
    cases e'
    exact ite_ff ⟨H3, I3, q'⟩
  | true =>
    refine ite_tt (test_link (thn (hc.run pins s3 σ H3 _ I3 q3) fun w' s4 ⟨z', H4, I4, r4, q4⟩ => thn (ho' pins s4 σ H4 y z' u w' _ I4 r2 r4 q4) fun d' s5 ⟨z5, H5, I5, r5, k5, e5, q5⟩ => ?_))
    subst e5
    cases r5
    refine wpAny_truthy_bool ?_
    cases k5 with
    | false =>
      obtain ⟨k', e', q'⟩ := q5
      cases e'
      exact ite_ff ⟨H5, I5, q'⟩
    | true =>
      refine ite_tt (test_last (thn (hd.run pins s5 σ H5 _ I5 q5) fun w6 s6 ⟨z6, H6, I6, r6, q6⟩ => thn (ho'' pins s6 σ H6 z' z6 w' w6 _ I6 r4 r6 q6) fun d7 s7 ⟨z7, H7, I7, r7, k7, e7, q7⟩ => ?_))
      subst e7
      cases r7
      exact wpAny_truthy_bool ⟨H7, I7, q7⟩
end
section
variable {G : Gc} {Wx : WX} {X : Cx}
def cChain3 (g g' g'' : Sto → D → D → Option D) (fa fb fc fd : CE') : CE' := fun env S => (fa env S).bind fun x S1 => (fb env S1).bind fun y S2 => (R.ofO S2 ((g S2 x y).bind asB)).bind fun c S3 =>
  if c = true then (fc env S3).bind fun z S4 => (R.ofO S4 ((g' S4 y z).bind asB)).bind fun c' S5 => if c' = true then (fd env S5).bind fun w S6 => R.ofO S6 (g'' S6 z w) else .ok (.p (.bl false)) S5 else .ok (.p (.bl false)) S3
theorem cChain3_imp {g g' g'' : Sto → D → D → Option D} {fa fb fc fd : CE'} : ∀ σ H Q, tM G Wx (cChain3 g g' g'' fa fb fc fd) σ H Q → tChain3 (v2D G g) (v2D G g') (v2D G g'') (tM G Wx fa) (tM G Wx fb) (tM G Wx fc) (tM G Wx fd) σ H Q := by
  rintro σ H Q ⟨Z, S, W, env, rfl, st, er, p⟩
  refine ⟨Z, S, W, env, rfl, st, er, (seqEE p).mono fun v H1 h1 => ?_⟩
  obtain ⟨d1, S1, W1, rfl, go1, st1, r1, p1⟩ := h1
  refine ⟨Z, S1, W1, env, rfl, st1, er.ext go1.toExt, (seqEE p1).mono fun v2 H2 h2 => ?_⟩
  obtain ⟨d2, S2, W2, rfl, go2, st2, r2, p2⟩ := h2
  have er2 := (er.ext go1.toExt).ext go2.toExt
  cases hg : g S2 d1 d2 with
  | none => rw [hg] at p2; exact p2.elim
  | some d =>
    cases hb : asB d with
    | none => rw [hg] at p2; simp only [Option.bind_some, hb] at p2; exact p2.elim
    | some c =>
      rw [hg] at p2
      simp only [Option.bind_some, hb, R.ofO_some, R.bind_ok] at p2
      refine ⟨Z, S2, W2, d1, d2, d, rfl, st2, RepD.ext go2.toExt r1, r2, hg, fun v3 W3 go3 st3 r3 => ⟨c, asB_rep hb r3, ?_⟩⟩
      cases c with
      | false =>
        rw [if_neg Bool.false_ne_true] at p2 ⊢
        exact p2 (.bl false) W3 go3 st3 (by simp only [RepD, Rep])
      | true =>
        rw [if_pos rfl] at p2 ⊢
        have er3 := er2.ext go3.toExt
        refine ⟨Z, S2, W3, env, rfl, st3, er3, (seqEE (PostE.shift go3 p2)).mono fun v4 H4 h4 => ?_⟩
        obtain ⟨d4, S4, W4, rfl, go4, st4, r4, p4⟩ := h4
        have er4 := er3.ext go4.toExt
        cases hg' : g' S4 d2 d4 with
        | none => rw [hg'] at p4; exact p4.elim
        | some d5 =>
          cases hb' : asB d5 with
          | none => rw [hg'] at p4; simp only [Option.bind_some, hb'] at p4; exact p4.elim
          | some c' =>
            rw [hg'] at p4
            simp only [Option.bind_some, hb', R.ofO_some, R.bind_ok] at p4
            refine ⟨Z, S4, W4, d2, d4, d5, rfl, st4, RepD.ext go4.toExt (RepD.ext go3.toExt r2), r4, hg', fun v5 W5 go5 st5 r5 => ⟨c', asB_rep hb' r5, ?_⟩⟩
            cases c' with
            | false =>
              rw [if_neg Bool.false_ne_true] at p4 ⊢
              exact p4 (.bl false) W5 go5 st5 (by simp only [RepD, Rep])
            | true =>
              rw [if_pos rfl] at p4 ⊢
              refine ⟨Z, S4, W5, env, rfl, st5, er4.ext go5.toExt, (seqEE (PostE.shift go5 p4)).mono fun v6 H6 h6 => ?_⟩
              obtain ⟨d6, S6, W6, rfl, go6, st6, r6, p6⟩ := h6
              obtain ⟨d7, e7, q7⟩ := ofO_post p6
              exact ⟨Z, S6, W6, d4, d6, d7, rfl, st6, RepD.ext go6.toExt (RepD.ext go5.toExt r4), r6, e7, q7⟩
theorem pf_chain3 {op op' op'' : CmpOp} {g g' g'' : Sto → D → D → Option D} {a b c d : Expr} {fa fb fc fd : CE'} {pos : Pos} (ho : OpR X (compareOp op) (v2D G g)) (ho' : OpR X (compareOp op') (v2D G g')) (ho'' : OpR X (compareOp op'') (v2D G g'')) (ha : PF G X a fa) (hb : PF G X b fb) (hc : PF G X c fc) (hd : PF G X d fd)
    (hm : lastMarks [op, op', op''] [b, c, d] = false := by with_unfolding_all rfl) : PF G X (.Compare a [op, op', op''] [b, c, d] pos) (cChain3 g g' g'' fa fb fc fd) := fun Wx tk => PE.imp (pe_chain3 ho ho' ho'' (ha Wx tk) (hb Wx tk) (hc Wx tk) (hd Wx tk) hm) cChain3_imp
theorem pft_chain3 {op op' op'' : CmpOp} {g g' g'' : Sto → D → D → Option D} {a b c d : Expr} {fa fb fc fd : CE'} {pos : Pos} (ho : OpR X (compareOp op) (v2D G g)) (ho' : OpR X (compareOp op') (v2D G g')) (ho'' : OpR X (compareOp op'') (v2D G g'')) (ha : PF G X a fa) (hb : PF G X b fb) (hc : PF G X c fc) (hd : PF G X d fd)
    (hm : lastMarks [op, op', op''] [b, c, d] = false := by with_unfolding_all rfl) : PFT G X (.Compare a [op, op', op''] [b, c, d] pos) (cTB (cChain3 g g' g'' fa fb fc fd)) := fun Wx tk => by
  refine PT.imp (pt_chain3 ho ho' ho'' (ha Wx tk) (hb Wx tk) (hc Wx tk) (hd Wx tk) hm) fun σ H Q h => ?_
  exact cChain3_imp σ H _ (cTB_imp σ H Q h)
@[simp] theorem m_chain3 {env : DEnv} {S : Sto} (g g' g'' fa fb fc fd) : cChain3 g g' g'' fa fb fc fd env S = (fa env S).bind fun x S1 => (fb env S1).bind fun y S2 => (R.ofO S2 ((g S2 x y).bind asB)).bind fun c S3 =>
  if c = true then (fc env S3).bind fun z S4 => (R.ofO S4 ((g' S4 y z).bind asB)).bind fun c' S5 => if c' = true then (fd env S5).bind fun w S6 => R.ofO S6 (g'' S6 z w) else .ok (.p (.bl false)) S5 else .ok (.p (.bl false)) S3 := (rfl)
end
end Fe

set_option Elab.async false
set_option linter.all false
set_option maxRecDepth 100000
set_option maxHeartbeats 4000000
namespace Fe
open PySem PySem.Spec PyProof.Rows L2
/-! ### a place given up: what stood there is a value from here on -/
section
variable {G : Gc} {Wx : WX} {X : Cx}
def cPur (f : CE') : CE' := fun env S => (f env S).bind fun d S1 => match pureD d S1 with
  | some (x, S2) => .ok (.p x) S2
  | none => .bad
theorem pf_pur {e : Expr} {f : CE'} (h : PF G X e f) : PF G X e (cPur f) := fun Wx tk => by
  refine PE.imp (h Wx tk) ?_
  rintro σ H Q ⟨Z, S, W, env, rfl, st, er, p⟩
  refine ⟨Z, S, W, env, rfl, st, er, (seqEE p).mono fun v H1 h1 => ?_⟩
  obtain ⟨d1, S1, W1, rfl, go1, st1, r1, p1⟩ := h1
  split at p1
  · rename_i x S2 hp
    obtain ⟨W2, e2, g2, s2, r2⟩ := pureD_rep st1 hp r1
    rw [← e2]
    exact p1 v W2 g2 s2 r2
  · exact p1.elim
@[simp] theorem m_pur {env : DEnv} {S : Sto} (f) : cPur f env S = (f env S).bind fun d S1 => match pureD d S1 with
  | some (x, S2) => .ok (.p x) S2
  | none => .bad := (rfl)
end
end Fe

set_option Elab.async false
set_option linter.all false
set_option maxRecDepth 100000
set_option maxHeartbeats 4000000
namespace Fe
open PySem PySem.Spec PyProof.Rows L2 RZ
/-! ### zip of two lists, or of two tuples, walked -/
section
variable {G : Gc} {Wx : WX} {Z : Addr → Prop} {W : Wd} {S : Sto} {σ : L2.St} {X : Cx} {k : Nat}
def zipP : List P → List P → List P
  | x :: xs, y :: ys => .tup [x, y] :: zipP xs ys
  | _, _ => []
theorem zipP_len : ∀ xs ys : List P, (zipP xs ys).length = min xs.length ys.length
  | [], ys => by simp [zipP]
  | _ :: _, [] => by simp [zipP]
  | x :: xs, y :: ys => by simp [zipP, zipP_len xs ys]
theorem zipP_get : ∀ (j : Nat) (xs ys : List P) (d : P), (zipP xs ys)[j]? = some d → ∃ x y, xs[j]? = some x ∧ ys[j]? = some y ∧ d = .tup [x, y]
  | _, [], ys, d, h => by simp [zipP] at h
  | _, _ :: _, [], d, h => by simp [zipP] at h
  | 0, x :: xs, y :: ys, d, h => by
    simp [zipP] at h
    exact ⟨x, y, rfl, rfl, h.symm⟩
  | j + 1, x :: xs, y :: ys, d, h => by
    simp only [zipP, List.getElem?_cons_succ] at h
    obtain ⟨a, b, h1, h2, h3⟩ := zipP_get j xs ys d h
    exact ⟨a, b, by simpa using h1, by simpa using h2, h3⟩
def asT1 : List D → Option (List P)
  | [.p (.tup xs)] => some xs
  | _ => none
def asZ (S : Sto) : List D → Option (List P)
  | [d1, d2] => match asL1 S [d1], asL1 S [d2] with
    | some xs, some ys => some (zipP xs ys)
    | _, _ => match asT1 [d1], asT1 [d2] with
      | some xs, some ys => some (zipP xs ys)
      | _, _ => none
  | _ => none
def iZipP (f : CA) : CI := fun env S => (f env S).bind fun ds S1 => R.ofO S1 ((asZ S1 ds).map fun xs => (xs, ckT))
theorem asT1_rep (cg : CtxG G X k) {ds : List D} {vs : List V} {xs : List P} (e : asT1 ds = some xs) (r : RepDs G W ds vs) : ∃ a us, vs = [.ref a] ∧ (∀ W', Ext W W' → SqT X.K W'.H a us) ∧ Reps G W xs us := by
  unfold asT1 at e
  split at e
  · cases e
    match vs, r with
    | [v], r =>
      obtain ⟨a, us, rfl, t, r⟩ := rep_tup r.1
      exact ⟨a, us, rfl, fun W' x => (t.ext x).sq cg.kk, r⟩
    | [], r => exact r.elim
    | _ :: _ :: _, r => exact r.2.elim
  · cases e
theorem itd_zip {a b : Addr} {us ws : List V} {xs ys : List P} {W0 : Wd} (l : ∀ W, Ext W0 W → SqL X.K W.H a us) (l' : ∀ W, Ext W0 W → SqL X.K W.H b ws) (r : Reps G W0 xs us) (r' : Reps G W0 ys ws) : ItD G W0 (Itz X.K a b) (zipP xs ys) ckT := fun Z W S ex st _ => by
  have l1 := l W ex
  have l2 := l' W ex
  have r1 := Reps.ext ex xs r
  have r2 := Reps.ext ex ys r'
  have len1 := Reps.length _ _ r1
  have len2 := Reps.length _ _ r2
  refine ⟨fun i hi => ?_, ?_, fun i d x H' e hy => ?_⟩
  · rw [zipP_len] at hi
    exact ⟨us, ws, us[i]'(by omega), ws[i]'(by omega), l1, l2, List.getElem?_eq_getElem _, List.getElem?_eq_getElem _⟩
  · rw [zipP_len]
    exact ⟨us, ws, l1, l2, by omega⟩
  · obtain ⟨T, y1, y2, rfl, np, rfl, hx1, hx2⟩ := hy
    obtain ⟨z1, z2, h1, h2, rfl⟩ := zipP_get i xs ys d e
    obtain ⟨v1, hv1, rv1⟩ := Reps.get _ _ r1 h1
    obtain ⟨v2, hv2, rv2⟩ := Reps.get _ _ r2 h2
    have e1 := hx1 us l1
    rw [hv1] at e1
    obtain rfl := Option.some.inj e1
    have e2 := hx2 ws l2
    rw [hv2] at e2
    obtain rfl := Option.some.inj e2
    refine ⟨W.put T (.tup [v1, v2]), rfl, put_go st np _, put_st st np _, ?_⟩
    have r3 : Reps G W [z1, z2] [v1, v2] := by
      simp only [Reps]
      exact ⟨rv1, rv2, trivial⟩
    exact new_tup st r3 np
theorem itd_zipT {a b : Addr} {us ws : List V} {xs ys : List P} {W0 : Wd} (l : ∀ W, Ext W0 W → SqT X.K W.H a us) (l' : ∀ W, Ext W0 W → SqT X.K W.H b ws) (r : Reps G W0 xs us) (r' : Reps G W0 ys ws) : ItD G W0 (ItzT X.K a b) (zipP xs ys) ckT := fun Z W S ex st _ => by
  have l1 := l W ex
  have l2 := l' W ex
  have r1 := Reps.ext ex xs r
  have r2 := Reps.ext ex ys r'
  have len1 := Reps.length _ _ r1
  have len2 := Reps.length _ _ r2
  refine ⟨fun i hi => ?_, ?_, fun i d x H' e hy => ?_⟩
  · rw [zipP_len] at hi
    exact ⟨us, ws, us[i]'(by omega), ws[i]'(by omega), l1, l2, List.getElem?_eq_getElem _, List.getElem?_eq_getElem _⟩
  · rw [zipP_len]
    exact ⟨us, ws, l1, l2, by omega⟩
  · obtain ⟨T, y1, y2, rfl, np, rfl, hx1, hx2⟩ := hy
    obtain ⟨z1, z2, h1, h2, rfl⟩ := zipP_get i xs ys d e
    obtain ⟨v1, hv1, rv1⟩ := Reps.get _ _ r1 h1
    obtain ⟨v2, hv2, rv2⟩ := Reps.get _ _ r2 h2
    have e1 := hx1 us l1
    rw [hv1] at e1
    obtain rfl := Option.some.inj e1
    have e2 := hx2 ws l2
    rw [hv2] at e2
    obtain rfl := Option.some.inj e2
    refine ⟨W.put T (.tup [v1, v2]), rfl, put_go st np _, put_st st np _, ?_⟩
    have r3 : Reps G W [z1, z2] [v1, v2] := by
      simp only [Reps]
      exact ⟨rv1, rv2, trivial⟩
    exact new_tup st r3 np
theorem pfi_zip {e e2 : Expr} {f : CA} {p pos tpos : Pos} {elts : List Expr} {kk : Nat} (cg : CtxG G X k) (hm : X.mg "zip" = none) (ha : PFA G X [e, e2] f) (hg : Gl X "zip" := by rfl)
    (hs : starEach [e, e2] X.env = (false, eval e X.env) :: starEach [e2] X.env := by rfl) (hpl : (backTo pos (starEach [e2] X.env)).any (·.1) = false := by rfl) :
    PFI G X (.Tuple elts kk tpos) (.Call (.Name "zip" p) [e, e2] [] pos) (iZipP f) := fun Wx tk => by
  refine PI.imp (pi_zipA hg hm (ha Wx tk) hs hpl) fun σ H Rr h => ?_
  obtain ⟨Z, S, W, env, rfl, st, er, p⟩ := h
  refine ⟨Z, S, W, env, rfl, st, er, ?_⟩
  unfold iZipP at p
  cases hf : f env S with
  | bad => rw [hf] at p; exact p
  | exc c ns ds S' => rw [hf] at p; exact p
  | ok ds S1 =>
    rw [hf] at p
    simp only [R.bind_ok] at p
    intro vs W1 go1 st1 r1
    cases hj : asZ S1 ds with
    | none => rw [hj] at p; exact p.elim
    | some xs =>
      rw [hj] at p
      unfold asZ at hj
      split at hj
      · rename_i d1 d2
        match vs, r1 with
        | [], r1 => exact r1.elim
        | [_], r1 => exact r1.2.elim
        | _ :: _ :: _ :: _, r1 => exact r1.2.2.elim
        | [v1, v2], r1 =>
          have q1 : RepDs G W1 [d1] [v1] := ⟨r1.1, trivial⟩
          have q2 : RepDs G W1 [d2] [v2] := ⟨r1.2.1, trivial⟩
          split at hj
          · rename_i xs1 ys1 h1 h2
            cases hj
            obtain ⟨a, us, e1, l, r⟩ := asL1_rep cg h1 q1
            obtain ⟨b, ws, e2, l', r'⟩ := asL1_rep cg h2 q2
            cases e1
            cases e2
            exact ⟨a, b, us, ws, rfl, .inl ⟨l W1 (Ext.refl _), l' W1 (Ext.refl _), p _ W1 go1 st1 (itd_zip l l' r r')⟩⟩
          · split at hj
            · rename_i xs1 ys1 h1 h2
              cases hj
              obtain ⟨a, us, e1, l, r⟩ := asT1_rep cg h1 q1
              obtain ⟨b, ws, e2, l', r'⟩ := asT1_rep cg h2 q2
              cases e1
              cases e2
              exact ⟨a, b, us, ws, rfl, .inr ⟨l W1 (Ext.refl _), l' W1 (Ext.refl _), p _ W1 go1 st1 (itd_zipT l l' r r')⟩⟩
            · cases hj
      · cases hj
@[simp] theorem m_izip {env : DEnv} {S : Sto} (f) : iZipP f env S = (f env S).bind fun ds S1 => R.ofO S1 ((asZ S1 ds).map fun xs => (xs, ckT)) := (rfl)
@[simp] theorem m_asZ_lst {S : Sto} (xs ys : List P) : asZ S [.p (.lst xs), .p (.lst ys)] = some (zipP xs ys) := (rfl)
@[simp] theorem m_asZ_tup {S : Sto} (xs ys : List P) : asZ S [.p (.tup xs), .p (.tup ys)] = some (zipP xs ys) := (rfl)
end
end Fe

set_option Elab.async false
set_option linter.all false
set_option maxRecDepth 100000
set_option maxHeartbeats 2000000
namespace ZL
open PySem PySem.Spec PyProof.Rows L2
/-! ### next of a zip whose last pair is kept by somebody -/
abbrev IsZipB (h : Heap) (z TI TO : Addr) (f0 : Value) (f : Bool) : Prop :=
  h.get? z = some { cls := .type "zip", dict := none, data := .fields #[f0, .bool f, .bool false, .ref TI, .ref TO], slots := #[] }
section
variable {prog : Program} {w : World} {A : Around} {E : Value → Shared → Prop} {s : Shared}
theorem zip_next_held {z TI TO i1 i2 l1 l2 T : Addr} {k1 k2 : Nat} {xs ys : Array Value} {x y : Value} {oT : Obj} {f : Bool} {Q : Value → Shared → Prop} (D : ZipApart z TI TO i1 i2 l1 l2)
    (hz : IsZipB s.heap z TI TO (rawInt T) f) (hT : s.heap.get? T = some oT) (hTI : IsPair s.heap TI (.ref i1) (.ref i2))
    (h1 : s.heap.IsListIter i1 l1 k1) (h2 : s.heap.IsListIter i2 l2 k2) (hl1 : s.heap.IsList l1 xs) (hl2 : s.heap.IsList l2 ys) (hx : xs[k1]? = some x) (hy : ys[k2]? = some y)
    (hQ : ∀ h', IsZipB h' z TI TO (rawInt T) true → h'.IsListIter i1 l1 (k1 + 1) → h'.IsListIter i2 l2 (k2 + 1) → IsPair h' s.heap.objs.size x y → h'.objs.size = s.heap.objs.size + 1 →
      (∀ c o, c ≠ z → c ≠ i1 → c ≠ i2 → s.heap.get? c = some o → h'.get? c = some o) → Q (.ref s.heap.objs.size) { s with heap := h' }) :
    wpAny (model prog w) A (Builtin.«zip.__next__» ⟨[.ref z], []⟩) (fun fin s' => ∃ v, fin = .done (.ret v) ∧ Q v s') E s := by
  show wpAny _ _ (field (.ref z) 2 >>= _) _ _ _
  refine wpAny_bind (wpAny_field hz rfl (x := .bool false) rfl ?_)
  show wpAny _ _ (field (.ref z) 3 >>= _) _ _ _
  refine wpAny_bind (wpAny_field hz rfl (x := .ref TI) rfl ?_)
  refine wpAny_bind (wpAny_seqItems hTI rfl ?_)
  show wpAny _ _ (Builtin.SmallTypes.ownedTupleIsFree (.ref z) >>= _) _ _ _
  refine wpAny_bind ?_
  unfold Builtin.SmallTypes.ownedTupleIsFree
  refine wpAny_bind (wpAny_field hz rfl (x := rawInt T) rfl ?_)
  show wpAny _ _ (loadIfAlive ((T : Int).toNat) >>= _) _ _ _
  rw [Int.toNat_natCast]
  refine wpAny_bind (PySem.W.kdx_alive hT ?_)
  simp only [Option.isNone_some, Bool.false_eq_true, if_false]
  refine wpAny_bind (wpAny_field hz rfl (x := .bool f) rfl ?_)
  cases f with
  | true =>
    rw [if_neg (show ¬ ((Value.bool true != Value.bool true) = true) from Bool.false_ne_true)]
    refine wpAny_pure ?_
    have hz₁ : IsZipB s.heap z TI TO (rawInt T) true := hz
    have hs₁ : Heap.SameBut z s.heap s.heap := Heap.SameBut.refl _ _
    simp only [Bool.false_eq_true, if_false]
    simp only [← Array.forIn_toList, List.forIn_cons, List.forIn_nil]
    refine wpAny_bind (wpAny_bind (wpAny_bind (wpAny_holding ?_)))
    show wpAny _ _ (Builtin.SmallTypes.nextOf (.ref i1) >>= _) _ _ _
    refine wpAny_bind (wpAny_nextOf_list_item (h1.extBut hs₁.extBut D.i1z) (hl1.extBut hs₁.extBut D.l1z) hx fun h₂ h1₂ hs₂ => wpAny_pure ?_)
    refine wpAny_pure ?_
    dsimp only
    refine wpAny_bind (wpAny_bind (wpAny_holding ?_))
    show wpAny _ _ (Builtin.SmallTypes.nextOf (.ref i2) >>= _) _ _ _
    refine wpAny_bind (wpAny_nextOf_list_item ((h2.extBut hs₁.extBut D.i2z).extBut hs₂.extBut D.i12.symm) ((hl2.extBut hs₁.extBut D.l2z).extBut hs₂.extBut D.l2i1) hy fun h₄ h2₄ hs₄ => wpAny_pure ?_)
    refine wpAny_pure ?_
    dsimp only
    refine wpAny_pure ?_
    dsimp only
    refine wpAny_bind (wpAny_newTuple ?_ (by show 2 ≤ sizeLine; decide))
    have hsz : h₄.objs.size = s.heap.objs.size := by rw [hs₄.1, hs₂.1, hs₁.1]
    have hz₄ : IsZipB h₄ z TI TO (rawInt T) true := hs₄.extBut _ _ D.i2z.symm (hs₂.extBut _ _ D.i1z.symm hz₁)
    refine wpAny_pure ⟨_, rfl, ?_⟩
    show Q (.ref h₄.objs.size) _
    rw [hsz]
    refine hQ _ (Heap.get?_push_of_some _ hz₄) ((h1₂.extBut hs₄.extBut D.i12).at fun o e => Heap.get?_push_of_some _ e) (h2₄.at fun o e => Heap.get?_push_of_some _ e) ?_ ?_ ?_
    · rw [← hsz]; exact Heap.get?_push_size _ rfl
    · rw [Heap.size_push, hsz]
    · exact fun c o c1 c2 c3 e => Heap.get?_push_of_some _ (hs₄.extBut _ _ c3 (hs₂.extBut _ _ c2 (hs₁.extBut _ _ c1 e)))
  | false =>
    rw [if_pos (show (Value.bool false != Value.bool true) = true from rfl)]
    refine wpAny_bind (wpAny_setField_rec hz (by simp) fun h₁ hz₁ hs₁ => ?_)
    replace hz₁ : IsZipB h₁ z TI TO (rawInt T) true := hz₁
    replace hs₁ : Heap.SameBut z s.heap h₁ := hs₁
    refine wpAny_pure ?_
    simp only [Bool.false_eq_true, if_false]
    simp only [← Array.forIn_toList, List.forIn_cons, List.forIn_nil]
    refine wpAny_bind (wpAny_bind (wpAny_bind (wpAny_holding ?_)))
    show wpAny _ _ (Builtin.SmallTypes.nextOf (.ref i1) >>= _) _ _ _
    refine wpAny_bind (wpAny_nextOf_list_item (h1.extBut hs₁.extBut D.i1z) (hl1.extBut hs₁.extBut D.l1z) hx fun h₂ h1₂ hs₂ => wpAny_pure ?_)
    refine wpAny_pure ?_
    dsimp only
    refine wpAny_bind (wpAny_bind (wpAny_holding ?_))
    show wpAny _ _ (Builtin.SmallTypes.nextOf (.ref i2) >>= _) _ _ _
    refine wpAny_bind (wpAny_nextOf_list_item ((h2.extBut hs₁.extBut D.i2z).extBut hs₂.extBut D.i12.symm) ((hl2.extBut hs₁.extBut D.l2z).extBut hs₂.extBut D.l2i1) hy fun h₄ h2₄ hs₄ => wpAny_pure ?_)
    refine wpAny_pure ?_
    dsimp only
    refine wpAny_pure ?_
    dsimp only
    refine wpAny_bind (wpAny_newTuple ?_ (by show 2 ≤ sizeLine; decide))
    have hsz : h₄.objs.size = s.heap.objs.size := by rw [hs₄.1, hs₂.1, hs₁.1]
    have hz₄ : IsZipB h₄ z TI TO (rawInt T) true := hs₄.extBut _ _ D.i2z.symm (hs₂.extBut _ _ D.i1z.symm hz₁)
    refine wpAny_pure ⟨_, rfl, ?_⟩
    show Q (.ref h₄.objs.size) _
    rw [hsz]
    refine hQ _ (Heap.get?_push_of_some _ hz₄) ((h1₂.extBut hs₄.extBut D.i12).at fun o e => Heap.get?_push_of_some _ e) (h2₄.at fun o e => Heap.get?_push_of_some _ e) ?_ ?_ ?_
    · rw [← hsz]; exact Heap.get?_push_size _ rfl
    · rw [Heap.size_push, hsz]
    · exact fun c o c1 c2 c3 e => Heap.get?_push_of_some _ (hs₄.extBut _ _ c3 (hs₂.extBut _ _ c2 (hs₁.extBut _ _ c1 e)))
theorem zip_next_held_end {z TI TO i1 i2 l1 l2 T : Addr} {k1 k2 : Nat} {xs ys : Array Value} {oT : Obj} {f : Bool} {Q : Fin → Shared → Prop} (hh : A.handled = none) (D : ZipApart z TI TO i1 i2 l1 l2)
    (hz : IsZipB s.heap z TI TO (rawInt T) f) (hT : s.heap.get? T = some oT) (hTI : IsPair s.heap TI (.ref i1) (.ref i2))
    (h1 : s.heap.IsListIter i1 l1 k1) (h2 : s.heap.IsListIter i2 l2 k2) (hl1 : s.heap.IsList l1 xs) (hl2 : s.heap.IsList l2 ys) (hend : xs[k1]? = none ∨ ys[k2]? = none)
    (hE : ∀ h' e, (∀ c o, c ≠ z → c ≠ i1 → c ≠ i2 → s.heap.get? c = some o → h'.get? c = some o) → (∃ o, h'.get? e = some o ∧ o.cls = .type "StopIteration") → E (.ref e) { s with heap := h' }) :
    wpAny (model prog w) A (Builtin.«zip.__next__» ⟨[.ref z], []⟩) Q E s := by
  show wpAny _ _ (field (.ref z) 2 >>= _) _ _ _
  refine wpAny_bind (wpAny_field hz rfl (x := .bool false) rfl ?_)
  show wpAny _ _ (field (.ref z) 3 >>= _) _ _ _
  refine wpAny_bind (wpAny_field hz rfl (x := .ref TI) rfl ?_)
  refine wpAny_bind (wpAny_seqItems hTI rfl ?_)
  show wpAny _ _ (Builtin.SmallTypes.ownedTupleIsFree (.ref z) >>= _) _ _ _
  refine wpAny_bind ?_
  unfold Builtin.SmallTypes.ownedTupleIsFree
  refine wpAny_bind (wpAny_field hz rfl (x := rawInt T) rfl ?_)
  show wpAny _ _ (loadIfAlive ((T : Int).toNat) >>= _) _ _ _
  rw [Int.toNat_natCast]
  refine wpAny_bind (PySem.W.kdx_alive hT ?_)
  simp only [Option.isNone_some, Bool.false_eq_true, if_false]
  refine wpAny_bind (wpAny_field hz rfl (x := .bool f) rfl ?_)
  cases f with
  | true =>
    rw [if_neg (show ¬ ((Value.bool true != Value.bool true) = true) from Bool.false_ne_true)]
    refine wpAny_pure ?_
    have hs₁ : Heap.SameBut z s.heap s.heap := Heap.SameBut.refl _ _
    simp only [Bool.false_eq_true, if_false]
    simp only [← Array.forIn_toList, List.forIn_cons, List.forIn_nil]
    refine wpAny_bind (wpAny_bind (wpAny_bind (wpAny_holding ?_)))
    show wpAny _ _ (Builtin.SmallTypes.nextOf (.ref i1) >>= _) _ _ _
    cases hx : xs[k1]? with
    | none =>
      refine wpAny_bind (wpAny_nextOf_list_end hh (h1.extBut hs₁.extBut D.i1z) (hl1.extBut hs₁.extBut D.l1z) hx fun h₂ e hs₂ he => ?_)
      exact hE h₂ e (fun c o c1 c2 c3 x => hs₂ _ _ c2 (hs₁.extBut _ _ c1 x)) he
    | some x =>
      have hy : ys[k2]? = none := by rcases hend with h | h; rw [hx] at h; cases h; exact h
      refine wpAny_bind (wpAny_nextOf_list_item (h1.extBut hs₁.extBut D.i1z) (hl1.extBut hs₁.extBut D.l1z) hx fun h₂ h1₂ hs₂ => wpAny_pure ?_)
      refine wpAny_pure ?_
      dsimp only
      refine wpAny_bind (wpAny_bind (wpAny_holding ?_))
      show wpAny _ _ (Builtin.SmallTypes.nextOf (.ref i2) >>= _) _ _ _
      refine wpAny_bind (wpAny_nextOf_list_end hh ((h2.extBut hs₁.extBut D.i2z).extBut hs₂.extBut D.i12.symm) ((hl2.extBut hs₁.extBut D.l2z).extBut hs₂.extBut D.l2i1) hy fun h₄ e hs₄ he => ?_)
      exact hE h₄ e (fun c o c1 c2 c3 x => hs₄ _ _ c3 (hs₂.extBut _ _ c2 (hs₁.extBut _ _ c1 x))) he
  | false =>
    rw [if_pos (show (Value.bool false != Value.bool true) = true from rfl)]
    refine wpAny_bind (wpAny_setField_rec hz (by simp) fun h₁ hz₁ hs₁ => ?_)
    replace hs₁ : Heap.SameBut z s.heap h₁ := hs₁
    refine wpAny_pure ?_
    simp only [Bool.false_eq_true, if_false]
    simp only [← Array.forIn_toList, List.forIn_cons, List.forIn_nil]
    refine wpAny_bind (wpAny_bind (wpAny_bind (wpAny_holding ?_)))
    show wpAny _ _ (Builtin.SmallTypes.nextOf (.ref i1) >>= _) _ _ _
    cases hx : xs[k1]? with
    | none =>
      refine wpAny_bind (wpAny_nextOf_list_end hh (h1.extBut hs₁.extBut D.i1z) (hl1.extBut hs₁.extBut D.l1z) hx fun h₂ e hs₂ he => ?_)
      exact hE h₂ e (fun c o c1 c2 c3 x => hs₂ _ _ c2 (hs₁.extBut _ _ c1 x)) he
    | some x =>
      have hy : ys[k2]? = none := by rcases hend with h | h; rw [hx] at h; cases h; exact h
      refine wpAny_bind (wpAny_nextOf_list_item (h1.extBut hs₁.extBut D.i1z) (hl1.extBut hs₁.extBut D.l1z) hx fun h₂ h1₂ hs₂ => wpAny_pure ?_)
      refine wpAny_pure ?_
      dsimp only
      refine wpAny_bind (wpAny_bind (wpAny_holding ?_))
      show wpAny _ _ (Builtin.SmallTypes.nextOf (.ref i2) >>= _) _ _ _
      refine wpAny_bind (wpAny_nextOf_list_end hh ((h2.extBut hs₁.extBut D.i2z).extBut hs₂.extBut D.i12.symm) ((hl2.extBut hs₁.extBut D.l2z).extBut hs₂.extBut D.l2i1) hy fun h₄ e hs₄ he => ?_)
      exact hE h₄ e (fun c o c1 c2 c3 x => hs₄ _ _ c3 (hs₂.extBut _ _ c2 (hs₁.extBut _ _ c1 x))) he
/-- the state of a zip whose pairs somebody keeps -/
def ZSt (h : Heap) (z TI TO S : Addr) : Prop := (IsZip h z TI TO .none ∧ ∃ a b, IsPair h TO a b) ∨ ∃ (T : Addr) (f : Bool) (a b : Value), IsZipB h z TI TO (rawInt T) f ∧ IsPair h T a b ∧ T ≠ S
theorem ZSt.keep {h h' : Heap} {z TI TO S : Addr} (x : ZSt h z TI TO S) (hk : ∀ b o, b ≠ S → h.get? b = some o → h'.get? b = some o) (hz : z ≠ S) (hO : TO ≠ S) : ZSt h' z TI TO S := by
  rcases x with ⟨hit, a, b, hp⟩ | ⟨T, f, a, b, hit, hT, h2⟩
  · exact .inl ⟨hk _ _ hz hit, a, b, hk _ _ hO hp⟩
  · exact .inr ⟨T, f, a, b, hk _ _ hz hit, hk _ _ h2 hT, h2⟩
theorem zl_item {z TI TO i1 i2 l1 l2 S : Addr} {k1 k2 : Nat} {xs ys : Array Value} {x y : Value} {Q : Option Value → Shared → Prop} (D : ZipApart z TI TO i1 i2 l1 l2)
    (st : ZSt s.heap z TI TO S) (hS : S < s.heap.objs.size) (hTI : IsPair s.heap TI (.ref i1) (.ref i2))
    (h1 : s.heap.IsListIter i1 l1 k1) (h2 : s.heap.IsListIter i2 l2 k2) (hl1 : s.heap.IsList l1 xs) (hl2 : s.heap.IsList l2 ys) (hx : xs[k1]? = some x) (hy : ys[k2]? = some y)
    (hQ : ∀ h', ZSt h' z TI TO S → h'.IsListIter i1 l1 (k1 + 1) → h'.IsListIter i2 l2 (k2 + 1) → IsPair h' s.heap.objs.size x y → h'.objs.size = s.heap.objs.size + 1 →
      (∀ c o, c ≠ z → c ≠ TO → c ≠ i1 → c ≠ i2 → s.heap.get? c = some o → h'.get? c = some o) → Q (some (.ref s.heap.objs.size)) { s with heap := h' }) :
    wpAny (model prog w) A (pyNext (.ref z)) Q E s := by
  rcases st with ⟨hz, a, b, hp⟩ | ⟨T, f, a, b, hz, hT, hTS⟩
  · refine wpAny_pyNext_zip_item D hz hTI hp h1 h2 hl1 hl2 hx hy fun h' z' _ a1 a2 hpair hsz hk => ?_
    exact hQ h' (.inr ⟨s.heap.objs.size, false, x, y, z', hpair, Nat.ne_of_gt hS⟩) a1 a2 hpair hsz hk
  · have hty : s.TypeIs (.ref z) "zip" := ⟨_, hz, rfl⟩
    unfold pyNext
    refine wpAny_bind (wpAny_attempt (wpAny_callSpecial?_slot (name := Str.ofString "__next__") hty F.slot_zip_next
      (wpAny_call_entry F.slot_zip_next hty F.entry_zip_next
        (zip_next_held D hz hT hTI h1 h2 hl1 hl2 hx hy fun h' a1 a2 a3 a4 a5 a6 => wpAny_pure ?_) (F.args_zip_next_1 _))))
    have nz : T ≠ z := fun e => by
      subst e
      have e2 := congrArg (Option.map (·.cls)) (hT.symm.trans hz)
      simp at e2
    have n1 : T ≠ i1 := fun e => by
      subst e
      obtain ⟨o, e, c, _⟩ := h1
      have e2 := hT.symm.trans e
      cases e2
      simp at c
    have n2 : T ≠ i2 := fun e => by
      subst e
      obtain ⟨o, e, c, _⟩ := h2
      have e2 := hT.symm.trans e
      cases e2
      simp at c
    exact hQ h' (.inr ⟨T, true, a, b, a1, a6 _ _ nz n1 n2 hT, hTS⟩) a2 a3 a4 a5 fun c o c1 _ c3 c4 e => a6 c o c1 c3 c4 e
theorem zl_done {z TI TO i1 i2 l1 l2 S : Addr} {k1 k2 : Nat} {xs ys : Array Value} {Q : Option Value → Shared → Prop} (hh : A.handled = none) (D : ZipApart z TI TO i1 i2 l1 l2)
    (st : ZSt s.heap z TI TO S) (hTI : IsPair s.heap TI (.ref i1) (.ref i2))
    (h1 : s.heap.IsListIter i1 l1 k1) (h2 : s.heap.IsListIter i2 l2 k2) (hl1 : s.heap.IsList l1 xs) (hl2 : s.heap.IsList l2 ys) (hend : xs[k1]? = none ∨ ys[k2]? = none)
    (hQ : ∀ h', (∀ c o, c ≠ z → c ≠ TO → c ≠ i1 → c ≠ i2 → s.heap.get? c = some o → h'.get? c = some o) → Q none { s with heap := h' }) :
    wpAny (model prog w) A (pyNext (.ref z)) Q E s := by
  rcases st with ⟨hz, a, b, hp⟩ | ⟨T, f, a, b, hz, hT, hTS⟩
  · exact wpAny_pyNext_zip_end hh D hz hTI hp h1 h2 hl1 hl2 hend hQ
  · have hty : s.TypeIs (.ref z) "zip" := ⟨_, hz, rfl⟩
    unfold pyNext
    refine wpAny_bind (wpAny_attempt (wpAny_callSpecial?_slot (name := Str.ofString "__next__") hty F.slot_zip_next
      (wpAny_call_entry F.slot_zip_next hty F.entry_zip_next (zip_next_held_end hh D hz hT hTI h1 h2 hl1 hl2 hend fun h' e hk he => ?_) (F.args_zip_next_1 _))))
    obtain ⟨o, ho, hc⟩ := he
    refine wpAny_bind (wpAny_isInstance (T := "StopIteration") (b := true) ⟨o, ho, hc⟩ isSubtype_stop ?_)
    exact wpAny_pure (hQ _ fun c o c1 _ c3 c4 e => hk c o c1 c3 c4 e)
end
end ZL

set_option Elab.async false
set_option linter.all false
set_option maxRecDepth 100000
set_option maxHeartbeats 2000000
namespace ZL
open PySem PySem.Spec PyProof.Rows L2
/-! ### list(zip(a, b)) -/
structure ZlG (xs ys : Array Value) (lo : Addr) (h : Heap) (as : List Addr) : Prop where
  rise : as.Pairwise (· < ·)
  above : ∀ a ∈ as, lo < a
  pairs : ∀ (j : Nat) (a : Addr), as[j]? = some a → ∃ x y, xs[j]? = some x ∧ ys[j]? = some y ∧ IsPair h a x y
theorem ZlG.there {xs ys : Array Value} {lo : Addr} {h : Heap} {as : List Addr} (g : ZlG xs ys lo h as) {a : Addr} (ha : a ∈ as) : a < h.objs.size := by
  obtain ⟨j, hj⟩ := List.mem_iff_getElem?.mp ha
  obtain ⟨_, _, _, _, e⟩ := g.pairs j a hj
  exact Heap.lt_size e
section
variable {prog : Program} {w : World} {A : Around} {E : Value → Shared → Prop} {s : Shared} {R : Result → Shared → Prop} {xs ys : Array Value} {n : Nat}
theorem zl_loop {S z TI TO i1 i2 l1 l2 : Addr} (hh : A.handled = none) (D : ZipApart z TI TO i1 i2 l1 l2) (lz : z < S) (lTI : TI < S) (lTO : TO < S) (li1 : i1 < S) (li2 : i2 < S) (ll1 : l1 < S) (ll2 : l2 < S)
    (hnm : n = min xs.size ys.size) (hn : n ≤ sizeLine) (res : Value) {h₁ : Heap}
    (hR : ∀ h' tk acc c as, (∀ b o, b ≠ S → b ≠ z → b ≠ TO → b ≠ i1 → b ≠ i2 → h₁.get? b = some o → h'.get? b = some o) → h'.get? S = some { cls := .type "list", dict := none, data := .seq acc c, slots := #[] } → as.length = n → ZlG xs ys S h' as →
      acc.toList = as.map Value.ref → R (.ok (.ret res)) { s with heap := h', toks := tk }) :
    ∀ (k i : Nat) (h : Heap) (tk c : Nat) (acc : Array Value) (as : List Addr), n - i = k → i ≤ n → ZSt h z TI TO S → IsPair h TI (.ref i1) (.ref i2) → h.IsListIter i1 l1 i → h.IsListIter i2 l2 i → h.IsList l1 xs → h.IsList l2 ys →
      (∀ b o, b ≠ S → b ≠ z → b ≠ TO → b ≠ i1 → b ≠ i2 → h₁.get? b = some o → h.get? b = some o) →
      h.get? S = some { cls := .type "list", dict := none, data := .seq acc c, slots := #[] } → acc.toList = as.map Value.ref → as.length = i → ZlG xs ys S h as →
      codeAny (model prog w) A (.builtin "list.extend.loop" ⟨[.ref S, .ref z, res], []⟩) R { s with heap := h, toks := tk } := by
  have up5 : ∀ a, S < a → a ≠ z ∧ a ≠ TO ∧ a ≠ i1 ∧ a ≠ i2 := fun a ha => ⟨Nat.ne_of_gt (Nat.lt_trans lz ha), Nat.ne_of_gt (Nat.lt_trans lTO ha), Nat.ne_of_gt (Nat.lt_trans li1 ha), Nat.ne_of_gt (Nat.lt_trans li2 ha)⟩
  have nS : S ≠ z ∧ S ≠ TO ∧ S ≠ i1 ∧ S ≠ i2 := ⟨Nat.ne_of_gt lz, Nat.ne_of_gt lTO, Nat.ne_of_gt li1, Nat.ne_of_gt li2⟩
  intro k
  induction k with
  | zero =>
    intro i h tk c acc as hk hi st hTI h1 h2 hl1 hl2 hkeep hS hacc hal hG
    have hin : i = n := by omega
    refine codeAny_builtin PySem.F.entry_extend_loop ?_
    rw [Around.under_plainId PySem.F.plain_extend_loop _]
    show wpAny _ A.in1 (pyNext (.ref z) >>= _) _ _ _
    have hend : xs[i]? = none ∨ ys[i]? = none := by
      rcases Nat.le_total xs.size ys.size with q | q
      · left; exact Array.getElem?_eq_none (by omega)
      · right; exact Array.getElem?_eq_none (by omega)
    refine wpAny_bind (zl_done (s := { s with heap := h, toks := tk }) (A := A.in1) hh D st hTI h1 h2 hl1 hl2 hend fun h' he => ?_)
    refine wpAny_pure (hR h' tk acc c as (fun b o q1 q2 q3 q4 q5 e => he b o q2 q3 q4 q5 (hkeep b o q1 q2 q3 q4 q5 e)) (he S _ nS.1 nS.2.1 nS.2.2.1 nS.2.2.2 hS) (by omega) ⟨hG.rise, hG.above, fun j a hj => ?_⟩ hacc)
    obtain ⟨x, y, e1, e2, e3⟩ := hG.pairs j a hj
    obtain ⟨u1, u2, u3, u4⟩ := up5 a (hG.above a (List.mem_of_getElem? hj))
    exact ⟨x, y, e1, e2, he a _ u1 u2 u3 u4 e3⟩
  | succ k ih =>
    intro i h tk c acc as hk hi st hTI h1 h2 hl1 hl2 hkeep hS hacc hal hG
    have hlt : i < n := by omega
    have hx : xs[i]? = some xs[i] := Array.getElem?_eq_getElem (by omega)
    have hy : ys[i]? = some ys[i] := Array.getElem?_eq_getElem (by omega)
    have hsz : acc.size = i := by rw [← Array.length_toList, hacc, List.length_map, hal]
    refine codeAny_builtin PySem.F.entry_extend_loop ?_
    rw [Around.under_plainId PySem.F.plain_extend_loop _]
    show wpAny _ A.in1 (pyNext (.ref z) >>= _) _ _ _
    refine wpAny_bind (zl_item (s := { s with heap := h, toks := tk }) (S := S) D st (Heap.lt_size hS) hTI h1 h2 hl1 hl2 hx hy fun h' st' h1' h2' ht hz hkp => ?_)
    dsimp only at ht hz hkp ⊢
    have hS' := hkp S _ nS.1 nS.2.1 nS.2.2.1 nS.2.2.2 hS
    have up : ∀ b o, b ≠ S → h'.get? b = some o → (h'.update S (Obj.mapSeq (·.push (Value.ref h.objs.size)))).get? b = some o := fun b o hb e => (Heap.get?_update_other _ _ (Ne.symm hb)).trans e
    have hSl : S < h.objs.size := Heap.lt_size hS
    have kl : ∀ b o, b < S → b ≠ z → b ≠ TO → b ≠ i1 → b ≠ i2 → h.get? b = some o → (h'.update S (Obj.mapSeq (·.push (Value.ref h.objs.size)))).get? b = some o := fun b o q q1 q2 q3 q4 e => up b o (Nat.ne_of_lt q) (hkp b o q1 q2 q3 q4 e)
    show wpAny _ A.in1 (updateSeq S (·.push (Value.ref h.objs.size)) >>= _) _ _ _
    refine wpAny_bind ?_
    refine wpAny_updateSeq hS' rfl (wpAny_pure ⟨plainId_quiet PySem.F.plain_extend_loop _, ih (i + 1) _ tk _ (acc.push (Value.ref h.objs.size)) (as ++ [h.objs.size]) (by omega) hlt (st'.keep up nS.1.symm nS.2.1.symm)
      (kl TI _ lTI D.TIz D.TITO D.TIi1 D.TIi2 hTI) (h1'.at fun o e => up i1 o nS.2.2.1.symm e) (h2'.at fun o e => up i2 o nS.2.2.2.symm e) ?_ ?_
      (fun b o q1 q2 q3 q4 q5 e => up b o q1 (hkp b o q2 q3 q4 q5 (hkeep b o q1 q2 q3 q4 q5 e))) (Heap.get?_update_self _ hS' rfl) (by rw [Array.toList_push, hacc, List.map_append]; rfl) (by rw [List.length_append, hal]; rfl) ⟨?_, ?_, ?_⟩⟩) (by rw [hsz]; omega) (by show (acc.push (Value.ref h.objs.size)).size ≤ sizeLine + 1; rw [Array.size_push]; omega)
    · obtain ⟨o, e, r⟩ := hl1
      exact ⟨o, kl l1 o ll1 D.l1z D.l1TO D.l1i1 D.l1i2 e, r⟩
    · obtain ⟨o, e, r⟩ := hl2
      exact ⟨o, kl l2 o ll2 D.l2z D.l2TO D.l2i1 D.l2i2 e, r⟩
    · refine List.pairwise_append.mpr ⟨hG.rise, List.pairwise_singleton _ _, fun a ha b hb => ?_⟩
      rw [List.mem_singleton.mp hb]
      exact hG.there ha
    · intro a ha
      rcases List.mem_append.mp ha with ha | ha
      · exact hG.above a ha
      · rw [List.mem_singleton.mp ha]; exact hSl
    · intro j b hj
      rcases Nat.lt_trichotomy j as.length with q | q | q
      · rw [List.getElem?_append_left q] at hj
        obtain ⟨x, y, e1, e2, e3⟩ := hG.pairs j b hj
        have hb := hG.above b (List.mem_of_getElem? hj)
        obtain ⟨u1, u2, u3, u4⟩ := up5 b hb
        exact ⟨x, y, e1, e2, up b _ (Nat.ne_of_gt hb) (hkp b _ u1 u2 u3 u4 e3)⟩
      · subst q
        have hb : h.objs.size = b := by simpa using hj
        subst hb
        exact ⟨xs[i], ys[i], by rw [hal]; exact hx, by rw [hal]; exact hy, up _ _ (Nat.ne_of_gt hSl) ht⟩
      · have hnone : (as ++ [h.objs.size])[j]? = none := List.getElem?_eq_none (by rw [List.length_append, List.length_singleton]; omega)
        rw [hnone] at hj; cases hj
end
end ZL

set_option Elab.async false
set_option linter.all false
set_option maxRecDepth 100000
set_option maxHeartbeats 2000000
namespace ZL
open PySem PySem.Spec PyProof.Rows L2
theorem zip_no_len : typeLookup (.type "zip") "__len__" = pure none := by rw [typeLookup_type, builtinLookup_eq_fast]; kernel_rfl
theorem zip_no_hint : typeLookup (.type "zip") "__length_hint__" = pure none := by rw [typeLookup_type, builtinLookup_eq_fast]; kernel_rfl
section
variable {prog : Program} {w : World} {A : Around} {E : Value → Shared → Prop} {s : Shared} {R : Result → Shared → Prop} {xs ys : Array Value} {n : Nat}
theorem zl_extend {S z TI TO i1 i2 l1 l2 : Addr} (hh : A.handled = none) (D : ZipApart z TI TO i1 i2 l1 l2) (lz : z < S) (lTI : TI < S) (lTO : TO < S) (li1 : i1 < S) (li2 : i2 < S) (ll1 : l1 < S) (ll2 : l2 < S)
    (hnm : n = min xs.size ys.size) (hn : n ≤ sizeLine) (res : Value) (c₀ : Nat) (hz : IsZip s.heap z TI TO .none) (hTO : ∃ a b, IsPair s.heap TO a b) (hTI : IsPair s.heap TI (.ref i1) (.ref i2)) (h1 : s.heap.IsListIter i1 l1 0) (h2 : s.heap.IsListIter i2 l2 0) (hl1 : s.heap.IsList l1 xs) (hl2 : s.heap.IsList l2 ys)
    (hS : s.heap.get? S = some { cls := .type "list", data := .seq #[] c₀ })
    (hR : ∀ h' tk acc c as, (∀ b o, b ≠ S → b ≠ z → b ≠ TO → b ≠ i1 → b ≠ i2 → s.heap.get? b = some o → h'.get? b = some o) → h'.get? S = some { cls := .type "list", dict := none, data := .seq acc c, slots := #[] } → as.length = n → ZlG xs ys S h' as →
      acc.toList = as.map Value.ref → R (.ok (.ret res)) { s with heap := h', toks := tk }) :
    wpAny (model prog w) A.in1 (Builtin.List.listExtendWith (.ref S) (.ref z) res)
      (fun fin s' => match fin with | .done f => R (.ok f) s' | .again c' => c'.quiet = true ∧ codeAny (model prog w) A c' R s') (fun e s' => R (.error e) s') s := by
  have hSz : S ≠ z := Nat.ne_of_gt lz
  have hT : s.TypeIs (.ref z) "zip" := ⟨_, hz, rfl⟩
  unfold Builtin.List.listExtendWith
  refine wpAny_bind (wpAny_typeOf hT ?_)
  have q1 : Builtin.List.listSameRef (.ref S) (.ref z) = false := by simp [Builtin.List.listSameRef, hSz]
  have q2 : (Value.type "zip" == Value.type "list") = false := by decide
  have q3 : (Value.type "zip" == Value.type "tuple") = false := by decide
  simp only [q1, q2, q3, Bool.or_false, Bool.false_eq_true, if_false]
  refine wpAny_bind (wpAny_pyIter_zip hz ?_)
  refine wpAny_bind (wpAny_holding ?_)
  unfold Builtin.List.listLengthHint
  refine wpAny_bind (wpAny_specialOf hT zip_no_len ?_)
  show wpAny _ A.in1 (specialOf (Value.ref z) (Str.ofString "__length_hint__") >>= _) _ _ _
  refine wpAny_bind (wpAny_specialOf hT zip_no_hint ?_)
  refine wpAny_pure ?_
  show wpAny _ A.in1 (rule "list.extend.makes-room" >>= fun _ => Builtin.List.listTouch (.ref S) >>= fun _ =>
    again (.builtin "list.extend.loop" ⟨[.ref S, .ref z, res], []⟩)) _ _ _
  refine wpAny_bind (wpAny_rule ?_)
  refine wpAny_bind ?_
  show wpAny _ A.in1 (updateSeq S (·.push .none) >>= fun _ => updateSeq S (·.pop)) _ _ _
  refine wpAny_bind (wpAny_updateSeq hS rfl ?_)
  have hS₂ := Heap.get?_update_self (Obj.mapSeq (·.push Value.none)) hS rfl
  refine wpAny_updateSeq (hz := by seq_fits) hS₂ rfl ?_
  have hS₃ := Heap.get?_update_self (Obj.mapSeq (·.pop)) hS₂ rfl
  have oth : ∀ b o, b ≠ S → s.heap.get? b = some o → ((s.heap.update S (Obj.mapSeq (·.push Value.none))).update S (Obj.mapSeq (·.pop))).get? b = some o :=
    fun b o hb e => (Heap.get?_update_other _ _ (Ne.symm hb)).trans ((Heap.get?_update_other _ _ (Ne.symm hb)).trans e)
  have lt : ∀ b, b < S → b ≠ S := fun b h => Nat.ne_of_lt h
  obtain ⟨a, b, hTO⟩ := hTO
  obtain ⟨o1, e1, r1⟩ := hl1
  obtain ⟨o2, e2, r2⟩ := hl2
  refine wpAny_pure ⟨plainId_quiet F.plain_extend_loop _, zl_loop (s := s) (h₁ := s.heap) hh D lz lTI lTO li1 li2 ll1 ll2 hnm hn res hR n 0 _ s.toks _ #[] [] (Nat.sub_zero _) (Nat.zero_le _)
    (.inl ⟨oth _ _ (lt _ lz) hz, a, b, oth _ _ (lt _ lTO) hTO⟩) (oth _ _ (lt _ lTI) hTI) (h1.at fun o e => oth _ o (lt _ li1) e) (h2.at fun o e => oth _ o (lt _ li2) e) ⟨o1, oth _ _ (lt _ ll1) e1, r1⟩ ⟨o2, oth _ _ (lt _ ll2) e2, r2⟩
    (fun b o q _ _ _ _ e => oth b o q e) hS₃ rfl rfl ⟨List.Pairwise.nil, (fun _ ha => nomatch ha), (fun j a hj => by simp at hj)⟩⟩
theorem zl_call {z TI TO i1 i2 l1 l2 : Addr} {Q : Value → Shared → Prop} (hh : A.handled = none) (D : ZipApart z TI TO i1 i2 l1 l2)
    (hnm : n = min xs.size ys.size) (hn : n ≤ sizeLine) (hz : IsZip s.heap z TI TO .none) (hTO : ∃ a b, IsPair s.heap TO a b) (hTI : IsPair s.heap TI (.ref i1) (.ref i2)) (h1 : s.heap.IsListIter i1 l1 0) (h2 : s.heap.IsListIter i2 l2 0) (hl1 : s.heap.IsList l1 xs) (hl2 : s.heap.IsList l2 ys)
    (hQ : ∀ h' tk acc c as, (∀ b o, b ≠ z → b ≠ TO → b ≠ i1 → b ≠ i2 → s.heap.get? b = some o → h'.get? b = some o) → h'.get? s.heap.objs.size = some { cls := .type "list", dict := none, data := .seq acc c, slots := #[] } → as.length = n → ZlG xs ys s.heap.objs.size h' as →
      acc.toList = as.map Value.ref → Q (.ref s.heap.objs.size) { s with heap := h', toks := tk }) :
    wpAny (model prog w) A (call (.type "list") [.ref z]) Q E s := by
  refine callType_codes (Q₁ := fun obj s₁ => obj = .ref s.heap.objs.size ∧ s₁ = { s with heap := s.heap.push { cls := .type "list", data := .seq #[] } }) PySem.F.called_list (PySem.F.typeCall_list_1 _) PySem.F.entry_list_init
    (code_list_new _ ⟨rfl, rfl⟩) fun obj s₁ h₁ => ?_
  obtain ⟨rfl, rfl⟩ := h₁
  have hS : (s.heap.push { cls := .type "list", data := .seq #[] }).get? s.heap.objs.size = some { cls := .type "list", data := .seq #[] } := Heap.get?_push_size _ rfl
  refine ⟨⟨_, hS, rfl⟩, PySem.F.args_list_init_2 _ _, ?_⟩
  show wpAny _ _ (do let old ← Builtin.List.listItems (.ref s.heap.objs.size); Builtin.List.listUpdate (.ref s.heap.objs.size) (fun _ => #[]); letGo old.toList.reverse; Builtin.List.listExtendWith (.ref s.heap.objs.size) (.ref z) .none) _ _ _
  refine wpAny_bind ?_
  unfold Builtin.List.listItems
  refine wpAny_bind (wpAny_seqItems hS rfl (wpAny_pure ?_))
  show wpAny _ _ (updateSeq s.heap.objs.size (fun _ => #[]) >>= fun _ => letGo (#[] : Array Value).toList.reverse >>= fun _ => Builtin.List.listExtendWith (.ref s.heap.objs.size) (.ref z) .none) _ _ _
  refine wpAny_bind (wpAny_updateSeq hS rfl ?_)
  have hS₂ := Heap.get?_update_self (Obj.mapSeq (fun _ => (#[] : Array Value))) hS rfl
  have oth : ∀ b o, b < s.heap.objs.size → s.heap.get? b = some o → ((s.heap.push { cls := .type "list", data := .seq #[] }).update s.heap.objs.size (Obj.mapSeq (fun _ => (#[] : Array Value)))).get? b = some o :=
    fun b o hb e => (Heap.get?_update_other _ _ (Nat.ne_of_gt hb)).trans (Heap.get?_push_of_some _ e)
  refine wpAny_bind (wpAny_letGo ?_)
  obtain ⟨a, b, hTO⟩ := hTO
  obtain ⟨o1, e1, r1⟩ := hl1
  obtain ⟨o2, e2, r2⟩ := hl2
  have li1 : i1 < s.heap.objs.size := by obtain ⟨_, e, _⟩ := h1; exact Heap.lt_size e
  have li2 : i2 < s.heap.objs.size := by obtain ⟨_, e, _⟩ := h2; exact Heap.lt_size e
  refine zl_extend (A := A.in1) hh D (Heap.lt_size hz) (Heap.lt_size hTI) (Heap.lt_size hTO) li1 li2 (Heap.lt_size e1) (Heap.lt_size e2) hnm hn .none _ (oth _ _ (Heap.lt_size hz) hz) ⟨a, b, oth _ _ (Heap.lt_size hTO) hTO⟩ (oth _ _ (Heap.lt_size hTI) hTI) (h1.at fun o e => oth _ o li1 e) (h2.at fun o e => oth _ o li2 e)
    ⟨o1, oth _ _ (Heap.lt_size e1) e1, r1⟩ ⟨o2, oth _ _ (Heap.lt_size e2) e2, r2⟩ hS₂ fun h' tk acc c as hk hS' hl hG hacc => ?_
  exact ⟨rfl, hQ h' tk acc c as (fun b o q1 q2 q3 q4 e => hk b o (Nat.ne_of_lt (Heap.lt_size e)) q1 q2 q3 q4 (oth b o (Heap.lt_size e) e)) hS' hl hG hacc⟩
end
end ZL

set_option Elab.async false
set_option linter.all false
set_option maxRecDepth 100000
set_option maxHeartbeats 2000000
namespace ZL
open PySem PySem.Spec PyProof.Rows L2 RZ
def putQ : Hp → List Addr → List (V × V) → Hp
  | H, a :: as, p :: ps => putQ (upd H a (.tup [p.1, p.2])) as ps
  | H, _, _ => H
theorem putQ_off {b : Addr} : ∀ (as : List Addr) (ps : List (V × V)) (H : Hp), b ∉ as → putQ H as ps b = H b
  | [], _, _, _ => rfl
  | _ :: _, [], _, _ => rfl
  | a :: as, p :: ps, H, h => by
    show putQ (upd H a (.tup [p.1, p.2])) as ps b = H b
    rw [putQ_off as ps _ (fun z => h (List.mem_cons_of_mem _ z)), upd_ne (fun z => h (by rw [z]; exact List.mem_cons_self))]
theorem putQ_at : ∀ (as : List Addr) (ps : List (V × V)) (H : Hp), as.length = ps.length → as.Nodup → Paired (fun (t : Addr) (p : V × V) => putQ H as ps t = some (.tup [p.1, p.2])) as ps
  | [], [], _, _, _ => .nil
  | [], _ :: _, _, h, _ => by cases h
  | _ :: _, [], _, h, _ => by cases h
  | a :: as, p :: ps, H, h, hn => by
    have hn' := List.nodup_cons.mp hn
    have ih := putQ_at as ps (upd H a (.tup [p.1, p.2])) (Nat.succ.inj h) hn'.2
    refine .cons ?_ ih
    show putQ (upd H a (.tup [p.1, p.2])) as ps a = some (.tup [p.1, p.2])
    rw [putQ_off as ps _ hn'.1, upd_same]
theorem vals_at : ∀ {xs : List V} {us : List Value} {j : Nat} {u : Value}, Vals xs us → us[j]? = some u → ∃ x, xs[j]? = some x ∧ RelV x u
  | _, _, _, _, .nil, e => by simp at e
  | _, _, 0, _, .cons r _, e => by simp at e; subst e; exact ⟨_, rfl, r⟩
  | _, _, i + 1, u, .cons _ t, e => by
    obtain ⟨x, h1, h2⟩ := vals_at t (by simpa using e)
    exact ⟨x, by simpa using h1, h2⟩
def rZipL : List V → Hp → VK → Prop := fun vs H Q => ∃ (a b : Addr) (xs ys : List V), vs = [.ref a, .ref b] ∧ H a = some (.lst xs) ∧ H b = some (.lst ys) ∧
  ∀ (H' : Hp) (p : Addr) (ts : List Addr), (∀ b o, H b = some o → H' b = some o) → H p = none → (∀ t ∈ ts, H t = none) → p ∉ ts → H' p = some (.lst (ts.map V.ref)) → Paired (fun (t : Addr) (q : V × V) => H' t = some (.tup [q.1, q.2])) ts (xs.zip ys) → Q (.ref p) H'
section
variable {X : Cx}
theorem zip_laid {pins : List (Addr × Obj)} {σ : L2.St} {H : Hp} {s : Shared} {h' : Heap} {tk : Nat} {xs ys : List V} {us ws : List Value} {acc : Array Value} {c : Nat} {as : List Addr} {S : Addr} (I : Inv X pins σ H s) (hz : xs.length ≤ sizeLine) (r1 : Vals xs us) (r2 : Vals ys ws)
    (hk : ∀ b o, s.heap.get? b = some o → h'.get? b = some o) (hSs : s.heap.objs.size ≤ S) (hS : h'.get? S = some { cls := .type "list", dict := none, data := .seq acc c, slots := #[] }) (hl : as.length = min us.length ws.length) (hG : ZlG us.toArray ws.toArray S h' as) (hacc : acc.toList = as.map Value.ref) :
    ∃ H' : Hp, (∀ b o, H b = some o → H' b = some o) ∧ H S = none ∧ (∀ t ∈ as, H t = none) ∧ S ∉ as ∧ H' S = some (.lst (as.map V.ref)) ∧ Paired (fun (t : Addr) (q : V × V) => H' t = some (.tup [q.1, q.2])) as (xs.zip ys) ∧ Inv X pins σ H' { s with heap := h', toks := tk } := by
  have l1 := r1.length
  have l2 := r2.length
  have lp : as.length = (xs.zip ys).length := by rw [List.length_zip]; omega
  have hSn : S ∉ as := fun z => Nat.lt_irrefl _ (hG.above _ z)
  have nd : as.Nodup := List.Pairwise.imp (fun {a b} (h : a < b) => Nat.ne_of_lt h) hG.rise
  have ge : ∀ t ∈ as, s.heap.objs.size ≤ t := fun t ht => Nat.le_trans hSs (Nat.le_of_lt (hG.above t ht))
  have new : ∀ t ∈ as, H t = none := fun t ht => I.hok.fresh (ge t ht)
  have newS : H S = none := I.hok.fresh hSs
  have atP := putQ_at as (xs.zip ys) (upd H S (.lst (as.map V.ref))) lp nd
  have off : ∀ b, b ∉ as → b ≠ S → putQ (upd H S (.lst (as.map V.ref))) as (xs.zip ys) b = H b := fun b h1 h2 => by rw [putQ_off as _ _ h1, upd_ne h2]
  have low : ∀ b o, s.heap.get? b = some o → b ∉ as ∧ b ≠ S := fun b o e => ⟨fun z => absurd (Heap.lt_size e) (Nat.not_lt.mpr (ge b z)), fun z => absurd (Heap.lt_size e) (Nat.not_lt.mpr (z ▸ hSs))⟩
  have kp : ∀ b u, H b = some u → (putQ (upd H S (.lst (as.map V.ref))) as (xs.zip ys)) b = some u := fun b u e => by
    rw [off b (fun z => by rw [new b z] at e; cases e) (fun z => by rw [z, newS] at e; cases e)]
    exact e
  have eS : putQ (upd H S (.lst (as.map V.ref))) as (xs.zip ys) S = some (.lst (as.map V.ref)) := by rw [putQ_off as _ _ hSn, upd_same]
  refine ⟨putQ (upd H S (.lst (as.map V.ref))) as (xs.zip ys), kp, newS, new, hSn, eS, atP, ?_⟩
  refine I.call' (ch := []) rfl ⟨fun b o q _ _ _ => hk b o q, fun b o q _ _ _ => ⟨o.slots, hk b o q⟩, fun b o q n _ => ?_, fun b o q _ => ⟨o, hk b o q⟩, fun b xs q => kp b _ q, fun b o u q => kp b _ q, fun b ps q => ⟨#[], by rw [kp b _ q]; simp⟩⟩ (fun b u q => ?_) I.bare fun b z => by simp at z
  · obtain ⟨z1, z2⟩ := low b o q
    rw [off b z1 z2]
    exact n
  · by_cases hb : b ∈ as
    · obtain ⟨j, pk, e1, e2, e3⟩ := LiI.paired_ix atP hb
      rw [e3] at q
      cases q
      obtain ⟨x, y, f1, f2, f3⟩ := hG.pairs j b e1
      obtain ⟨vx, gx, rx⟩ := vals_at r1 (by simpa using f1)
      obtain ⟨vy, gy, ry⟩ := vals_at r2 (by simpa using f2)
      have e4 : (xs.zip ys)[j]? = some (vx, vy) := by
        rw [List.getElem?_zip_eq_some]
        exact ⟨gx, gy⟩
      rw [e4] at e2
      cases e2
      exact ⟨by show 2 ≤ sizeLine; decide, [x, y], .cons rx (.cons ry .nil), ⟨_, f3, rfl, _, rfl⟩⟩
    · by_cases hb2 : b = S
      · rw [hb2] at q ⊢
        rw [eS] at q
        cases q
        refine ⟨by rw [List.length_map]; omega, acc.toList, c, by rw [hacc]; exact LiI.vals_refs as, ?_⟩
        rw [Array.toArray_toList]
        exact hS
      · rw [off b hb hb2] at q
        exact (I.hok b u q).stay (fun d v _ y => hk d v y) (fun d y => kp d _ y) fun d xs y => kp d _ y
end
end ZL

set_option Elab.async false
set_option linter.all false
set_option maxRecDepth 100000
set_option maxHeartbeats 2000000
namespace ZL
open PySem PySem.Spec PyProof.Rows L2 RZ
def rZipK (K : PySem.W.Frag) : List V → Hp → VK → Prop := fun vs H Q => ∃ (a b : Addr) (xs ys : List V), vs = [.ref a, .ref b] ∧ SqL K H a xs ∧ SqL K H b ys ∧
  ∀ (H' : Hp) (p : Addr) (ts : List Addr), (∀ b o, H b = some o → H' b = some o) → H p = none → (∀ t ∈ ts, H t = none) → p ∉ ts → H' p = some (.lst (ts.map V.ref)) → Paired (fun (t : Addr) (q : V × V) => H' t = some (.tup [q.1, q.2])) ts (xs.zip ys) → Q (.ref p) H'
def tListZip (K : PySem.W.Frag) (ta : TA) : TE := fun σ H Q => ta σ H fun vs H1 => rZipK K vs H1 Q
theorem pe_listZip {X : Cx} {e e2 : Expr} {ta : TA} {p p2 pos cpos : Pos} (hc : X.calm = true) (hg : Gl X "list") (hm : X.mg "list" = none) (hv : bootBuiltins "list" = some (.type "list")) (hg2 : Gl X "zip") (hm2 : X.mg "zip" = none) (ha : PA X [e, e2] ta)
    (hs2 : starEach [e, e2] X.env = (false, eval e X.env) :: starEach [e2] X.env := by rfl) (hpl : (backTo cpos (starEach [e2] X.env)).any (·.1) = false := by rfl)
    (hs : starEach [.Call (.Name "zip" p2) [e, e2] [] cpos] X.env = (false, eval (.Call (.Name "zip" p2) [e, e2] [] cpos) X.env) :: starEach [] X.env := by rfl) :
    PE X (.Call (.Name "list" p) [.Call (.Name "zip" p2) [e, e2] [] cpos] [] pos) (tListZip X.K ta) := by
  refine ⟨fun pins s σ H Q I hq => ?_⟩
  refine wpAny_Call_Name_kw (ld_blt I hg hm hv ?_)
  refine PyProof.Rows.callWith_type1 ?_ hs rfl
  rw [hs]
  show wpAny _ _ (spliced ((false, eval (.Call (.Name "zip" p2) [e, e2] [] cpos) X.env) :: backTo pos (starEach [] X.env))) _ _ s
  refine Calls.spliced_cons ?_
  refine Call_ (ld_blt I hg2 hm2 PyProof.Rows.boot_zip (PyProof.Rows.callWith_type1 (thn (ha.run cpos pins s σ H _ I hq) fun us s1 ⟨vs, H1, I1, r1, q1⟩ => ?_) hs2 hpl))
  obtain ⟨a, b, xs, ys, ex, hqx, hqy, q⟩ := q1
  subst ex
  cases r1 with
  | cons r rr =>
    cases rr with
    | cons r' rr =>
      cases rr
      cases r
      cases r'
      obtain ⟨its, rv, p1, hzl⟩ := I1.list hqx
      obtain ⟨its2, rv2, p2', _⟩ := I1.list hqy
      refine call_zip_2 p1.isList p2'.isList fun h' hz hTI hTO h1 h2 hsz hk => ?_
      refine Calls.spliced_nil ?_
      have hl1 : h'.IsList a its.toArray := by
        obtain ⟨o, e, r⟩ := p1.isList
        exact ⟨o, hk _ _ e, r⟩
      have hl2 : h'.IsList b its2.toArray := by
        obtain ⟨o, e, r⟩ := p2'.isList
        exact ⟨o, hk _ _ e, r⟩
      have lu := rv.length
      have lw := rv2.length
      refine zl_call (s := { s1 with heap := h' }) (I1.ok.hd hc) (PySem.W.ktu_apart s1.heap.objs.size a b p1.lt p2'.lt) (xs := its.toArray) (ys := its2.toArray) (n := min its.length its2.length) (by simp) (by omega) hz ⟨_, _, hTO⟩ hTI h1 h2 hl1 hl2 fun h2' tk acc c as hk2 hS hl hG hacc => ?_
      have hk3 : ∀ b o, s1.heap.get? b = some o → h2'.get? b = some o := fun b o e => by
        have hb := Heap.lt_size e
        exact hk2 b o (Nat.ne_of_lt (Nat.lt_add_right 4 hb)) (Nat.ne_of_lt (Nat.lt_add_right 3 hb)) (Nat.ne_of_lt hb) (Nat.ne_of_lt (Nat.lt_add_right 1 hb)) (hk b o e)
      have hS' : h2'.get? h'.objs.size = some { cls := .type "list", dict := none, data := .seq acc c, slots := #[] } := hS
      obtain ⟨H', k1, k2, k3, k4, k5, k6, J⟩ := zip_laid (tk := tk) (S := h'.objs.size) I1 hzl rv rv2 hk3 (by rw [hsz]; exact Nat.le_add_right _ 5) hS' hl hG hacc
      exact ⟨.ref h'.objs.size, H', J, rfl, q H' _ as k1 k2 k3 k4 k5 k6⟩
end ZL

set_option Elab.async false
set_option linter.all false
set_option maxRecDepth 100000
set_option maxHeartbeats 4000000
namespace Fe
open PySem PySem.Spec PyProof.Rows L2
/-! ### list(zip(a, b)) -/
section
variable {G : Gc} {Wx : WX} {Z : Addr → Prop} {W : Wd} {S : Sto} {σ : L2.St} {X : Cx} {k : Nat} {H' : Hp}
theorem wide_go (st : StRep G W Z S) (h : ∀ b o, W.H b = some o → H' b = some o) : Go Z W { W with H := H' } :=
  ⟨⟨⟨fun a q _ e u => ⟨h a q e, u⟩⟩, fun _ _ => rfl, Nat.le_refl _⟩, fun a z => by
    obtain ⟨q, e, _⟩ := st.ut a (st.zu a z)
    show H' a = W.H a
    rw [e, h a q e]⟩
theorem wide_st (st : StRep G W Z S) (h : ∀ b o, W.H b = some o → H' b = some o) : StRep G { W with H := H' } Z S := by
  have go := wide_go st h
  refine ⟨tabs_ext st.tab (fun b ps e => h _ _ e) (fun b q e => h _ _ e), st.len, st.zu, fun a u => ?_, fun i so e l => ?_, st.inj, st.back⟩
  · obtain ⟨q, e, n⟩ := st.ut a u
    exact ⟨q, h a q e, n⟩
  · obtain ⟨h1, h2, h3⟩ := st.obj i so e l
    obtain ⟨q, e, n⟩ := st.ut _ h1
    exact ⟨h1, h2, ObjR.ext go.toExt (by show H' (W.ρ i) = W.H (W.ρ i); rw [e, h _ _ e]) h3⟩
theorem zip_reps (hu : ∀ t, W.H t = none → ¬ W.U t) : ∀ {xs ys : List P} {us ws : List V} {ts : List Addr}, Reps G { W with H := H' } xs us → Reps G { W with H := H' } ys ws → (∀ t ∈ ts, W.H t = none) → Paired (fun (t : Addr) (q : V × V) => H' t = some (.tup [q.1, q.2])) ts (us.zip ws) → Reps G { W with H := H' } (zipP xs ys) (ts.map V.ref)
  | [], ys, [], ws, ts, _, _, _, h => by
    simp only [List.zip_nil_left] at h
    cases h
    simp only [zipP, List.map_nil, Reps]
  | [], _, _ :: _, _, _, r, _, _, _ => by simp [Reps] at r
  | _ :: _, _, [], _, _, r, _, _, _ => by simp [Reps] at r
  | x :: xs, [], u :: us, [], ts, _, _, _, h => by
    simp only [List.zip_nil_right] at h
    cases h
    simp only [zipP, List.map_nil, Reps]
  | _ :: _, [], _ :: _, _ :: _, _, _, r, _, _ => by simp [Reps] at r
  | _ :: _, _ :: _, _ :: _, [], _, _, r, _, _ => by simp [Reps] at r
  | x :: xs, y :: ys, u :: us, w :: ws, ts, r1, r2, hn, h => by
    simp only [List.zip_cons_cons] at h
    cases h with
    | cons e t =>
      rename_i tt ts'
      simp only [Reps] at r1 r2
      simp only [zipP, List.map_cons, Reps]
      refine ⟨?_, zip_reps hu r1.2 r2.2 (fun z hz => hn z (List.mem_cons_of_mem _ hz)) t⟩
      simp only [Rep]
      refine ⟨tt, [u, w], rfl, .inl ⟨hu tt (hn tt List.mem_cons_self), .inl e⟩, ?_⟩
      simp only [Reps]
      exact ⟨r1.1, r2.1, trivial⟩
def dLz (S : Sto) : List D → Option D
  | [d1, d2] => match asL1 S [d1], asL1 S [d2] with
    | some xs, some ys => some (.p (.lst (zipP xs ys)))
    | _, _ => none
  | _ => none
def cLz (f : CA) : CE' := fun env S => (f env S).bind fun ds S1 => R.ofO S1 (dLz S1 ds)
theorem pf_listZip {e e2 : Expr} {f : CA} {p p2 pos cpos : Pos} (cg : CtxG G X k) (hm : X.mg "list" = none) (hm2 : X.mg "zip" = none) (ha : PFA G X [e, e2] f) (hc : X.calm = true) (hg : Gl X "list" := by rfl) (hg2 : Gl X "zip" := by rfl) (hv : bootBuiltins "list" = some (.type "list") := by rfl)
    (hs2 : starEach [e, e2] X.env = (false, eval e X.env) :: starEach [e2] X.env := by rfl) (hpl : (backTo cpos (starEach [e2] X.env)).any (·.1) = false := by rfl)
    (hs : starEach [.Call (.Name "zip" p2) [e, e2] [] cpos] X.env = (false, eval (.Call (.Name "zip" p2) [e, e2] [] cpos) X.env) :: starEach [] X.env := by rfl) :
    PF G X (.Call (.Name "list" p) [.Call (.Name "zip" p2) [e, e2] [] cpos] [] pos) (cLz f) := fun Wx tk => by
  refine PE.imp (ZL.pe_listZip hc hg hm hv hg2 hm2 (ha Wx tk) hs2 hpl hs) fun σ H Q h => ?_
  obtain ⟨Z, S, W, env, rfl, st, er, p⟩ := h
  refine ⟨Z, S, W, env, rfl, st, er, ?_⟩
  unfold cLz at p
  cases hf : f env S with
  | bad => rw [hf] at p; exact p
  | exc c ns ds S' => rw [hf] at p; exact p
  | ok ds S1 =>
    rw [hf] at p
    simp only [R.bind_ok] at p
    intro vs W1 go1 st1 r1
    obtain ⟨d, e, p⟩ := ofO_post p
    unfold dLz at e
    split at e
    · rename_i d1 d2
      match vs, r1 with
      | [], r1 => exact r1.elim
      | [_], r1 => exact r1.2.elim
      | _ :: _ :: _ :: _, r1 => exact r1.2.2.elim
      | [v1, v2], r1 =>
        have q1 : RepDs G W1 [d1] [v1] := ⟨r1.1, trivial⟩
        have q2 : RepDs G W1 [d2] [v2] := ⟨r1.2.1, trivial⟩
        split at e
        · rename_i xs ys h1 h2
          cases e
          obtain ⟨a, us, e1, l, r⟩ := asL1_rep cg h1 q1
          obtain ⟨b, ws, e2, l', r'⟩ := asL1_rep cg h2 q2
          cases e1
          cases e2
          refine ⟨a, b, us, ws, rfl, l W1 (Ext.refl _), l' W1 (Ext.refl _), fun H' q ts k1 k2 k3 k4 k5 k6 => ?_⟩
          have go2 := wide_go st1 k1
          have st2 := wide_st st1 k1
          refine p (.ref q) { W1 with H := H' } (go1.trans go2) st2 ?_
          have hu : ∀ t, W1.H t = none → ¬ W1.U t := fun t ht => put_nu st1 ht
          show Rep G { W1 with H := H' } (.lst (zipP xs ys)) (.ref q)
          simp only [Rep]
          exact ⟨q, ts.map V.ref, rfl, ⟨hu q k2, k5⟩, zip_reps hu (Reps.ext go2.toExt xs r) (Reps.ext go2.toExt ys r') k3 k6⟩
        · cases e
    · cases e
@[simp] theorem m_lz {env : DEnv} {S : Sto} (f) : cLz f env S = (f env S).bind fun ds S1 => R.ofO S1 (dLz S1 ds) := (rfl)
@[simp] theorem m_dlz {S : Sto} (xs ys : List P) : dLz S [.p (.lst xs), .p (.lst ys)] = some (.p (.lst (zipP xs ys))) := (rfl)
end
end Fe

set_option Elab.async false
set_option linter.all false
set_option maxRecDepth 100000
namespace PySem.SeqAt
open AutoSeq1 (wpAny_loadPart')
open MeetsSeq MeetsSeq2 MeetsSeq3 SeqRoads2
section
variable {prog : Program} {w : World}
theorem zl_ne_loopIn (l b : Addr) (items items2 : Array Value) (n n2 : Nat) (dd dd2 : Option Addr) (sl sl2 : Array (Option Value)) (hsz : items.size = items2.size) (e : Nat → Bool) (k : Nat) :
    ∀ i : Nat, items.size - i = k → MeetsIn prog w (Builtin.«list.__eq__.loop» ⟨[.ref l, .ref b, rawInt i, rawInt 3], []⟩)
      (fun A R s => s.heap.get? l = some { cls := .type "list", dict := dd, data := .seq items n, slots := sl } ∧ s.heap.get? b = some { cls := .type "list", dict := dd2, data := .seq items2 n2, slots := sl2 } ∧
        (∀ j (h1 : j < items.size) (h2 : j < items2.size), EqP prog w A.in1 s items[j] items2[j] (e j)) ∧
        R (.ok (.ret (.bool (!((List.range items.size).drop i).all e)))) s) := by
  induction k with
  | zero =>
    intro i hk A R s h
    obtain ⟨hp, g, d, tk, os⟩ := s; obtain ⟨hl, hb, he, h⟩ := h
    wp_walk using wpAny_loadPart' hl, wpAny_loadPart' hb
    have hi1 : items[((i : Nat) : Int).toNat]? = none := by simp; omega
    have hi2 : items2[((i : Nat) : Int).toNat]? = none := by simp; omega
    have hd : (List.range items.size).drop i = [] := by simp; omega
    rw [hd] at h
    rw [hi1, hi2]
    wp_walk using wpAny_loadPart' hl, wpAny_loadPart' hb
    show R (.ok (.ret (.bool (items.size != items2.size)))) _
    rw [hsz]
    simpa using h
  | succ k ih =>
    intro i hk A R s h
    obtain ⟨hp, g, d, tk, os⟩ := s; obtain ⟨hl, hb, he, h⟩ := h
    wp_walk using wpAny_loadPart' hl, wpAny_loadPart' hb
    have hlt : i < items.size := by omega
    have hlt2 : i < items2.size := by omega
    have hi1 : items[((i : Nat) : Int).toNat]? = some items[i] := by simp [hlt]
    have hi2 : items2[((i : Nat) : Int).toNat]? = some items2[i] := by simp [hlt2]
    have hd : (List.range items.size).drop i = i :: (List.range items.size).drop (i + 1) := by simp [List.drop_eq_getElem_cons, hlt]
    have hc : ((i : Int) + 1) = ((i + 1 : Nat) : Int) := by push_cast; rfl
    rw [hd, List.all_cons] at h
    rw [hi1, hi2]
    refine wpAny_bind (he i hlt hlt2 _ _ ?_)
    cases hb' : e i with
    | true =>
      rw [hb'] at h
      wp_walk
      rw [hc]
      exact ⟨plainId_quiet plain_eq_loop _, codeAny_builtin entry_eq_loop (by
        rw [Around.under_plainId plain_eq_loop _]
        exact ih (i + 1) (by omega) A R _ ⟨hl, hb, he, by simpa using h⟩)⟩
    | false =>
      rw [hb'] at h
      wp_walk using wpAny_loadPart' hl, wpAny_loadPart' hb
      rw [hi1, hi2]
      wp_walk
      simpa using h
theorem zl_list_neIn (l b : Addr) (items items2 : Array Value) (n n2 : Nat) (dd dd2 : Option Addr) (sl sl2 : Array (Option Value)) (hsz : items.size = items2.size) (e : Nat → Bool) :
    MeetsIn prog w (Builtin.«list.__ne__» ⟨[.ref l, .ref b], []⟩)
      (fun A R s => s.heap.get? l = some { cls := .type "list", dict := dd, data := .seq items n, slots := sl } ∧ s.heap.get? b = some { cls := .type "list", dict := dd2, data := .seq items2 n2, slots := sl2 } ∧
        (∀ j (h1 : j < items.size) (h2 : j < items2.size), EqP prog w A.in1 s items[j] items2[j] (e j)) ∧
        R (.ok (.ret (.bool (!(List.range items.size).all e)))) s) := by
  intro A R s h
  obtain ⟨hp, g, d, tk, os⟩ := s; obtain ⟨hl, hb, he, h⟩ := h
  have f3 := AutoSeq1.sub_list_list
  have hne : ¬ (items.size != items2.size) = true := by simp [hsz]
  wp_walk using wpAny_loadPart' hl, wpAny_loadPart' hb
  exact ⟨plainId_quiet plain_eq_loop _, codeAny_builtin entry_eq_loop (by
    rw [Around.under_plainId plain_eq_loop _]
    exact zl_ne_loopIn l b items items2 n n2 dd dd2 sl sl2 hsz e _ 0 rfl A R _ ⟨hl, hb, he, by simpa using h⟩)⟩
theorem zl_rcne_lists {A : Around} {s : Shared} {l b : Addr} {items items2 : Array Value} {e : Nat → Bool} (hl : s.heap.IsList l items) (hb : s.heap.IsList b items2) (hsz : items.size = items2.size) (hu : A.units < cLine)
    (he : ∀ j (h1 : j < items.size) (h2 : j < items2.size), EqP prog w A.in1 s items[j] items2[j] (e j)) (E Q : Value → Shared → Prop) (h : Q (.bool (!(List.range items.size).all e)) s) : wpAny (model prog w) A (richCompare .NotEq (.ref l) (.ref b)) Q E s := by
  obtain ⟨⟨cls, dd, data, sl⟩, ho, hc, n, hd⟩ := id hl
  obtain ⟨⟨cls2, dd2, data2, sl2⟩, ho2, hc2, n2, hd2⟩ := id hb
  simp only at hc hd hc2 hd2
  subst hc hd hc2 hd2
  have ta : s.TypeIs (.ref l) "list" := ⟨_, ho, rfl⟩
  have tb : s.TypeIs (.ref b) "list" := ⟨_, ho2, rfl⟩
  exact wpAny_richCompare_same_room (op := .NotEq) ta tb F.slot_list_ne (call_meetsIn F.slot_list_ne ta F.entry_list_ne (F.args_list_ne_2 _ _) (zl_list_neIn l b items items2 n n2 dd dd2 sl sl2 hsz e)
    ⟨ho, ho2, he, show Value.bool (!(List.range items.size).all e) ≠ Value.notImplemented ∧ Q (.bool (!(List.range items.size).all e)) s from ⟨(fun x => nomatch x), h⟩⟩) hu
end
end PySem.SeqAt

set_option Elab.async false
set_option linter.all false
set_option maxRecDepth 100000
set_option maxHeartbeats 4000000
namespace Fe
open PySem PySem.Spec PyProof.Rows L2
/-! ### [text, {}] != [text, {}] -/
section
variable {G : Gc} {Wx : WX} {Z : Addr → Prop} {W : Wd} {S : Sto} {σ : L2.St} {X : Cx} {k : Nat}
theorem empty_dict {pins : List (Addr × Obj)} {s : Shared} {H : Hp} {a : Addr} (I : Inv X pins σ H s) (h : Rd H a (.dK []) ∨ Rd H a (.dT [])) : (a == sysModules) = false ∧ s.heap.DictOf (mixKind X.prog X.w) a [] := by
  rcases h with h | h
  · obtain ⟨_, lo, vs, kv, hd⟩ := (show ObjOk X.prog X.w H s.heap a (.dK []) from h.ok I.hok)
    cases kv
    exact ⟨lo, hd⟩
  · obtain ⟨_, lo, xs, kt, o, es, ep, h1, h2, h3, h4, h5⟩ := (show ObjOk X.prog X.w H s.heap a (.dT []) from h.ok I.hok)
    cases kt
    have e : es = #[] := by
      apply Array.toList_inj.mp
      simpa using h4
    subst e
    refine ⟨lo, o, #[], ep, h1, h2, h3, ?_, ?_, by simp⟩
    · intro e he
      simp at he
    · exact .nil
theorem rep_empty {v : V} (r : Rep G W (.dct [] []) v) : ∃ a, v = .ref a ∧ (Rd W.H a (.dK []) ∨ Rd W.H a (.dT [])) := by
  simp only [Rep] at r
  obtain ⟨a, us, rfl, t, rr⟩ := r
  rcases t with ⟨_, kk, h1, h2, h3⟩ | ⟨_, kk, h1, h2, h3⟩
  · simp only [keysD, Option.some.injEq] at h1
    subst h1
    exact ⟨a, rfl, .inl h3⟩
  · simp only [tkeysD, Option.some.injEq] at h1
    subst h1
    exact ⟨a, rfl, .inr h3⟩
def neKey : D → Option Str
  | .p (.lst [.str a, .dct [] []]) => some a
  | _ => none
theorem neKey_of {x : D} {a : Str} (h : neKey x = some a) : x = .p (.lst [.str a, .dct [] []]) := by
  unfold neKey at h
  split at h
  · cases h; rfl
  · cases h
def dNeL (S : Sto) (x y : D) : Option D := match neKey x, neKey y with
  | some a, some b => if a = b then some (.p (.bl false)) else none
  | _, _ => dNe S x y
theorem rep_pairE {z : Str} {v : V} (r : RepD G W (.p (.lst [.str z, .dct [] []])) v) : ∃ p d, v = .ref p ∧ LstAt W p [.str z, .ref d] ∧ (Rd W.H d (.dK []) ∨ Rd W.H d (.dT [])) := by
  obtain ⟨p, us, rfl, t, l⟩ := rep_lst r
  cases us with
  | nil => exact l.elim
  | cons u1 us =>
    cases us with
    | nil => exact l.2.elim
    | cons u2 us =>
      cases us with
      | cons _ _ => exact l.2.2.elim
      | nil =>
        obtain ⟨d, rfl, hd⟩ := rep_empty l.2.1
        have e1 : u1 = .str z := rep_str (G := G) (W := W) l.1
        subst e1
        exact ⟨p, d, rfl, t, hd⟩
theorem v_neL (cg : CtxG G X k) : OpR X (compareOp .NotEq) (v2D G dNeL) := by
  intro pins s σ H x y v u Q I rx ry h'
  obtain ⟨Z, S, W, d1, d2, d, rfl, st, r1, r2, e, q⟩ := h'
  unfold dNeL at e
  cases k1 : neKey d1 with
  | none =>
    rw [k1] at e
    exact v_ne cg pins s σ W.H x y v u Q I rx ry ⟨Z, S, W, d1, d2, d, rfl, st, r1, r2, e, q⟩
  | some z =>
    cases k2 : neKey d2 with
    | none =>
      rw [k1, k2] at e
      exact v_ne cg pins s σ W.H x y v u Q I rx ry ⟨Z, S, W, d1, d2, d, rfl, st, r1, r2, e, q⟩
    | some z' =>
      rw [k1, k2] at e
      dsimp only at e
      split at e
      · rename_i hz
        subst hz
        cases e
        obtain rfl := neKey_of k1
        obtain rfl := neKey_of k2
        obtain ⟨p1, da, rfl, t1, ha⟩ := rep_pairE r1
        obtain ⟨p2, db, rfl, t2, hb⟩ := rep_pairE r2
        obtain ⟨i1, v1, q1, _⟩ := I.list (t1.sq (K := X.K))
        obtain ⟨i2, v2, q2, _⟩ := I.list (t2.sq (K := X.K))
        obtain ⟨la, ka⟩ := empty_dict I ha
        obtain ⟨lb, kb⟩ := empty_dict I hb
        cases v1 with
        | @cons _ a1 _ as1 ra1 rr1 =>
          cases rr1 with
          | @cons _ a2 _ as2 ra2 rr2 =>
            cases rr2
            cases v2 with
            | @cons _ b1 _ bs1 rb1 rr3 =>
              cases rr3 with
              | @cons _ b2 _ bs2 rb2 rr4 =>
                cases rr4
                have ea : a2 = Value.ref da := ra2
                have eb : b2 = Value.ref db := rb2
                subst ea eb
                have ev : v = Value.ref p1 := rx
                have eu : u = Value.ref p2 := ry
                subst ev eu
                have hu := cg.room.un
                show wpAny (model X.prog X.w) X.A (richCompare .NotEq (.ref p1) (.ref p2)) (EP X pins σ Q) X.xe s
                refine SeqAt.zl_rcne_lists (e := fun _ => true) q1.isList q2.isList rfl (by omega) (fun j h1 h2 => ?_) X.xe _ ?_
                · have hj : j = 0 ∨ j = 1 := by
                    have : j < 2 := h1
                    omega
                  rcases hj with rfl | rfl
                  · exact (eqAt_same ra1 rb1 rfl).eqP
                  · by_cases hd : da = db
                    · subst hd
                      exact (SeqAt.EqAt.same _).eqP
                    · refine SeqAt.eqP_refs hd fun E Q2 hq => ?_
                      refine PySem.W.rcP_dicts (knd := mixKind X.prog X.w) (r := true) la lb ka kb (by show X.A.units + 1 < cLine; omega) (fun _ => .nil) E Q2 ?_
                      exact hq
                · exact ⟨.bl false, W.H, I, rfl, q _ W (Go.refl _ _) st (mk_bl _)⟩
      · cases e
end
end Fe

set_option Elab.async false
set_option linter.all false
set_option maxRecDepth 100000
set_option maxHeartbeats 4000000
namespace Law
open PySem PySem.Spec PyProof.Rows L2 Fe
noncomputable section
def topS (i : Nat) : Stmt := PySem.Challenge.pw_barscribe_k59_notes_at_moments.main.body.getD i (.Pass ⟨0, 0, 0, 0⟩)
def t_isa_bool : Tg → Option Bool
  | .non => some false
  | .bl => some true
  | .int => some false
  | .str => some false
  | .tup => some false
  | .lst => some false
  | .dct => some false
  | .cls 43 => some false
  | .xc 2 => some false
  | .xc 12 => some false
  | .xc 13 => some false
  | _ => none
def t_isa_int : Tg → Option Bool
  | .non => some false
  | .bl => some true
  | .int => some true
  | .str => some false
  | .tup => some false
  | .lst => some false
  | .dct => some false
  | .cls 43 => some false
  | .xc 2 => some false
  | .xc 12 => some false
  | .xc 13 => some false
  | _ => none
def t_isa_str : Tg → Option Bool
  | .non => some false
  | .bl => some false
  | .int => some false
  | .str => some true
  | .tup => some false
  | .lst => some false
  | .dct => some false
  | .cls 43 => some false
  | .xc 2 => some false
  | .xc 12 => some false
  | .xc 13 => some false
  | _ => none
def t_isa_tuple : Tg → Option Bool
  | .non => some false
  | .bl => some false
  | .int => some false
  | .str => some false
  | .tup => some true
  | .lst => some false
  | .dct => some false
  | .cls 43 => some false
  | .xc 2 => some false
  | .xc 12 => some false
  | .xc 13 => some false
  | _ => none
def t_isa_list_tuple : Tg → Option Bool
  | .non => some false
  | .bl => some false
  | .int => some false
  | .str => some false
  | .tup => some true
  | .lst => some true
  | .dct => some false
  | .cls 43 => some false
  | .xc 2 => some false
  | .xc 12 => some false
  | .xc 13 => some false
  | _ => none
def t_isa_BadRhythm_BadFigure : Tg → Option Bool
  | .non => some false
  | .bl => some false
  | .int => some false
  | .str => some false
  | .tup => some false
  | .lst => some false
  | .dct => some false
  | .cls 43 => some false
  | .xc 2 => some false
  | .xc 12 => some false
  | .xc 13 => some true
  | _ => none
def t_isa_BadRhythm : Tg → Option Bool
  | .non => some false
  | .bl => some false
  | .int => some false
  | .str => some false
  | .tup => some false
  | .lst => some false
  | .dct => some false
  | .cls 43 => some false
  | .xc 2 => some false
  | .xc 12 => some false
  | .xc 13 => some true
  | _ => none
def t_isa_BadPoint : Tg → Option Bool
  | .non => some false
  | .bl => some false
  | .int => some false
  | .str => some false
  | .tup => some false
  | .lst => some false
  | .dct => some false
  | .cls 43 => some false
  | .xc 2 => some true
  | .xc 12 => some false
  | .xc 13 => some false
  | _ => none
def t_isa_NoGrouping : Tg → Option Bool
  | .non => some false
  | .bl => some false
  | .int => some false
  | .str => some false
  | .tup => some false
  | .lst => some false
  | .dct => some false
  | .cls 43 => some false
  | .xc 2 => some false
  | .xc 12 => some false
  | .xc 13 => some false
  | _ => none
def t_isa_BadNumber : Tg → Option Bool
  | .non => some false
  | .bl => some false
  | .int => some false
  | .str => some false
  | .tup => some false
  | .lst => some false
  | .dct => some false
  | .cls 43 => some false
  | .xc 2 => some false
  | .xc 12 => some true
  | .xc 13 => some false
  | _ => none
def t_isa_BadRow : Tg → Option Bool
  | .non => some false
  | .bl => some false
  | .int => some false
  | .str => some false
  | .tup => some false
  | .lst => some false
  | .dct => some false
  | .cls 43 => some false
  | .xc 2 => some false
  | .xc 12 => some false
  | .xc 13 => some false
  | _ => none
def t_isa_BadLoop : Tg → Option Bool
  | .non => some false
  | .bl => some false
  | .int => some false
  | .str => some false
  | .tup => some false
  | .lst => some false
  | .dct => some false
  | .cls 43 => some false
  | .xc 2 => some false
  | .xc 12 => some false
  | .xc 13 => some false
  | _ => none
def t_isa_BadGroups : Tg → Option Bool
  | .non => some false
  | .bl => some false
  | .int => some false
  | .str => some false
  | .tup => some false
  | .lst => some false
  | .dct => some false
  | .cls 43 => some false
  | .xc 2 => some false
  | .xc 12 => some false
  | .xc 13 => some false
  | _ => none
def t_isa_BadMetre : Tg → Option Bool
  | .non => some false
  | .bl => some false
  | .int => some false
  | .str => some false
  | .tup => some false
  | .lst => some false
  | .dct => some false
  | .cls 43 => some false
  | .xc 2 => some false
  | .xc 12 => some false
  | .xc 13 => some false
  | _ => none
def t_xf_index : Nat → Bool
  | 13 => true
  | _ => false
def t_xf_obstacle : Nat → Bool
  | _ => false
def t_xf_point : Nat → Bool
  | 2 => true
  | _ => false
def t_exm_RhythmError : Nat → Bool
  | 2 => true
  | 12 => true
  | 13 => true
  | _ => false
/-! ### _law_begin -/
abbrev s_law_begin : Stmt := (topS 21)
theorem sc_law_begin : FnScope ["_law_cell", "_law_turn"] ["_law_cell", "_law_turn"] (defScope s_law_begin) := ⟨rfl, rfl, rfl, by decide +kernel, rfl, by decide +kernel, by decide +kernel⟩
def F_law_begin : FD := cBody 2 2 (sRet (cRef (cCons (cApp dMax (cCons (cP (.int 0)) (cCons (cOp dSub (cVar 0) (cOp dPow (cP (.int 10)) (cP (.int 18)))) cNil))) (cCons (cOp dAdd (cVar 0) (cOp dMul (cP (.int 977)) (cVar 1))) (cCons (cP (.int 0)) cNil)))))
/-! ### _law_draw -/
abbrev s_law_draw : Stmt := (topS 22)
theorem sc_law_draw : FnScope ["_law_state", "_law_size", "_law_found"] ["_law_state", "_law_size"] (defScope s_law_draw) := ⟨rfl, rfl, rfl, by decide +kernel, rfl, by decide +kernel, by decide +kernel⟩
def F_law_draw : FD := cBody 2 3 (sSeq (sIf (cTB (cOp dGt (cOp dIx (cVar 0) (cP (.int 0))) (cP (.int 0)))) (sSeq (sSet 2 (cOp dMod (cApp (on1 dInt) (cCons (cOp dIx (cVar 0) (cP (.int 0))) cNil)) (cVar 1)))
  (sSeq (sAsg (gSet (cVar 0) (cP (.int 0))) (cOp dFdiv (cOp dIx (cVar 0) (cP (.int 0))) (cVar 1)))
  (sRet (cVar 2)))) sNx)
  (sSeq (sAsg (gSet (cVar 0) (cP (.int 2))) (cOp dAdd (cOp dIx (cVar 0) (cP (.int 2))) (cP (.int 1))))
  (sSeq (sSet 2 (cOp dAdd (cOp dMod (cApp (on1 dInt) (cCons (cOp dIx (cVar 0) (cP (.int 1))) cNil)) (cP (.int 2147483629))) (cOp dMul (cP (.int 104729)) (cOp dIx (cVar 0) (cP (.int 2))))))
  (sSeq (sSet 2 (cOp dMul (cVar 2) (cOp dAdd (cOp dAdd (cOp dMod (cApp (on1 dInt) (cCons (cOp dIx (cVar 0) (cP (.int 1))) cNil)) (cP (.int 2147483587))) (cOp dMul (cOp dMul (cP (.int 7919)) (cOp dIx (cVar 0) (cP (.int 2)))) (cOp dIx (cVar 0) (cP (.int 2))))) (cP (.int 11)))))
  (sRet (cOp dMod (cApp (on1 dInt) (cCons (cOp dFdiv (cOp dMod (cApp (on1 dInt) (cCons (cOp dPow (cVar 2) (cP (.int 3))) cNil)) (cP (.int 2147483647))) (cP (.int 11))) cNil)) (cVar 1)))))))
/-! ### _law_pick -/
abbrev s_law_pick : Stmt := (topS 23)
theorem sc_law_pick : FnScope ["_law_state", "_law_items"] ["_law_state", "_law_items"] (defScope s_law_pick) := ⟨rfl, rfl, rfl, by decide +kernel, rfl, by decide +kernel, by decide +kernel⟩
def F_law_pick : FD := cBody 2 2 (sRet (cOp dIx (cVar 1) (cCall (borrowF F_law_draw) [] (cCons (cVar 0) (cCons (cApp (on1 dLen) (cCons (cVar 1) cNil)) cNil)))))
/-! ### _law_bits -/
abbrev s_law_bits : Stmt := (topS 24)
theorem sc_law_bits : FnScope ["_law_state", "_law_most", "_law_many", "_law_k"] ["_law_state", "_law_most"] (defScope s_law_bits) := ⟨rfl, rfl, rfl, by decide +kernel, rfl, by decide +kernel, by decide +kernel⟩
def F_law_bits : FD := cBody 2 4 (sSeq (sSet 2 (cCall (borrowF F_law_draw) [] (cCons (cVar 0) (cCons (cOp dAdd (cVar 1) (cP (.int 1))) cNil))))
  (sRet (cIf (cTB (cOp dGt (cVar 2) (cP (.int 0)))) (cBm isStr dJoin (cP (.str "")) (cCons (cOp dAdd (cLc (iRange1 (cCons (cOp dSub (cVar 2) (cP (.int 1))) cNil)) (gN 3) cYes (cCall (borrowF F_law_pick) [] (cCons (cVar 0) (cCons (cP (.str "01")) cNil))) [3]) (cLst (cCons (cP (.str "1")) cNil))) cNil)) (cP (.str "")))))
/-! ### _law_notes -/
abbrev s_law_notes : Stmt := (topS 25)
theorem sc_law_notes : FnScope ["_law_state", "_law_size", "_law_many", "_law_most", "_law_found", "_law_k", "_law_when"] ["_law_state", "_law_size", "_law_many", "_law_most"] (defScope s_law_notes) := ⟨rfl, rfl, rfl, by decide +kernel, rfl, by decide +kernel, by decide +kernel⟩
def F_law_notes : FD := cBody 4 7 (sSeq (sSet 4 (cDispT [((cCons (cP (.int 0)) (cCons (cP (.str "")) cNil)), (cP (.bl true)))]))
  (sSeq (sFor (iRange1 (cCons (cCall (borrowF F_law_draw) [] (cCons (cVar 0) (cCons (cOp dAdd (cVar 2) (cP (.int 1))) cNil))) cNil)) (gN 5) (sAsg (gSetDt (cVar 4) (cCons (cCall (borrowF F_law_draw) [] (cCons (cVar 0) (cCons (cVar 1) cNil))) (cCons (cCall (borrowF F_law_bits) [] (cCons (cVar 0) (cCons (cVar 3) cNil))) cNil))) (cP (.bl true))))
  (sRet (cLc (iSeq (cApp (on1 dSorted) (cCons (cVar 4) cNil))) (gN 6) cYes (cTup (cCons (cVar 6) (cCons (cCall (borrowF F_law_pick) [] (cCons (cVar 0) (cCons (cLst (cCons (cP (.str "tone")) (cCons (cP (.str "tone")) (cCons (cP (.str "rest")) cNil)))) cNil))) cNil))) [6]))))
/-! ### BadRhythm.__init__ -/
abbrev s_BadRhythm___init__ : Stmt := (inClass (topS 6) 0)
theorem sc_BadRhythm___init__ : FnScope ["self", "index"] ["self", "index"] (defScope s_BadRhythm___init__) := ⟨rfl, rfl, rfl, by decide +kernel, rfl, by decide +kernel, by decide +kernel⟩
/-! ### is_integer -/
abbrev s_is_integer : Stmt := (topS 16)
theorem sc_is_integer : FnScope ["value"] ["value"] (defScope s_is_integer) := ⟨rfl, rfl, rfl, by decide +kernel, rfl, by decide +kernel, by decide +kernel⟩
def F_is_integer : FD := cBody 1 1 (sRet ((cAndV (cIsi t_isa_int (cVar 0)) (cNotV (cIsi t_isa_bool (cVar 0))))))
/-! ### is_moment -/
abbrev s_is_moment : Stmt := (topS 17)
theorem sc_is_moment : FnScope ["value", "length", "pulse", "bits", "digit"] ["value", "length"] (defScope s_is_moment) := ⟨rfl, rfl, rfl, by decide +kernel, rfl, by decide +kernel, by decide +kernel⟩
def F_is_moment : FD := cBody 2 5 (sSeq (sIf (cOr (cNot (cTr (cIsi t_isa_tuple (cVar 0)))) (cOr (cTB (cOp dNe (cApp (on1 dLen) (cCons (cVar 0) cNil)) (cP (.int 2)))) (cOr (cNot (cTr (cCall (pureF F_is_integer) [] (cCons (cOp dIx (cVar 0) (cP (.int 0))) cNil)))) (cNot (cTr (cIsi t_isa_str (cOp dIx (cVar 0) (cP (.int 1))))))))) (sRet (cP (.bl false))) sNx)
  (sSeq (sAsg (gT 2 (gCons' (gN 2) (gCons' (gN 3) gNil'))) (cVar 0))
  (sRet ((cAndV (cChain dLe dLt (cP (.int 0)) (cVar 2) (cVar 1)) (cAndV (cApp (on1 dAll) (cCons (cLc (iTxt (cVar 3)) (gN 4) cYes (cOp dIn (cVar 4) (cP (.str "01"))) [4]) cNil)) (cOp dNe (cSl (cVar 3) (oSome (cUn dNeg (cP (.int 1)))) oNone) (cP (.str "0")))))))))
/-! ### is_note -/
abbrev s_is_note : Stmt := (topS 18)
theorem sc_is_note : FnScope ["value", "length"] ["value", "length"] (defScope s_is_note) := ⟨rfl, rfl, rfl, by decide +kernel, rfl, by decide +kernel, by decide +kernel⟩
def F_is_note : FD := cBody 2 2 (sSeq (sIf (cOr (cNot (cTr (cIsi t_isa_tuple (cVar 0)))) (cOr (cTB (cOp dNe (cApp (on1 dLen) (cCons (cVar 0) cNil)) (cP (.int 2)))) (cNot (cTr (cCall (pureF F_is_moment) [] (cCons (cOp dIx (cVar 0) (cP (.int 0))) (cCons (cVar 1) cNil))))))) (sRet (cP (.bl false))) sNx)
  (sRet ((cAndV (cIsi t_isa_str (cOp dIx (cVar 0) (cP (.int 1)))) (cOp dIn (cOp dIx (cVar 0) (cP (.int 1))) (cP (.tup [(.str "tone"), (.str "rest")])))))))
/-! ### Rhythm.__init__ -/
abbrev s_Rhythm___init__ : Stmt := (inClass (topS 19) 0)
theorem sc_Rhythm___init__ : FnScope ["self", "length", "notes", "before", "index", "note"] ["self", "length", "notes"] (defScope s_Rhythm___init__) := ⟨rfl, rfl, rfl, by decide +kernel, rfl, by decide +kernel, by decide +kernel⟩
def F_Rhythm___init__ : FD := cBody 3 6 (sSeq (sIf (cOr (cNot (cTr (cCall (pureF F_is_integer) [] (cCons (cVar 1) cNil)))) (cNot (cTB (cChain dLe dLe (cP (.int 1)) (cVar 1) (cP (.int 240)))))) (sRaise 12) sNx)
  (sSeq (sIf (cOr (cNot (cTr (cIsi t_isa_list_tuple (cVar 2)))) (cTB (cOp dEq (cApp (on1 dLen) (cCons (cVar 2) cNil)) (cP (.int 0))))) (sRaiseX 13 "index" (cCons (cP (.int 0)) cNil)) sNx)
  (sSeq (sSet 3 (cP .non))
  (sSeq (sFor (iEnumP (cCons (cVar 2) cNil)) (gT 2 (gCons' (gN 4) (gCons' (gN 5) gNil'))) (sSeq (sIf (cOr (cTB (cOp dEq (cVar 4) (cP (.int 200)))) (cNot (cTr (cCall (pureF F_is_note) [] (cCons (cVar 5) (cCons (cVar 1) cNil)))))) (sRaiseX 13 "index" (cCons (cVar 4) cNil)) sNx)
  (sSeq (sIf (cOr (cAnd (cTB (cOp dIs (cVar 3) (cP .non))) (cTB (cOp dNe (cOp dIx (cVar 5) (cP (.int 0))) (cTup (cCons (cP (.int 0)) (cCons (cP (.str "")) cNil)))))) (cAnd (cTB (cOp dIsNot (cVar 3) (cP .non))) (cTB (cOp dLeD (cOp dIx (cVar 5) (cP (.int 0))) (cVar 3))))) (sRaiseX 13 "index" (cCons (cVar 4) cNil)) sNx)
  (sSet 3 (cOp dIx (cVar 5) (cP (.int 0)))))))
  (sSeq (sFldP 43 "own_length" (cVar 0) (cVar 1))
  (sFldP 43 "own_notes" (cVar 0) (cApp (on1 dTuple) (cCons (cVar 2) cNil))))))))
/-! ### Rhythm.span -/
abbrev s_Rhythm_span : Stmt := (inClass (topS 19) 5)
theorem sc_Rhythm_span : FnScope ["self", "index", "begin"] ["self", "index"] (defScope s_Rhythm_span) := ⟨rfl, rfl, rfl, by decide +kernel, rfl, by decide +kernel, by decide +kernel⟩
def F_Rhythm_span : FD := cBody 2 3 (sSeq (sIf (cOr (cNot (cTr (cCall (pureF F_is_integer) [] (cCons (cVar 1) cNil)))) (cNot (cTB (cChain dLe dLt (cP (.int 0)) (cVar 1) (cApp (on1 dLen) (cCons (cFld 43 "own_notes" (cVar 0)) cNil)))))) (sRaise 12) sNx)
  (sSeq (sSet 2 (cOp dIx (cOp dIx (cFld 43 "own_notes" (cVar 0)) (cVar 1)) (cP (.int 0))))
  (sSeq (sIf (cTB (cOp dEq (cOp dAdd (cVar 1) (cP (.int 1))) (cApp (on1 dLen) (cCons (cFld 43 "own_notes" (cVar 0)) cNil)))) (sRet (cTup (cCons (cVar 2) (cCons (cTup (cCons (cFld 43 "own_length" (cVar 0)) (cCons (cP (.str "")) cNil))) cNil)))) sNx)
  (sRet (cTup (cCons (cVar 2) (cCons (cOp dIx (cOp dIx (cFld 43 "own_notes" (cVar 0)) (cOp dAdd (cVar 1) (cP (.int 1)))) (cP (.int 0))) cNil)))))))
/-! ### _law_near -/
abbrev s_law_near : Stmt := (topS 27)
theorem sc_law_near : FnScope ["_law_state", "_law_when", "_law_size", "_law_pulse", "_law_bits_here", "_law_way"] ["_law_state", "_law_when", "_law_size"] (defScope s_law_near) := ⟨rfl, rfl, rfl, by decide +kernel, rfl, by decide +kernel, by decide +kernel⟩
def F_law_near : FD := cBody 3 6 (sSeq (sAsg (gT 2 (gCons' (gN 3) (gCons' (gN 4) gNil'))) (cVar 1))
  (sSeq (sSet 5 (cCall (borrowF F_law_draw) [] (cCons (cVar 0) (cCons (cP (.int 4)) cNil))))
  (sSeq (sIf (cTB (cOp dEq (cVar 5) (cP (.int 0)))) (sRet (cVar 1)) sNx)
  (sSeq (sIf (cTB (cOp dEq (cVar 5) (cP (.int 1)))) (sRet (cTup (cCons (cVar 3) (cCons (cOp dAdd (cOp dAdd (cVar 4) (cOp dMulT (cP (.str "0")) (cCall (borrowF F_law_draw) [] (cCons (cVar 0) (cCons (cP (.int 5)) cNil))))) (cP (.str "1"))) cNil)))) sNx)
  (sSeq (sIf (cAnd (cTB (cOp dEq (cVar 5) (cP (.int 2)))) (cTB (cOp dNe (cVar 4) (cP (.str ""))))) (sRet (cTup (cCons (cVar 3) (cCons (cOp dAdd (cOp dAdd (cSl (cVar 4) oNone (oSome (cUn dNeg (cP (.int 1))))) (cP (.str "0"))) (cOp dMulT (cP (.str "1")) (cOp dAdd (cP (.int 1)) (cCall (borrowF F_law_draw) [] (cCons (cVar 0) (cCons (cP (.int 4)) cNil)))))) cNil)))) sNx)
  (sRet (cTup (cCons (cCall (borrowF F_law_draw) [] (cCons (cVar 0) (cCons (cVar 2) cNil))) (cCons (cCall (borrowF F_law_bits) [] (cCons (cVar 0) (cCons (cP (.int 6)) cNil))) cNil)))))))))
/-! ### _law_told -/
abbrev s_law_told : Stmt := (topS 26)
theorem sc_law_told : FnScope ["_law_work", "_law_caught", "e", "_law_marks", "_law_word", "_law_is_it"] ["_law_work"] (defScope s_law_told) := ⟨rfl, rfl, rfl, by decide +kernel, rfl, by decide +kernel, by decide +kernel⟩
def G_law_told (act : CE') : CS := (sSeq (sSet 1 (cP .non))
  (sSeq (sTry t_exm_RhythmError 2 (sExpr ((act))) (sSet 1 (cVar 2)))
  (sSeq (sIf (cTr (cIsi t_isa_BadRhythm_BadFigure (cVar 1))) (sRet (cLst (cCons (cIf (cTr (cIsi t_isa_BadRhythm (cVar 1))) (cP (.str "rhythm")) (cP (.str "figure"))) (cCons (cXf "index" t_xf_index (cVar 1)) cNil)))) sNx)
  (sSeq (sIf (cTr (cIsi t_isa_BadPoint (cVar 1))) (sRet (cLst (cCons (cP (.str "point")) (cCons (cXf "point" t_xf_point (cVar 1)) cNil)))) sNx)
  (sSeq (sIf (cTr (cIsi t_isa_NoGrouping (cVar 1))) (sRet (cLst (cCons (cP (.str "none")) (cCons (cXf "obstacle" t_xf_obstacle (cVar 1)) cNil)))) sNx)
  (sSeq (sSet 3 (cLst (cCons (cTup (cCons (cP (.str "number")) (cCons (cIsi t_isa_BadNumber (cVar 1)) cNil))) (cCons (cTup (cCons (cP (.str "row")) (cCons (cIsi t_isa_BadRow (cVar 1)) cNil))) cNil))))
  (sSeq (sSet 3 (cOp dAdd (cVar 3) (cLst (cCons (cTup (cCons (cP (.str "loop")) (cCons (cIsi t_isa_BadLoop (cVar 1)) cNil))) (cCons (cTup (cCons (cP (.str "groups")) (cCons (cIsi t_isa_BadGroups (cVar 1)) cNil))) cNil)))))
  (sSeq (sSet 3 (cOp dAdd (cVar 3) (cLst (cCons (cTup (cCons (cP (.str "metre")) (cCons (cIsi t_isa_BadMetre (cVar 1)) cNil))) (cCons (cTup (cCons (cP (.str "nothing")) (cCons (cOp dIs (cVar 1) (cP .non)) cNil))) (cCons (cTup (cCons (cP (.str "other")) (cCons (cP (.bl true)) cNil))) cNil))))))
  (sRet (cLst (cCons (cOp dIx (cLc (iSeq (cVar 3)) (gT 2 (gCons' (gN 4) (gCons' (gN 5) gNil'))) (cTr (cVar 5)) (cVar 4) [4, 5]) (cP (.int 0))) cNil)))))))))))
/-! ### BadPoint.__init__ -/
abbrev s_BadPoint___init__ : Stmt := (inClass (topS 4) 0)
theorem sc_BadPoint___init__ : FnScope ["self", "point"] ["self", "point"] (defScope s_BadPoint___init__) := ⟨rfl, rfl, rfl, by decide +kernel, rfl, by decide +kernel, by decide +kernel⟩
/-! ### Rhythm.at -/
abbrev s_Rhythm_at : Stmt := (inClass (topS 19) 6)
theorem sc_Rhythm_at : FnScope ["self", "moment", "note"] ["self", "moment"] (defScope s_Rhythm_at) := ⟨rfl, rfl, rfl, by decide +kernel, rfl, by decide +kernel, by decide +kernel⟩
def F_Rhythm_at : FD := cBody 2 3 (sSeq (sIf (cNot (cTr (cCall (pureF F_is_moment) [] (cCons (cVar 1) (cCons (cFld 43 "own_length" (cVar 0)) cNil))))) (sRaiseX 2 "point" (cCons (cVar 1) cNil)) sNx)
  (sRet (cOp dSub (cApp (on1 dLen) (cCons (cLc (iSeq (cFld 43 "own_notes" (cVar 0))) (gN 2) (cTB (cOp dLeD (cOp dIx (cVar 2) (cP (.int 0))) (cVar 1))) (cVar 2) [2]) cNil)) (cP (.int 1)))))
/-! ### _law_last -/
abbrev s_law_last : Stmt := (topS 28)
theorem sc_law_last : FnScope ["_law_begins", "_law_when", "_law_found", "_law_k", "_law_begin_here"] ["_law_begins", "_law_when"] (defScope s_law_last) := ⟨rfl, rfl, rfl, by decide +kernel, rfl, by decide +kernel, by decide +kernel⟩
def F_law_last : FD := cBody 2 5 (sSeq (sSet 2 (cP (.int 0)))
  (sSeq (sFor (iEnumP (cCons (cVar 0) cNil)) (gT 2 (gCons' (gN 3) (gCons' (gN 4) gNil'))) (sIf (cOr (cTB (cOp dLt (cOp dIx (cVar 4) (cP (.int 0))) (cOp dIx (cVar 1) (cP (.int 0))))) (cAnd (cTB (cOp dEq (cOp dIx (cVar 4) (cP (.int 0))) (cOp dIx (cVar 1) (cP (.int 0))))) (cTB (cOp dLeD (cOp dIx (cVar 4) (cP (.int 1))) (cOp dIx (cVar 1) (cP (.int 1))))))) (sSet 2 (cVar 3)) sNx))
  (sRet (cVar 2))))
/-! ### law -/
abbrev s_law : Stmt := (topS 29)
theorem sc_law : FnScope ["_law_script", "_law_turn", "_law_cell", "_law_state", "_law_size", "_law_given", "_law_made", "_law_begins", "_law_when", "_law_sound", "_law_ends", "_law_k", "_law_odds", "_law_odd"] ["_law_script"] (defScope s_law) := ⟨rfl, rfl, rfl, by decide +kernel, rfl, by decide +kernel, by decide +kernel⟩
def F_law : FD := cBody 1 14 (sSeq (sFor (iEnumP (cCons (cSl ((cOrT (cVar 0) (cLst (cCons (cP (.int 5)) cNil)))) oNone (oSome (cP (.int 10)))) cNil)) (gT 2 (gCons' (gN 1) (gCons' (gN 2) gNil'))) (sSeq (sSet 3 (cCall (freshF F_law_begin) [] (cCons (cVar 2) (cCons (cVar 1) cNil))))
  (sSeq (sSet 4 (cOp dAdd (cP (.int 1)) (cCall (borrowF F_law_draw) [] (cCons (cVar 3) (cCons (cP (.int 8)) cNil)))))
  (sSeq (sSet 5 (cCall (borrowF F_law_notes) [] (cCons (cVar 3) (cCons (cVar 4) (cCons (cP (.int 9)) (cCons (cP (.int 4)) cNil))))))
  (sSeq (sAsg (gT 2 (gCons' (gN 6) (gCons' (gN 7) gNil'))) (cTup (cCons (cCall (mkF 43 F_Rhythm___init__) [] (cCons (cVar 4) (cCons (cVar 5) cNil))) (cCons (cLc (iSeq (cVar 5)) (gT 2 (gCons' (gN 8) (gCons' (gN 9) gNil'))) cYes (cVar 8) [8, 9]) cNil))))
  (sSeq (sSet 10 (cOp dAdd (cSl (cVar 7) (oSome (cP (.int 1))) oNone) (cLst (cCons (cTup (cCons (cVar 4) (cCons (cP (.str "")) cNil))) cNil))))
  (sSeq (sIf (cTB (cOp dNe (cLc (iRange1 (cCons (cApp (on1 dLen) (cCons (cVar 5) cNil)) cNil)) (gN 11) cYes (cMeth 43 "span" (pureF F_Rhythm_span) [] (cVar 6) (cCons (cVar 11) cNil)) [11]) (cLz (cCons (cVar 7) (cCons (cVar 10) cNil))))) (sRet (cP (.bl false))) sNx)
  (sSeq (sIf (cTB (cOp dNe (cMethK 43 "span" 1 (pureF F_Rhythm_span) [] (cVar 6) (cCons (cP (.int 0)) cNil)) (cTup (cCons (cOp dIx (cVar 7) (cP (.int 0))) (cCons (cOp dIx (cVar 10) (cP (.int 0))) cNil))))) (sRet (cP (.bl false))) sNx)
  (sSeq (sFor (iRange1 (cCons (cP (.int 12)) cNil)) (gN 11) (sSeq (sSet 8 (cCall (borrowF F_law_near) [] (cCons (cVar 3) (cCons (cCall (borrowF F_law_pick) [] (cCons (cVar 3) (cCons (cVar 7) cNil))) (cCons (cVar 4) cNil)))))
  (sIf (cOr (cTB (cOp dNe (cMeth 43 "at" (pureF F_Rhythm_at) [] (cVar 6) (cCons (cVar 8) cNil)) (cCall (pureF F_law_last) [] (cCons (cVar 7) (cCons (cVar 8) cNil))))) (cTB (cOp dNe (cMethK 43 "at" 1 (pureF F_Rhythm_at) [] (cVar 6) (cCons (cVar 8) cNil)) (cCall (pureF F_law_last) [] (cCons (cVar 7) (cCons (cVar 8) cNil)))))) (sRet (cP (.bl false))) sNx)))
  (sSeq (sSet 12 (cLst (cCons (cP .non) (cCons (cTup (cCons (cVar 4) (cCons (cP (.str "")) cNil))) (cCons (cTup (cCons (cP (.int 0)) (cCons (cP (.str "0")) cNil))) (cCons (cTup (cCons (cUn dNeg (cP (.int 1))) (cCons (cP (.str "")) cNil))) (cCons (cP (.str "0")) (cCons (cTup (cCons (cP (.int 0)) cNil)) (cCons (cTup (cCons (cP (.bl false)) (cCons (cP (.str "")) cNil))) (cCons (cLst (cCons (cP (.int 0)) (cCons (cP (.str "")) cNil))) (cCons (cTup (cCons (cP (.int 0)) (cCons (cP (.str "12")) cNil))) (cCons (cTup (cCons (cOp dAdd (cVar 4) (cP (.int 3))) (cCons (cP (.str "1")) cNil))) (cCons (cP (.int 0)) cNil)))))))))))))
  (sSeq (sSet 13 (cCall (borrowF F_law_pick) [] (cCons (cVar 3) (cCons (cOp dAdd (cVar 12) (cLst (cCons (cTup (cCons (cP (.int 0)) (cCons (cP .non) cNil))) (cCons (cTup (cCons (cP (.int 0)) (cCons (cP (.str "")) (cCons (cP (.str "")) cNil)))) (cCons (cD0) (cCons (cTup (cCons (cP (.int 0)) (cCons (cP (.str "10")) cNil))) cNil)))))) cNil))))
  (sSeq (sIf (cTB (cOp dNeL (cLam 6 G_law_told (cMeth 43 "at" (pureF F_Rhythm_at) [] (cVar 6) (cCons (cVar 13) cNil))) (cLst (cCons (cP (.str "point")) (cCons (cVar 13) cNil))))) (sRet (cP (.bl false))) sNx)
  (sFor (iSeq (cLst (cCons (cP .non) (cCons (cP (.bl true)) (cCons (cUn dNeg (cP (.int 1))) (cCons (cApp (on1 dLen) (cCons (cVar 5) cNil)) (cCons (cP (.str "0")) (cCons (cLst (cCons (cP (.int 0)) cNil)) (cCons (cOp dPow (cP (.int 10)) (cP (.int 30))) cNil))))))))) (gN 13) (sIf (cTB (cOp dNe (cLam 6 G_law_told (cMeth 43 "span" (pureF F_Rhythm_span) [] (cVar 6) (cCons (cVar 13) cNil))) (cLst (cCons (cP (.str "number")) cNil)))) (sRet (cP (.bl false))) sNx))))))))))))))
  (sRet (cP (.bl true))))
/-! ### facts -/
structure Facts (G : Gc) (mg : Str → Option Value) where
  a_law_begin : Addr
  d_law_begin : FuncData
  F_law_begin : Fun G.K "_law_begin" "_law_begin" s_law_begin a_law_begin d_law_begin
  b_law_begin : Binds G.K d_law_begin ["_law_cell", "_law_turn"] []
  g_law_begin : mg "_law_begin" = some (.ref a_law_begin)
  k_law_begin : PySem.W.keepIn G.K (.ref a_law_begin) = true
  a_law_draw : Addr
  d_law_draw : FuncData
  F_law_draw : Fun G.K "_law_draw" "_law_draw" s_law_draw a_law_draw d_law_draw
  b_law_draw : Binds G.K d_law_draw ["_law_state", "_law_size"] []
  g_law_draw : mg "_law_draw" = some (.ref a_law_draw)
  k_law_draw : PySem.W.keepIn G.K (.ref a_law_draw) = true
  a_law_pick : Addr
  d_law_pick : FuncData
  F_law_pick : Fun G.K "_law_pick" "_law_pick" s_law_pick a_law_pick d_law_pick
  b_law_pick : Binds G.K d_law_pick ["_law_state", "_law_items"] []
  g_law_pick : mg "_law_pick" = some (.ref a_law_pick)
  k_law_pick : PySem.W.keepIn G.K (.ref a_law_pick) = true
  a_law_bits : Addr
  d_law_bits : FuncData
  F_law_bits : Fun G.K "_law_bits" "_law_bits" s_law_bits a_law_bits d_law_bits
  b_law_bits : Binds G.K d_law_bits ["_law_state", "_law_most"] []
  g_law_bits : mg "_law_bits" = some (.ref a_law_bits)
  k_law_bits : PySem.W.keepIn G.K (.ref a_law_bits) = true
  a_law_notes : Addr
  d_law_notes : FuncData
  F_law_notes : Fun G.K "_law_notes" "_law_notes" s_law_notes a_law_notes d_law_notes
  b_law_notes : Binds G.K d_law_notes ["_law_state", "_law_size", "_law_many", "_law_most"] []
  g_law_notes : mg "_law_notes" = some (.ref a_law_notes)
  k_law_notes : PySem.W.keepIn G.K (.ref a_law_notes) = true
  a_BadRhythm___init__ : Addr
  d_BadRhythm___init__ : FuncData
  F_BadRhythm___init__ : Fun G.K "__init__" "BadRhythm.__init__" s_BadRhythm___init__ a_BadRhythm___init__ d_BadRhythm___init__
  b_BadRhythm___init__ : Binds G.K d_BadRhythm___init__ ["self", "index"] []
  a_is_integer : Addr
  d_is_integer : FuncData
  F_is_integer : Fun G.K "is_integer" "is_integer" s_is_integer a_is_integer d_is_integer
  b_is_integer : Binds G.K d_is_integer ["value"] []
  g_is_integer : mg "is_integer" = some (.ref a_is_integer)
  k_is_integer : PySem.W.keepIn G.K (.ref a_is_integer) = true
  a_is_moment : Addr
  d_is_moment : FuncData
  F_is_moment : Fun G.K "is_moment" "is_moment" s_is_moment a_is_moment d_is_moment
  b_is_moment : Binds G.K d_is_moment ["value", "length"] []
  g_is_moment : mg "is_moment" = some (.ref a_is_moment)
  k_is_moment : PySem.W.keepIn G.K (.ref a_is_moment) = true
  a_is_note : Addr
  d_is_note : FuncData
  F_is_note : Fun G.K "is_note" "is_note" s_is_note a_is_note d_is_note
  b_is_note : Binds G.K d_is_note ["value", "length"] []
  g_is_note : mg "is_note" = some (.ref a_is_note)
  k_is_note : PySem.W.keepIn G.K (.ref a_is_note) = true
  a_Rhythm___init__ : Addr
  d_Rhythm___init__ : FuncData
  F_Rhythm___init__ : Fun G.K "__init__" "Rhythm.__init__" s_Rhythm___init__ a_Rhythm___init__ d_Rhythm___init__
  b_Rhythm___init__ : Binds G.K d_Rhythm___init__ ["self", "length", "notes"] []
  a_Rhythm_span : Addr
  d_Rhythm_span : FuncData
  F_Rhythm_span : Fun G.K "span" "Rhythm.span" s_Rhythm_span a_Rhythm_span d_Rhythm_span
  b_Rhythm_span : Binds G.K d_Rhythm_span ["self", "index"] []
  a_law_near : Addr
  d_law_near : FuncData
  F_law_near : Fun G.K "_law_near" "_law_near" s_law_near a_law_near d_law_near
  b_law_near : Binds G.K d_law_near ["_law_state", "_law_when", "_law_size"] []
  g_law_near : mg "_law_near" = some (.ref a_law_near)
  k_law_near : PySem.W.keepIn G.K (.ref a_law_near) = true
  a_law_told : Addr
  d_law_told : FuncData
  F_law_told : Fun G.K "_law_told" "_law_told" s_law_told a_law_told d_law_told
  b_law_told : Binds G.K d_law_told ["_law_work"] []
  g_law_told : mg "_law_told" = some (.ref a_law_told)
  k_law_told : PySem.W.keepIn G.K (.ref a_law_told) = true
  a_BadPoint___init__ : Addr
  d_BadPoint___init__ : FuncData
  F_BadPoint___init__ : Fun G.K "__init__" "BadPoint.__init__" s_BadPoint___init__ a_BadPoint___init__ d_BadPoint___init__
  b_BadPoint___init__ : Binds G.K d_BadPoint___init__ ["self", "point"] []
  a_Rhythm_at : Addr
  d_Rhythm_at : FuncData
  F_Rhythm_at : Fun G.K "at" "Rhythm.at" s_Rhythm_at a_Rhythm_at d_Rhythm_at
  b_Rhythm_at : Binds G.K d_Rhythm_at ["self", "moment"] []
  a_law_last : Addr
  d_law_last : FuncData
  F_law_last : Fun G.K "_law_last" "_law_last" s_law_last a_law_last d_law_last
  b_law_last : Binds G.K d_law_last ["_law_begins", "_law_when"] []
  g_law_last : mg "_law_last" = some (.ref a_law_last)
  k_law_last : PySem.W.keepIn G.K (.ref a_law_last) = true
  a_law : Addr
  d_law : FuncData
  F_law : Fun G.K "law" "law" s_law a_law d_law
  b_law : Binds G.K d_law ["_law_script"] []
  g_law : mg "law" = some (.ref a_law)
  k_law : PySem.W.keepIn G.K (.ref a_law) = true
  kb_Rhythm_at_moment : KB G.K d_Rhythm_at ["self", "moment"] ["moment"] []
  kb_Rhythm_span_index : KB G.K d_Rhythm_span ["self", "index"] ["index"] []
  z_all : mg "all" = none
  z_bool : mg "bool" = none
  z_enumerate : mg "enumerate" = none
  z_int : mg "int" = none
  z_isinstance : mg "isinstance" = none
  z_len : mg "len" = none
  z_list : mg "list" = none
  z_max : mg "max" = none
  z_range : mg "range" = none
  z_sorted : mg "sorted" = none
  z_str : mg "str" = none
  z_tuple : mg "tuple" = none
  z_zip : mg "zip" = none
  t_MOST_NOTES : Tok
  g_MOST_NOTES : mg "MOST_NOTES" = some (.int 200 t_MOST_NOTES)
  t_MOST_PULSES : Tok
  g_MOST_PULSES : mg "MOST_PULSES" = some (.int 240 t_MOST_PULSES)
  ad_SOUNDS : Addr
  g_SOUNDS : mg "SOUNDS" = some (.ref ad_SOUNDS)
  r_SOUNDS : ∀ W, Rep G W (.tup [(.str "tone"), (.str "rest")]) (.ref ad_SOUNDS)
  g_RhythmError : mg "RhythmError" = some (.ref (G.cl 0))
  g_BadMetre : mg "BadMetre" = some (.ref (G.cl 1))
  g_BadPoint : mg "BadPoint" = some (.ref (G.cl 2))
  g_BadNumber : mg "BadNumber" = some (.ref (G.cl 12))
  g_BadRhythm : mg "BadRhythm" = some (.ref (G.cl 13))
  g_BadRow : mg "BadRow" = some (.ref (G.cl 14))
  g_BadLoop : mg "BadLoop" = some (.ref (G.cl 15))
  g_BadFigure : mg "BadFigure" = some (.ref (G.cl 16))
  g_BadGroups : mg "BadGroups" = some (.ref (G.cl 17))
  g_NoGrouping : mg "NoGrouping" = some (.ref (G.cl 18))
  g_Rhythm : mg "Rhythm" = some (.ref (G.cl 43))
  c_Rhythm : Cls G.K (G.cl 43)
  n_Rhythm_own_length : NoAttr G.K (G.cl 43) "own_length"
  n_Rhythm_own_notes : NoAttr G.K (G.cl 43) "own_notes"
  mk_Rhythm : Mk G.K (G.cl 43) a_Rhythm___init__
  m_Rhythm_at : Meth G.K (G.cl 43) "at" a_Rhythm_at
  m_Rhythm_span : Meth G.K (G.cl 43) "span" a_Rhythm_span
  xf_index : ∀ c, t_xf_index c = true → XfC G.K (G.cl c) ∧ PySem.W.findIn G.K (.ref (G.cl c)) "index" = some none
  xf_obstacle : ∀ c, t_xf_obstacle c = true → XfC G.K (G.cl c) ∧ PySem.W.findIn G.K (.ref (G.cl c)) "obstacle" = some none
  xf_point : ∀ c, t_xf_point c = true → XfC G.K (G.cl c) ∧ PySem.W.findIn G.K (.ref (G.cl c)) "point" = some none
  bx : BaseX G.K (G.cl 0)
  ox_BadPoint : OexC G.K (G.cl 2)
  no_BadPoint : PySem.W.findIn G.K (.ref (G.cl 2)) "point" = some none
  iC_BadPoint : PySem.W.findIn G.K (.ref (G.cl 2)) "__init__" = some (some (.ref a_BadPoint___init__))
  tI_BadPoint : PySem.W.typeIn G.K (.ref a_BadPoint___init__) = some (.type "function")
  ox_BadRhythm : OexC G.K (G.cl 13)
  no_BadRhythm : PySem.W.findIn G.K (.ref (G.cl 13)) "index" = some none
  iC_BadRhythm : PySem.W.findIn G.K (.ref (G.cl 13)) "__init__" = some (some (.ref a_BadRhythm___init__))
  tI_BadRhythm : PySem.W.typeIn G.K (.ref a_BadRhythm___init__) = some (.type "function")
  x_BadNumber : PySem.W.excIn G.K (G.cl 12) [.type "ValueError", .type "Exception", .type "BaseException", .type "object"] "ValueError.__new__" = true
  kc_BadNumber : PySem.W.keepIn G.K (.ref (G.cl 12)) = true
  sb_BadNumber : PySem.W.subIn G.K (.ref (G.cl 12)) (.type "BaseException") = some true
  ty_BadNumber : PySem.W.typeIn G.K (.ref (G.cl 12)) = some (.type "type")
  isa_bool : IsaTab G (.type "bool") t_isa_bool
  isa_int : IsaTab G (.type "int") t_isa_int
  isa_str : IsaTab G (.type "str") t_isa_str
  isa_tuple : IsaTab G (.type "tuple") t_isa_tuple
  isa_list_tuple : IsaTabs G [(.type "list"), (.type "tuple")] t_isa_list_tuple
  isa_BadRhythm_BadFigure : IsaTabs G [(.ref (G.cl 13)), (.ref (G.cl 16))] t_isa_BadRhythm_BadFigure
  isa_BadRhythm : IsaTab G (.ref (G.cl 13)) t_isa_BadRhythm
  isa_BadPoint : IsaTab G (.ref (G.cl 2)) t_isa_BadPoint
  isa_NoGrouping : IsaTab G (.ref (G.cl 18)) t_isa_NoGrouping
  isa_BadNumber : IsaTab G (.ref (G.cl 12)) t_isa_BadNumber
  isa_BadRow : IsaTab G (.ref (G.cl 14)) t_isa_BadRow
  isa_BadLoop : IsaTab G (.ref (G.cl 15)) t_isa_BadLoop
  isa_BadGroups : IsaTab G (.ref (G.cl 17)) t_isa_BadGroups
  isa_BadMetre : IsaTab G (.ref (G.cl 1)) t_isa_BadMetre
  exm_RhythmError : ∀ e, t_exm_RhythmError e = true → PySem.W.exmOne G.K (.ref (G.cl e)) (.ref (G.cl 0)) = some true
  tc_law : Addr
  tp_law : Addr
  cc_law : d_law.code = .ref tc_law
  tm_law : (tp_law, ("law.<locals>.<lambda>" : Str)) ∈ G.T
  tu_law : ∀ p ∈ G.T, p.1 = tp_law → p.2 = "law.<locals>.<lambda>"
structure Tbs {G : Gc} {mg : Str → Option Value} (T : Facts G mg) (base : Heap) : Prop where
  tb_law : LamX.TabB base mg T.tc_law T.tp_law
section
variable {Pr : Program} {w : World} {G : Gc} {mg : Str → Option Value} {base : Heap}
theorem bad_fn {k : Nat} {f : Addr} {fd : FuncData} {ps : List Str} : FnG Pr w G mg base k f fd ps (fun _ _ => .bad) := ⟨fun _ _ _ => rfl, fun _ _ _ _ _ _ _ _ _ _ _ _ _ _ _ _ _ _ _ p => p.elim⟩
theorem ok_law_begin (T : Facts G mg) : FnG Pr w G mg base 1 T.a_law_begin T.d_law_begin ["_law_cell", "_law_turn"] F_law_begin := okG T.F_law_begin sc_law_begin _ fun cdv A outer s H E cg own => (pfss_one (pfs_ret (pf_lstR (pfa_cons (pf_callB (c_max2 cg) T.z_max (pfa_cons (pf_int) (pfa_cons (pf_op v_sub (pf_var 0) (pf_op v_pow (pf_int) (pf_int))) pfa_nil))) (pfa_cons (pf_op (v_addG cg) (pf_var 0) (pf_op (v_mulG cg) (pf_int) (pf_var 1))) (pfa_cons (pf_int) pfa_nil))))))
theorem ok_law_draw (T : Facts G mg) : FnG Pr w G mg base 1 T.a_law_draw T.d_law_draw ["_law_state", "_law_size"] F_law_draw := okG T.F_law_draw sc_law_draw _ fun cdv A outer s H E cg own => (pfss_cons (pfs_if (pft_cmp v_gt (pf_ix cg (pf_var 0) (pf_int)) (pf_int)) (pfss_cons (pfs_set 2 (pf_op v_mod (pf_callTy c_int T.z_int (pfa_cons (pf_ix cg (pf_var 0) (pf_int)) pfa_nil)) (pf_var 1)) cg.nd)
  (pfss_cons (pfs_asg (pf_op v_fdiv (pf_ix cg (pf_var 0) (pf_int)) (pf_var 1)) (pfg_set (pf_var 0) (pf_int)))
  (pfss_one (pfs_ret (pf_var 2))))) pfss_nil)
  (pfss_cons (pfs_asg (pf_op (v_addG cg) (pf_ix cg (pf_var 0) (pf_int)) (pf_int)) (pfg_set (pf_var 0) (pf_int)))
  (pfss_cons (pfs_set 2 (pf_op (v_addG cg) (pf_op v_mod (pf_callTy c_int T.z_int (pfa_cons (pf_ix cg (pf_var 0) (pf_int)) pfa_nil)) (pf_int)) (pf_op (v_mulG cg) (pf_int) (pf_ix cg (pf_var 0) (pf_int)))) cg.nd)
  (pfss_cons (pfs_set 2 (pf_op (v_mulG cg) (pf_var 2) (pf_op (v_addG cg) (pf_op (v_addG cg) (pf_op v_mod (pf_callTy c_int T.z_int (pfa_cons (pf_ix cg (pf_var 0) (pf_int)) pfa_nil)) (pf_int)) (pf_op (v_mulG cg) (pf_op (v_mulG cg) (pf_int) (pf_ix cg (pf_var 0) (pf_int))) (pf_ix cg (pf_var 0) (pf_int)))) (pf_int))) cg.nd)
  (pfss_one (pfs_ret (pf_op v_mod (pf_callTy c_int T.z_int (pfa_cons (pf_op v_fdiv (pf_op v_mod (pf_callTy c_int T.z_int (pfa_cons (pf_op v_pow (pf_var 2) (pf_int)) pfa_nil)) (pf_int)) (pf_int)) pfa_nil)) (pf_var 1))))))))
theorem ok_law_pick (T : Facts G mg) : FnG Pr w G mg base 2 T.a_law_pick T.d_law_pick ["_law_state", "_law_items"] F_law_pick := okG T.F_law_pick sc_law_pick _ fun cdv A outer s H E cg own => (pfss_one (pfs_ret (pf_ix cg (pf_var 1) (pf_call (FnG.borrow (ok_law_draw T)) cg (by omega) (by rfl) T.g_law_draw T.k_law_draw T.b_law_draw .nil (pfa_cons (pf_var 0) (pfa_cons (pf_callB (c_len cg) T.z_len (pfa_cons (pf_var 1) pfa_nil)) pfa_nil))))))
theorem ok_law_bits (T : Facts G mg) : FnG Pr w G mg base 3 T.a_law_bits T.d_law_bits ["_law_state", "_law_most"] F_law_bits := okG T.F_law_bits sc_law_bits _ fun cdv A outer s H E cg own => (pfss_cons (pfs_set 2 (pf_call (FnG.borrow (ok_law_draw T)) cg (by omega) (by rfl) T.g_law_draw T.k_law_draw T.b_law_draw .nil (pfa_cons (pf_var 0) (pfa_cons (pf_op (v_addG cg) (pf_var 1) (pf_int)) pfa_nil))) cg.nd)
  (pfss_one (pfs_ret (pf_ifExp (pft_cmp v_gt (pf_var 2) (pf_int)) (pf_bm PySem.F.plainAttrs_str (join_ok cg) PySem.F.slot_str_join (by rfl) mt_join (pf_str) (pfa_cons (pf_op (v_addG cg) (pf_lc cg (blkOk_by (N := ["_law_state", "_law_most", "_law_many", "_law_k"]) (sc := defScope s_law_bits) (own := [("_law_k", 3)]) (by decide +kernel)) (pfi_range1 T.z_range (pfa_cons (pf_op v_sub (pf_var 2) (pf_int)) pfa_nil)) (fun _ _ _ _ _ => (pfgw_name 3 (by decide) (cg.blk _ _ _ _ _).nd)) (fun _ _ _ _ _ => pfts_nil) (fun _ _ _ _ _ => (pf_call (FnG.borrow (ok_law_pick T)) (cg.blk _ _ _ _ _) (by omega) (by rfl) T.g_law_pick T.k_law_pick T.b_law_pick .nil (pfa_cons (pf_var 0) (pfa_cons (pf_str) pfa_nil))))) (pf_lst (pfa_cons (pf_str) pfa_nil))) pfa_nil)) (pf_str)))))
theorem ok_law_notes (T : Facts G mg) : FnG Pr w G mg base 4 T.a_law_notes T.d_law_notes ["_law_state", "_law_size", "_law_many", "_law_most"] F_law_notes := okG T.F_law_notes sc_law_notes _ fun cdv A outer s H E cg own => (pfss_cons (pfs_set 4 (pf_dispT cg (fun _ tk => (ppg_cons tk (pfa_cons (pf_int) (pfa_cons (pf_str) pfa_nil)) (pf_bl) ppg_nil)) (by decide)) cg.nd)
  (pfss_cons (pfs_for own cg (pfi_range1 T.z_range (pfa_cons (pf_call (FnG.borrow (ok_law_draw T)) cg (by omega) (by rfl) T.g_law_draw T.k_law_draw T.b_law_draw .nil (pfa_cons (pf_var 0) (pfa_cons (pf_op (v_addG cg) (pf_var 2) (pf_int)) pfa_nil))) pfa_nil)) (pfg_name 5 cg.nd) (pfss_one (pfs_asg (pf_bl) (pfg_setDt cg (pf_var 4) (pfa_cons (pf_call (FnG.borrow (ok_law_draw T)) cg (by omega) (by rfl) T.g_law_draw T.k_law_draw T.b_law_draw .nil (pfa_cons (pf_var 0) (pfa_cons (pf_var 1) pfa_nil))) (pfa_cons (pf_call (FnG.borrow (ok_law_bits T)) cg (by omega) (by rfl) T.g_law_bits T.k_law_bits T.b_law_bits .nil (pfa_cons (pf_var 0) (pfa_cons (pf_var 3) pfa_nil))) pfa_nil))))))
  (pfss_one (pfs_ret (pf_lc cg (blkOk_by (N := ["_law_state", "_law_size", "_law_many", "_law_most", "_law_found", "_law_k", "_law_when"]) (sc := defScope s_law_notes) (own := [("_law_when", 6)]) (by decide +kernel)) (pfi_seq cg (pf_callB (c_sorted cg) T.z_sorted (pfa_cons (pf_var 4) pfa_nil))) (fun _ _ _ _ _ => (pfgw_name 6 (by decide) (cg.blk _ _ _ _ _).nd)) (fun _ _ _ _ _ => pfts_nil) (fun _ _ _ _ _ => (pf_tup (pfa_cons (pf_var 6) (pfa_cons (pf_call (FnG.borrow (ok_law_pick T)) (cg.blk _ _ _ _ _) (by omega) (by rfl) T.g_law_pick T.k_law_pick T.b_law_pick .nil (pfa_cons (pf_var 0) (pfa_cons (pf_lst (pfa_cons (pf_str) (pfa_cons (pf_str) (pfa_cons (pf_str) pfa_nil)))) pfa_nil))) pfa_nil)))))))))
theorem okx_BadRhythm (T : Facts G mg) : FnOk Pr w G.K mg base CX0 1 T.a_BadRhythm___init__ T.d_BadRhythm___init__ ["self", "index"] (spX G.K (G.cl 13) "index") := T.F_BadRhythm___init__.ok sc_BadRhythm___init__ (fun _ _ _ _ => spX_len) fun cdv A outer s H vs Q E hr hsp => ⟨_, pss_cons (ps_expr (pe_baseinit (by rfl) T.g_RhythmError T.bx.sp T.bx.rd T.bx.fc (pa_cons (pv 0) (pa_cons pe_str pa_nil)))) (pss_one (ps_ost (pv 0) (pv 1))), spX_t hsp⟩
theorem ok_is_integer (T : Facts G mg) : FnG Pr w G mg base 1 T.a_is_integer T.d_is_integer ["value"] F_is_integer := okG T.F_is_integer sc_is_integer _ fun cdv A outer s H E cg own => (pfss_one (pfs_ret ((pf_and (pf_isi T.isa_int cg T.z_isinstance (pf_var 0) (pe_bltn (v := .ty "int") (u := .type "int") (by rfl) T.z_int (by decide +kernel) rfl) (.ty _)) (pf_one (pf_not (pf_isi T.isa_bool cg T.z_isinstance (pf_var 0) (pe_bltn (v := .ty "bool") (u := .type "bool") (by rfl) T.z_bool (by decide +kernel) rfl) (.ty _))))))))
theorem ok_is_moment (T : Facts G mg) : FnG Pr w G mg base 2 T.a_is_moment T.d_is_moment ["value", "length"] F_is_moment := okG T.F_is_moment sc_is_moment _ fun cdv A outer s H E cg own => (pfss_cons (pfs_if (pft_w (pfw_or (pft_not (pft_truth cg (pf_isi T.isa_tuple cg T.z_isinstance (pf_var 0) (pe_bltn (v := .ty "tuple") (u := .type "tuple") (by rfl) T.z_tuple (by decide +kernel) rfl) (.ty _)))) (pfw_or (pft_cmp (v_ne cg) (pf_callB (c_len cg) T.z_len (pfa_cons (pf_var 0) pfa_nil)) (pf_int)) (pfw_or (pft_not (pft_truth cg (pf_call (FnG.pure (ok_is_integer T)) cg (by omega) (by rfl) T.g_is_integer T.k_is_integer T.b_is_integer .nil (pfa_cons (pf_ix cg (pf_var 0) (pf_int)) pfa_nil)))) (pfw_one (pft_not (pft_truth cg (pf_isi T.isa_str cg T.z_isinstance (pf_ix cg (pf_var 0) (pf_int)) (pe_bltn (v := .ty "str") (u := .type "str") (by rfl) T.z_str (by decide +kernel) rfl) (.ty _))))))))) (pfss_one (pfs_ret (pf_bl))) pfss_nil)
  (pfss_cons (pfs_asg (pf_var 0) (pfg_tup cg (pfgs_cons (pfg_name 2 cg.nd) (pfgs_cons (pfg_name 3 cg.nd) pfgs_nil))))
  (pfss_one (pfs_ret ((pf_and (pf_chain v_le v_lt (pf_int) (pf_var 2) (pf_var 1)) (pf_and (pf_callB (c_all cg) T.z_all (pfa_cons (pf_lc cg (blkOk_by (N := ["value", "length", "pulse", "bits", "digit"]) (sc := defScope s_is_moment) (own := [("digit", 4)]) (by decide +kernel)) (pfi_txt (pf_var 3)) (fun _ _ _ _ _ => (pfgw_name 4 (by decide) (cg.blk _ _ _ _ _).nd)) (fun _ _ _ _ _ => pfts_nil) (fun _ _ _ _ _ => (pf_cmp (v_in (cg.blk _ _ _ _ _)) (pf_var 4) (pf_str)))) pfa_nil)) (pf_one (pf_cmp (v_ne cg) (pf_slice cg (pf_var 3) (pfo_some (pf_un v_neg (pf_int))) pfo_none) (pf_str))))))))))
theorem ok_is_note (T : Facts G mg) : FnG Pr w G mg base 3 T.a_is_note T.d_is_note ["value", "length"] F_is_note := okG T.F_is_note sc_is_note _ fun cdv A outer s H E cg own => (pfss_cons (pfs_if (pft_w (pfw_or (pft_not (pft_truth cg (pf_isi T.isa_tuple cg T.z_isinstance (pf_var 0) (pe_bltn (v := .ty "tuple") (u := .type "tuple") (by rfl) T.z_tuple (by decide +kernel) rfl) (.ty _)))) (pfw_or (pft_cmp (v_ne cg) (pf_callB (c_len cg) T.z_len (pfa_cons (pf_var 0) pfa_nil)) (pf_int)) (pfw_one (pft_not (pft_truth cg (pf_call (FnG.pure (ok_is_moment T)) cg (by omega) (by rfl) T.g_is_moment T.k_is_moment T.b_is_moment .nil (pfa_cons (pf_ix cg (pf_var 0) (pf_int)) (pfa_cons (pf_var 1) pfa_nil))))))))) (pfss_one (pfs_ret (pf_bl))) pfss_nil)
  (pfss_one (pfs_ret ((pf_and (pf_isi T.isa_str cg T.z_isinstance (pf_ix cg (pf_var 0) (pf_int)) (pe_bltn (v := .ty "str") (u := .type "str") (by rfl) T.z_str (by decide +kernel) rfl) (.ty _)) (pf_one (pf_cmp (v_in cg) (pf_ix cg (pf_var 0) (pf_int)) (pf_glob (v := .ref T.ad_SOUNDS) (by rfl) T.g_SOUNDS rfl T.r_SOUNDS))))))))
theorem ok_Rhythm___init__ (T : Facts G mg) : FnG Pr w G mg base 4 T.a_Rhythm___init__ T.d_Rhythm___init__ ["self", "length", "notes"] F_Rhythm___init__ := okG T.F_Rhythm___init__ sc_Rhythm___init__ _ fun cdv A outer s H E cg own => (pfss_cons (pfs_if (pft_w (pfw_or (pft_not (pft_truth cg (pf_call (FnG.pure (ok_is_integer T)) cg (by omega) (by rfl) T.g_is_integer T.k_is_integer T.b_is_integer .nil (pfa_cons (pf_var 1) pfa_nil)))) (pfw_one (pft_not (pft_chain v_le v_le (pf_int) (pf_var 1) (pf_glob (v := .int 240) (by rfl) T.g_MOST_PULSES ⟨_, rfl⟩ (fun _ => by simp only [Rep]))))))) (pfss_one (pfs_raise PySem.F.excBase_ValueError T.x_BadNumber T.kc_BadNumber T.sb_BadNumber T.ty_BadNumber cg T.g_BadNumber (by rfl))) pfss_nil)
  (pfss_cons (pfs_if (pft_w (pfw_or (pft_not (pft_truth cg (pf_isiT T.isa_list_tuple cg T.z_isinstance (pf_var 2) (.cons (pe_bltn (v := .ty "list") (u := .type "list") (by rfl) T.z_list (by decide +kernel) rfl) (.cons (pe_bltn (v := .ty "tuple") (u := .type "tuple") (by rfl) T.z_tuple (by decide +kernel) rfl) .nil (by rfl)) (by rfl)) (.cons (.ty _) (.cons (.ty _) .nil)) (by simp)))) (pfw_one (pft_cmp (v_eq cg) (pf_callB (c_len cg) T.z_len (pfa_cons (pf_var 2) pfa_nil)) (pf_int))))) (pfss_one (pfs_raiseX T.ox_BadRhythm T.no_BadRhythm T.iC_BadRhythm T.tI_BadRhythm (okx_BadRhythm T) cg (by omega) T.b_BadRhythm___init__ (by rfl) T.g_BadRhythm (pfa_cons (pf_int) pfa_nil))) pfss_nil)
  (pfss_cons (pfs_set 3 (pf_non) cg.nd)
  (pfss_cons (pfs_for own cg (pfi_enum cg T.z_enumerate (pfa_cons (pf_var 2) pfa_nil)) (pfg_tup cg (pfgs_cons (pfg_name 4 cg.nd) (pfgs_cons (pfg_name 5 cg.nd) pfgs_nil))) (pfss_cons (pfs_if (pft_w (pfw_or (pft_cmp (v_eq cg) (pf_var 4) (pf_glob (v := .int 200) (by rfl) T.g_MOST_NOTES ⟨_, rfl⟩ (fun _ => by simp only [Rep]))) (pfw_one (pft_not (pft_truth cg (pf_call (FnG.pure (ok_is_note T)) cg (by omega) (by rfl) T.g_is_note T.k_is_note T.b_is_note .nil (pfa_cons (pf_var 5) (pfa_cons (pf_var 1) pfa_nil)))))))) (pfss_one (pfs_raiseX T.ox_BadRhythm T.no_BadRhythm T.iC_BadRhythm T.tI_BadRhythm (okx_BadRhythm T) cg (by omega) T.b_BadRhythm___init__ (by rfl) T.g_BadRhythm (pfa_cons (pf_var 4) pfa_nil))) pfss_nil)
  (pfss_cons (pfs_if (pft_w (pfw_or (pft_w (pfw_and (pft_cmp v_is (pf_var 3) (pf_non)) (pfw_one (pft_cmp (v_ne cg) (pf_ix cg (pf_var 5) (pf_int)) (pf_tup (pfa_cons (pf_int) (pfa_cons (pf_str) pfa_nil))))))) (pfw_one (pft_w (pfw_and (pft_cmp v_isNot (pf_var 3) (pf_non)) (pfw_one (pft_cmp (v_leD cg) (pf_ix cg (pf_var 5) (pf_int)) (pf_var 3)))))))) (pfss_one (pfs_raiseX T.ox_BadRhythm T.no_BadRhythm T.iC_BadRhythm T.tI_BadRhythm (okx_BadRhythm T) cg (by omega) T.b_BadRhythm___init__ (by rfl) T.g_BadRhythm (pfa_cons (pf_var 4) pfa_nil))) pfss_nil)
  (pfss_one (pfs_set 3 (pf_ix cg (pf_var 5) (pf_int)) cg.nd)))))
  (pfss_cons (pfs_fld cg T.c_Rhythm T.n_Rhythm_own_length (pf_var 0) (pf_var 1))
  (pfss_one (pfs_fld cg T.c_Rhythm T.n_Rhythm_own_notes (pf_var 0) (pf_callTy (c_tuple cg) T.z_tuple (pfa_cons (pf_var 2) pfa_nil)))))))))
theorem ok_Rhythm_span (T : Facts G mg) : FnG Pr w G mg base 2 T.a_Rhythm_span T.d_Rhythm_span ["self", "index"] F_Rhythm_span := okG T.F_Rhythm_span sc_Rhythm_span _ fun cdv A outer s H E cg own => (pfss_cons (pfs_if (pft_w (pfw_or (pft_not (pft_truth cg (pf_call (FnG.pure (ok_is_integer T)) cg (by omega) (by rfl) T.g_is_integer T.k_is_integer T.b_is_integer .nil (pfa_cons (pf_var 1) pfa_nil)))) (pfw_one (pft_not (pft_chain v_le v_lt (pf_int) (pf_var 1) (pf_callB (c_len cg) T.z_len (pfa_cons (pf_fld cg T.c_Rhythm T.n_Rhythm_own_notes (pf_var 0)) pfa_nil))))))) (pfss_one (pfs_raise PySem.F.excBase_ValueError T.x_BadNumber T.kc_BadNumber T.sb_BadNumber T.ty_BadNumber cg T.g_BadNumber (by rfl))) pfss_nil)
  (pfss_cons (pfs_set 2 (pf_ix cg (pf_ix cg (pf_fld cg T.c_Rhythm T.n_Rhythm_own_notes (pf_var 0)) (pf_var 1)) (pf_int)) cg.nd)
  (pfss_cons (pfs_if (pft_cmp (v_eq cg) (pf_op (v_addG cg) (pf_var 1) (pf_int)) (pf_callB (c_len cg) T.z_len (pfa_cons (pf_fld cg T.c_Rhythm T.n_Rhythm_own_notes (pf_var 0)) pfa_nil))) (pfss_one (pfs_ret (pf_tup (pfa_cons (pf_var 2) (pfa_cons (pf_tup (pfa_cons (pf_fld cg T.c_Rhythm T.n_Rhythm_own_length (pf_var 0)) (pfa_cons (pf_str) pfa_nil))) pfa_nil))))) pfss_nil)
  (pfss_one (pfs_ret (pf_tup (pfa_cons (pf_var 2) (pfa_cons (pf_ix cg (pf_ix cg (pf_fld cg T.c_Rhythm T.n_Rhythm_own_notes (pf_var 0)) (pf_op (v_addG cg) (pf_var 1) (pf_int))) (pf_int)) pfa_nil))))))))
theorem ok_law_near (T : Facts G mg) : FnG Pr w G mg base 4 T.a_law_near T.d_law_near ["_law_state", "_law_when", "_law_size"] F_law_near := okG T.F_law_near sc_law_near _ fun cdv A outer s H E cg own => (pfss_cons (pfs_asg (pf_var 1) (pfg_tup cg (pfgs_cons (pfg_name 3 cg.nd) (pfgs_cons (pfg_name 4 cg.nd) pfgs_nil))))
  (pfss_cons (pfs_set 5 (pf_call (FnG.borrow (ok_law_draw T)) cg (by omega) (by rfl) T.g_law_draw T.k_law_draw T.b_law_draw .nil (pfa_cons (pf_var 0) (pfa_cons (pf_int) pfa_nil))) cg.nd)
  (pfss_cons (pfs_if (pft_cmp (v_eq cg) (pf_var 5) (pf_int)) (pfss_one (pfs_ret (pf_var 1))) pfss_nil)
  (pfss_cons (pfs_if (pft_cmp (v_eq cg) (pf_var 5) (pf_int)) (pfss_one (pfs_ret (pf_tup (pfa_cons (pf_var 3) (pfa_cons (pf_op (v_addG cg) (pf_op (v_addG cg) (pf_var 4) (pf_op v_mulT (pf_str) (pf_call (FnG.borrow (ok_law_draw T)) cg (by omega) (by rfl) T.g_law_draw T.k_law_draw T.b_law_draw .nil (pfa_cons (pf_var 0) (pfa_cons (pf_int) pfa_nil))))) (pf_str)) pfa_nil))))) pfss_nil)
  (pfss_cons (pfs_if (pft_w (pfw_and (pft_cmp (v_eq cg) (pf_var 5) (pf_int)) (pfw_one (pft_cmp (v_ne cg) (pf_var 4) (pf_str))))) (pfss_one (pfs_ret (pf_tup (pfa_cons (pf_var 3) (pfa_cons (pf_op (v_addG cg) (pf_op (v_addG cg) (pf_slice cg (pf_var 4) pfo_none (pfo_some (pf_un v_neg (pf_int)))) (pf_str)) (pf_op v_mulT (pf_str) (pf_op (v_addG cg) (pf_int) (pf_call (FnG.borrow (ok_law_draw T)) cg (by omega) (by rfl) T.g_law_draw T.k_law_draw T.b_law_draw .nil (pfa_cons (pf_var 0) (pfa_cons (pf_int) pfa_nil)))))) pfa_nil))))) pfss_nil)
  (pfss_one (pfs_ret (pf_tup (pfa_cons (pf_call (FnG.borrow (ok_law_draw T)) cg (by omega) (by rfl) T.g_law_draw T.k_law_draw T.b_law_draw .nil (pfa_cons (pf_var 0) (pfa_cons (pf_var 2) pfa_nil))) (pfa_cons (pf_call (FnG.borrow (ok_law_bits T)) cg (by omega) (by rfl) T.g_law_bits T.k_law_bits T.b_law_bits .nil (pfa_cons (pf_var 0) (pfa_cons (pf_int) pfa_nil))) pfa_nil))))))))))
theorem okl_law_told (T : Facts G mg) (n : Nat) : FnL Pr w G mg base (1 + n) "_law_told" "_law_told" s_law_told T.a_law_told ["_law_work", "_law_caught", "e", "_law_marks", "_law_word", "_law_is_it"] "_law_work" G_law_told := ⟨fun cdv A outer s H E act cg own hact => (pfss_cons (pfs_set 1 (pf_non) cg.nd)
  (pfss_cons (pfs_try 2 t_exm_RhythmError cg rfl rfl rfl ⟨by rfl, by decide, .inl T.g_RhythmError⟩ T.exm_RhythmError (fun _ _ cg1 own1 => (pfss_one (pfs_expr ((hact _ _ _ _))))) (fun _ _ => (pfss_one (pfs_set 1 (pf_var 2) cg.nd))))
  (pfss_cons (pfs_if (pft_truth cg (pf_isiT T.isa_BadRhythm_BadFigure cg T.z_isinstance (pf_var 1) (.cons (pe_glob (v := .ref (G.cl 13)) (by rfl) T.g_BadRhythm rfl) (.cons (pe_glob (v := .ref (G.cl 16)) (by rfl) T.g_BadFigure rfl) .nil (by rfl)) (by rfl)) (.cons (.own _) (.cons (.own _) .nil)) (by simp))) (pfss_one (pfs_ret (pf_lst (pfa_cons (pf_ifExp (pft_truth cg (pf_isi T.isa_BadRhythm cg T.z_isinstance (pf_var 1) (pe_glob (v := .ref (G.cl 13)) (by rfl) T.g_BadRhythm rfl) (.own _))) (pf_str) (pf_str)) (pfa_cons (pf_xf cg T.xf_index (pf_var 1)) pfa_nil))))) pfss_nil)
  (pfss_cons (pfs_if (pft_truth cg (pf_isi T.isa_BadPoint cg T.z_isinstance (pf_var 1) (pe_glob (v := .ref (G.cl 2)) (by rfl) T.g_BadPoint rfl) (.own _))) (pfss_one (pfs_ret (pf_lst (pfa_cons (pf_str) (pfa_cons (pf_xf cg T.xf_point (pf_var 1)) pfa_nil))))) pfss_nil)
  (pfss_cons (pfs_if (pft_truth cg (pf_isi T.isa_NoGrouping cg T.z_isinstance (pf_var 1) (pe_glob (v := .ref (G.cl 18)) (by rfl) T.g_NoGrouping rfl) (.own _))) (pfss_one (pfs_ret (pf_lst (pfa_cons (pf_str) (pfa_cons (pf_xf cg T.xf_obstacle (pf_var 1)) pfa_nil))))) pfss_nil)
  (pfss_cons (pfs_set 3 (pf_lst (pfa_cons (pf_tup (pfa_cons (pf_str) (pfa_cons (pf_isi T.isa_BadNumber cg T.z_isinstance (pf_var 1) (pe_glob (v := .ref (G.cl 12)) (by rfl) T.g_BadNumber rfl) (.own _)) pfa_nil))) (pfa_cons (pf_tup (pfa_cons (pf_str) (pfa_cons (pf_isi T.isa_BadRow cg T.z_isinstance (pf_var 1) (pe_glob (v := .ref (G.cl 14)) (by rfl) T.g_BadRow rfl) (.own _)) pfa_nil))) pfa_nil))) cg.nd)
  (pfss_cons (pfs_set 3 (pf_op (v_addG cg) (pf_var 3) (pf_lst (pfa_cons (pf_tup (pfa_cons (pf_str) (pfa_cons (pf_isi T.isa_BadLoop cg T.z_isinstance (pf_var 1) (pe_glob (v := .ref (G.cl 15)) (by rfl) T.g_BadLoop rfl) (.own _)) pfa_nil))) (pfa_cons (pf_tup (pfa_cons (pf_str) (pfa_cons (pf_isi T.isa_BadGroups cg T.z_isinstance (pf_var 1) (pe_glob (v := .ref (G.cl 17)) (by rfl) T.g_BadGroups rfl) (.own _)) pfa_nil))) pfa_nil)))) cg.nd)
  (pfss_cons (pfs_set 3 (pf_op (v_addG cg) (pf_var 3) (pf_lst (pfa_cons (pf_tup (pfa_cons (pf_str) (pfa_cons (pf_isi T.isa_BadMetre cg T.z_isinstance (pf_var 1) (pe_glob (v := .ref (G.cl 1)) (by rfl) T.g_BadMetre rfl) (.own _)) pfa_nil))) (pfa_cons (pf_tup (pfa_cons (pf_str) (pfa_cons (pf_cmp v_is (pf_var 1) (pf_non)) pfa_nil))) (pfa_cons (pf_tup (pfa_cons (pf_str) (pfa_cons (pf_bl) pfa_nil))) pfa_nil))))) cg.nd)
  (pfss_one (pfs_ret (pf_lst (pfa_cons (pf_ix cg (pf_lc cg (blkOk_by (N := ["_law_work", "_law_caught", "e", "_law_marks", "_law_word", "_law_is_it"]) (sc := defScope s_law_told) (own := [("_law_word", 4), ("_law_is_it", 5)]) (by decide +kernel)) (pfi_seq cg (pf_var 3)) (fun _ _ _ _ _ => (pfgw_tup (cg.blk _ _ _ _ _) (pfgsw_cons (pfgw_name 4 (by decide) (cg.blk _ _ _ _ _).nd) (pfgsw_cons (pfgw_name 5 (by decide) (cg.blk _ _ _ _ _).nd) pfgsw_nil)))) (fun _ _ _ _ _ => (pfts_one (pft_truth (cg.blk _ _ _ _ _) (pf_var 5)))) (fun _ _ _ _ _ => (pf_var 4))) (pf_int)) pfa_nil))))))))))))⟩
theorem okx_BadPoint (T : Facts G mg) : FnOk Pr w G.K mg base CX0 1 T.a_BadPoint___init__ T.d_BadPoint___init__ ["self", "point"] (spX G.K (G.cl 2) "point") := T.F_BadPoint___init__.ok sc_BadPoint___init__ (fun _ _ _ _ => spX_len) fun cdv A outer s H vs Q E hr hsp => ⟨_, pss_cons (ps_expr (pe_baseinit (by rfl) T.g_RhythmError T.bx.sp T.bx.rd T.bx.fc (pa_cons (pv 0) (pa_cons pe_str pa_nil)))) (pss_one (ps_ost (pv 0) (pv 1))), spX_t hsp⟩
theorem ok_Rhythm_at (T : Facts G mg) : FnG Pr w G mg base 3 T.a_Rhythm_at T.d_Rhythm_at ["self", "moment"] F_Rhythm_at := okG T.F_Rhythm_at sc_Rhythm_at _ fun cdv A outer s H E cg own => (pfss_cons (pfs_if (pft_not (pft_truth cg (pf_call (FnG.pure (ok_is_moment T)) cg (by omega) (by rfl) T.g_is_moment T.k_is_moment T.b_is_moment .nil (pfa_cons (pf_var 1) (pfa_cons (pf_fld cg T.c_Rhythm T.n_Rhythm_own_length (pf_var 0)) pfa_nil))))) (pfss_one (pfs_raiseX T.ox_BadPoint T.no_BadPoint T.iC_BadPoint T.tI_BadPoint (okx_BadPoint T) cg (by omega) T.b_BadPoint___init__ (by rfl) T.g_BadPoint (pfa_cons (pf_var 1) pfa_nil))) pfss_nil)
  (pfss_one (pfs_ret (pf_op v_sub (pf_callB (c_len cg) T.z_len (pfa_cons (pf_lc cg (blkOk_by (N := ["self", "moment", "note"]) (sc := defScope s_Rhythm_at) (own := [("note", 2)]) (by decide +kernel)) (pfi_seq cg (pf_fld cg T.c_Rhythm T.n_Rhythm_own_notes (pf_var 0))) (fun _ _ _ _ _ => (pfgw_name 2 (by decide) (cg.blk _ _ _ _ _).nd)) (fun _ _ _ _ _ => (pfts_one (pft_cmp (v_leD (cg.blk _ _ _ _ _)) (pf_ix (cg.blk _ _ _ _ _) (pf_var 2) (pf_int)) (pf_var 1)))) (fun _ _ _ _ _ => (pf_var 2))) pfa_nil)) (pf_int)))))
theorem ok_law_last (T : Facts G mg) : FnG Pr w G mg base 1 T.a_law_last T.d_law_last ["_law_begins", "_law_when"] F_law_last := okG T.F_law_last sc_law_last _ fun cdv A outer s H E cg own => (pfss_cons (pfs_set 2 (pf_int) cg.nd)
  (pfss_cons (pfs_for own cg (pfi_enum cg T.z_enumerate (pfa_cons (pf_var 0) pfa_nil)) (pfg_tup cg (pfgs_cons (pfg_name 3 cg.nd) (pfgs_cons (pfg_name 4 cg.nd) pfgs_nil))) (pfss_one (pfs_if (pft_w (pfw_or (pft_cmp v_lt (pf_ix cg (pf_var 4) (pf_int)) (pf_ix cg (pf_var 1) (pf_int))) (pfw_one (pft_w (pfw_and (pft_cmp (v_eq cg) (pf_ix cg (pf_var 4) (pf_int)) (pf_ix cg (pf_var 1) (pf_int))) (pfw_one (pft_cmp (v_leD cg) (pf_ix cg (pf_var 4) (pf_int)) (pf_ix cg (pf_var 1) (pf_int))))))))) (pfss_one (pfs_set 2 (pf_var 3) cg.nd)) pfss_nil)))
  (pfss_one (pfs_ret (pf_var 2)))))
theorem ok_law (T : Facts G mg) (B : Tbs T base) : FnG Pr w G mg base 7 T.a_law T.d_law ["_law_script"] F_law := okGc T.F_law sc_law _ fun cdv A outer s H E hcode cg own => (pfss_cons (pfs_for own cg (pfi_enum cg T.z_enumerate (pfa_cons (pf_slice cg ((pf_orT cg (pf_var 0) (pf_one (pf_lst (pfa_cons (pf_int) pfa_nil))))) pfo_none (pfo_some (pf_int))) pfa_nil)) (pfg_tup cg (pfgs_cons (pfg_name 1 cg.nd) (pfgs_cons (pfg_name 2 cg.nd) pfgs_nil))) (pfss_cons (pfs_set 3 (pf_call (FnG.fresh (ok_law_begin T)) cg (by omega) (by rfl) T.g_law_begin T.k_law_begin T.b_law_begin .nil (pfa_cons (pf_var 2) (pfa_cons (pf_var 1) pfa_nil))) cg.nd)
  (pfss_cons (pfs_set 4 (pf_op (v_addG cg) (pf_int) (pf_call (FnG.borrow (ok_law_draw T)) cg (by omega) (by rfl) T.g_law_draw T.k_law_draw T.b_law_draw .nil (pfa_cons (pf_var 3) (pfa_cons (pf_int) pfa_nil)))) cg.nd)
  (pfss_cons (pfs_set 5 (pf_call (FnG.borrow (ok_law_notes T)) cg (by omega) (by rfl) T.g_law_notes T.k_law_notes T.b_law_notes .nil (pfa_cons (pf_var 3) (pfa_cons (pf_var 4) (pfa_cons (pf_int) (pfa_cons (pf_int) pfa_nil))))) cg.nd)
  (pfss_cons (pfs_asg (pf_tup (pfa_cons (pf_make T.mk_Rhythm (ok_Rhythm___init__ T) cg (by omega) (by rfl) T.g_Rhythm T.b_Rhythm___init__ .nil (pfa_cons (pf_var 4) (pfa_cons (pf_var 5) pfa_nil))) (pfa_cons (pf_lc cg (blkOk_by (N := ["_law_script", "_law_turn", "_law_cell", "_law_state", "_law_size", "_law_given", "_law_made", "_law_begins", "_law_when", "_law_sound", "_law_ends", "_law_k", "_law_odds", "_law_odd"]) (sc := defScope s_law) (own := [("_law_when", 8), ("_law_sound", 9)]) (by decide +kernel)) (pfi_seq cg (pf_var 5)) (fun _ _ _ _ _ => (pfgw_tup (cg.blk _ _ _ _ _) (pfgsw_cons (pfgw_name 8 (by decide) (cg.blk _ _ _ _ _).nd) (pfgsw_cons (pfgw_name 9 (by decide) (cg.blk _ _ _ _ _).nd) pfgsw_nil)))) (fun _ _ _ _ _ => pfts_nil) (fun _ _ _ _ _ => (pf_var 8))) pfa_nil))) (pfg_tup cg (pfgs_cons (pfg_name 6 cg.nd) (pfgs_cons (pfg_name 7 cg.nd) pfgs_nil))))
  (pfss_cons (pfs_set 10 (pf_op (v_addG cg) (pf_slice cg (pf_var 7) (pfo_some (pf_int)) pfo_none) (pf_lst (pfa_cons (pf_tup (pfa_cons (pf_var 4) (pfa_cons (pf_str) pfa_nil))) pfa_nil))) cg.nd)
  (pfss_cons (pfs_if (pft_cmp (v_ne cg) (pf_lc cg (blkOk_by (N := ["_law_script", "_law_turn", "_law_cell", "_law_state", "_law_size", "_law_given", "_law_made", "_law_begins", "_law_when", "_law_sound", "_law_ends", "_law_k", "_law_odds", "_law_odd"]) (sc := defScope s_law) (own := [("_law_k", 11)]) (by decide +kernel)) (pfi_range1 T.z_range (pfa_cons (pf_callB (c_len cg) T.z_len (pfa_cons (pf_var 5) pfa_nil)) pfa_nil)) (fun _ _ _ _ _ => (pfgw_name 11 (by decide) (cg.blk _ _ _ _ _).nd)) (fun _ _ _ _ _ => pfts_nil) (fun _ _ _ _ _ => (pf_meth T.c_Rhythm T.m_Rhythm_span (FnG.pure (ok_Rhythm_span T)) (cg.blk _ _ _ _ _) (by omega) T.b_Rhythm_span .nil (pf_var 6) (pfa_cons (pf_var 11) pfa_nil)))) (pf_listZip cg T.z_list T.z_zip (pfa_cons (pf_var 7) (pfa_cons (pf_var 10) pfa_nil)) cg.calm)) (pfss_one (pfs_ret (pf_bl))) pfss_nil)
  (pfss_cons (pfs_if (pft_cmp (v_ne cg) (pf_methK0 T.c_Rhythm T.m_Rhythm_span (FnG.pure (ok_Rhythm_span T)) cg (by omega) T.kb_Rhythm_span_index .nil (pf_var 6) (pfk_cons (pf_int) pfk_nil)) (pf_tup (pfa_cons (pf_ix cg (pf_var 7) (pf_int)) (pfa_cons (pf_ix cg (pf_var 10) (pf_int)) pfa_nil)))) (pfss_one (pfs_ret (pf_bl))) pfss_nil)
  (pfss_cons (pfs_for own cg (pfi_range1 T.z_range (pfa_cons (pf_int) pfa_nil)) (pfg_name 11 cg.nd) (pfss_cons (pfs_set 8 (pf_call (FnG.borrow (ok_law_near T)) cg (by omega) (by rfl) T.g_law_near T.k_law_near T.b_law_near .nil (pfa_cons (pf_var 3) (pfa_cons (pf_call (FnG.borrow (ok_law_pick T)) cg (by omega) (by rfl) T.g_law_pick T.k_law_pick T.b_law_pick .nil (pfa_cons (pf_var 3) (pfa_cons (pf_var 7) pfa_nil))) (pfa_cons (pf_var 4) pfa_nil)))) cg.nd)
  (pfss_one (pfs_if (pft_w (pfw_or (pft_cmp (v_ne cg) (pf_meth T.c_Rhythm T.m_Rhythm_at (FnG.pure (ok_Rhythm_at T)) cg (by omega) T.b_Rhythm_at .nil (pf_var 6) (pfa_cons (pf_var 8) pfa_nil)) (pf_call (FnG.pure (ok_law_last T)) cg (by omega) (by rfl) T.g_law_last T.k_law_last T.b_law_last .nil (pfa_cons (pf_var 7) (pfa_cons (pf_var 8) pfa_nil)))) (pfw_one (pft_cmp (v_ne cg) (pf_methK0 T.c_Rhythm T.m_Rhythm_at (FnG.pure (ok_Rhythm_at T)) cg (by omega) T.kb_Rhythm_at_moment .nil (pf_var 6) (pfk_cons (pf_var 8) pfk_nil)) (pf_call (FnG.pure (ok_law_last T)) cg (by omega) (by rfl) T.g_law_last T.k_law_last T.b_law_last .nil (pfa_cons (pf_var 7) (pfa_cons (pf_var 8) pfa_nil))))))) (pfss_one (pfs_ret (pf_bl))) pfss_nil))))
  (pfss_cons (pfs_set 12 (pf_lst (pfa_cons (pf_non) (pfa_cons (pf_tup (pfa_cons (pf_var 4) (pfa_cons (pf_str) pfa_nil))) (pfa_cons (pf_tup (pfa_cons (pf_int) (pfa_cons (pf_str) pfa_nil))) (pfa_cons (pf_tup (pfa_cons (pf_un v_neg (pf_int)) (pfa_cons (pf_str) pfa_nil))) (pfa_cons (pf_str) (pfa_cons (pf_tup (pfa_cons (pf_int) pfa_nil)) (pfa_cons (pf_tup (pfa_cons (pf_bl) (pfa_cons (pf_str) pfa_nil))) (pfa_cons (pf_lst (pfa_cons (pf_int) (pfa_cons (pf_str) pfa_nil))) (pfa_cons (pf_tup (pfa_cons (pf_int) (pfa_cons (pf_str) pfa_nil))) (pfa_cons (pf_tup (pfa_cons (pf_op (v_addG cg) (pf_var 4) (pf_int)) (pfa_cons (pf_str) pfa_nil))) (pfa_cons (pf_int) pfa_nil)))))))))))) cg.nd)
  (pfss_cons (pfs_set 13 (pf_call (FnG.borrow (ok_law_pick T)) cg (by omega) (by rfl) T.g_law_pick T.k_law_pick T.b_law_pick .nil (pfa_cons (pf_var 3) (pfa_cons (pf_op (v_addG cg) (pf_var 12) (pf_lst (pfa_cons (pf_tup (pfa_cons (pf_int) (pfa_cons (pf_non) pfa_nil))) (pfa_cons (pf_tup (pfa_cons (pf_int) (pfa_cons (pf_str) (pfa_cons (pf_str) pfa_nil)))) (pfa_cons (pf_d0) (pfa_cons (pf_tup (pfa_cons (pf_int) (pfa_cons (pf_str) pfa_nil))) pfa_nil)))))) pfa_nil))) cg.nd)
  (pfss_cons (pfs_if (pft_cmp (v_neL cg) (pf_lam (kb := 3) (kg := 1 + 4) T.F_law_told sc_law_told (okl_law_told T 4) cg (by omega) (by omega) (by rfl) T.g_law_told T.k_law_told T.b_law_told B.tb_law (hcode.symm.trans T.cc_law) T.tm_law T.tu_law (LamX.lamS_by (sc := defScope s_law) (by decide +kernel)) (fun _ _ _ _ _ _ _ cgl => (pf_meth T.c_Rhythm T.m_Rhythm_at (FnG.pure (ok_Rhythm_at T)) cgl (by omega) T.b_Rhythm_at .nil (pf_var 6) (pfa_cons (pf_var 13) pfa_nil)))) (pf_lst (pfa_cons (pf_str) (pfa_cons (pf_var 13) pfa_nil)))) (pfss_one (pfs_ret (pf_bl))) pfss_nil)
  (pfss_one (pfs_for own cg (pfi_seq cg (pf_lst (pfa_cons (pf_non) (pfa_cons (pf_bl) (pfa_cons (pf_un v_neg (pf_int)) (pfa_cons (pf_callB (c_len cg) T.z_len (pfa_cons (pf_var 5) pfa_nil)) (pfa_cons (pf_str) (pfa_cons (pf_lst (pfa_cons (pf_int) pfa_nil)) (pfa_cons (pf_op v_pow (pf_int) (pf_int)) pfa_nil))))))))) (pfg_name 13 cg.nd) (pfss_one (pfs_if (pft_cmp (v_ne cg) (pf_lam (kb := 2) (kg := 1 + 3) T.F_law_told sc_law_told (okl_law_told T 3) cg (by omega) (by omega) (by rfl) T.g_law_told T.k_law_told T.b_law_told B.tb_law (hcode.symm.trans T.cc_law) T.tm_law T.tu_law (LamX.lamS_by (sc := defScope s_law) (by decide +kernel)) (fun _ _ _ _ _ _ _ cgl => (pf_meth T.c_Rhythm T.m_Rhythm_span (FnG.pure (ok_Rhythm_span T)) cgl (by omega) T.b_Rhythm_span .nil (pf_var 6) (pfa_cons (pf_var 13) pfa_nil)))) (pf_lst (pfa_cons (pf_str) pfa_nil))) (pfss_one (pfs_ret (pf_bl))) pfss_nil))))))))))))))))
  (pfss_one (pfs_ret (pf_bl))))
end
theorem kitOne_tyref {K : PySem.W.Frag} {t : Value} {n : String} {b : Bool} (h3 : PySem.W.subIn K t (.type n) = some b) (hne : t ≠ .type n := by exact fun z => nomatch z) (hm : PySem.W.kitMeta n = true := by decide +kernel) : PySem.W.kitOne K t (.type n) = some b := by
  unfold PySem.W.kitOne
  rw [if_neg (by simpa using hne)]
  unfold PySem.W.kitCls
  simp only [hm, if_true]
  exact h3
def facts {K : PySem.W.Frag} {h : Heap} {mg : Str → Option Value} {C0 : Addr} {C1 : Addr} {C2 : Addr} {C12 : Addr} {C13 : Addr} {C14 : Addr} {C15 : Addr} {C16 : Addr} {C17 : Addr} {C18 : Addr} {C43 : Addr} {f0 : Addr} {oc0 : Value} {kV0 : Value} {dc0 : Value} {pm0 : Value} {cd0 : Value} {ct0 : Value} {od0 : Option Addr} {an0 : Option Addr} {sl0 : Array (Option Value)} {f1 : Addr} {oc1 : Value} {kV1 : Value} {dc1 : Value} {pm1 : Value} {cd1 : Value} {ct1 : Value} {od1 : Option Addr} {an1 : Option Addr} {sl1 : Array (Option Value)} {f2 : Addr} {oc2 : Value} {kV2 : Value} {dc2 : Value} {pm2 : Value} {cd2 : Value} {ct2 : Value} {od2 : Option Addr} {an2 : Option Addr} {sl2 : Array (Option Value)} {f3 : Addr} {oc3 : Value} {kV3 : Value} {dc3 : Value} {pm3 : Value} {cd3 : Value} {ct3 : Value} {od3 : Option Addr} {an3 : Option Addr} {sl3 : Array (Option Value)} {f4 : Addr} {oc4 : Value} {kV4 : Value} {dc4 : Value} {pm4 : Value} {cd4 : Value} {ct4 : Value} {od4 : Option Addr} {an4 : Option Addr} {sl4 : Array (Option Value)} {f5 : Addr} {oc5 : Value} {kV5 : Value} {dc5 : Value} {pm5 : Value} {cd5 : Value} {ct5 : Value} {od5 : Option Addr} {an5 : Option Addr} {sl5 : Array (Option Value)} {f6 : Addr} {oc6 : Value} {kV6 : Value} {dc6 : Value} {pm6 : Value} {cd6 : Value} {ct6 : Value} {od6 : Option Addr} {an6 : Option Addr} {sl6 : Array (Option Value)} {f7 : Addr} {oc7 : Value} {kV7 : Value} {dc7 : Value} {pm7 : Value} {cd7 : Value} {ct7 : Value} {od7 : Option Addr} {an7 : Option Addr} {sl7 : Array (Option Value)} {f8 : Addr} {oc8 : Value} {kV8 : Value} {dc8 : Value} {pm8 : Value} {cd8 : Value} {ct8 : Value} {od8 : Option Addr} {an8 : Option Addr} {sl8 : Array (Option Value)} {f9 : Addr} {oc9 : Value} {kV9 : Value} {dc9 : Value} {pm9 : Value} {cd9 : Value} {ct9 : Value} {od9 : Option Addr} {an9 : Option Addr} {sl9 : Array (Option Value)} {f10 : Addr} {oc10 : Value} {kV10 : Value} {dc10 : Value} {pm10 : Value} {cd10 : Value} {ct10 : Value} {od10 : Option Addr} {an10 : Option Addr} {sl10 : Array (Option Value)} {f11 : Addr} {oc11 : Value} {kV11 : Value} {dc11 : Value} {pm11 : Value} {cd11 : Value} {ct11 : Value} {od11 : Option Addr} {an11 : Option Addr} {sl11 : Array (Option Value)} {f12 : Addr} {oc12 : Value} {kV12 : Value} {dc12 : Value} {pm12 : Value} {cd12 : Value} {ct12 : Value} {od12 : Option Addr} {an12 : Option Addr} {sl12 : Array (Option Value)} {f13 : Addr} {oc13 : Value} {kV13 : Value} {dc13 : Value} {pm13 : Value} {cd13 : Value} {ct13 : Value} {od13 : Option Addr} {an13 : Option Addr} {sl13 : Array (Option Value)} {f14 : Addr} {oc14 : Value} {kV14 : Value} {dc14 : Value} {pm14 : Value} {cd14 : Value} {ct14 : Value} {od14 : Option Addr} {an14 : Option Addr} {sl14 : Array (Option Value)} {f15 : Addr} {oc15 : Value} {kV15 : Value} {dc15 : Value} {pm15 : Value} {cd15 : Value} {ct15 : Value} {od15 : Option Addr} {an15 : Option Addr} {sl15 : Array (Option Value)} {f16 : Addr} {oc16 : Value} {kV16 : Value} {dc16 : Value} {pm16 : Value} {cd16 : Value} {ct16 : Value} {od16 : Option Addr} {an16 : Option Addr} {sl16 : Array (Option Value)} {tc16 : Addr} {ad_SOUNDS : Addr} {od_SOUNDS : Option Addr} {it_SOUNDS : Array Value} {nn_SOUNDS : Nat} {sl_SOUNDS : Array (Option Value)} {t_MOST_NOTES : Tok} {t_MOST_PULSES : Tok} {nm_BadPoint : Str} {qn_BadPoint : Str} {bs_BadPoint : List Value} {sn_BadPoint : List Str} {sub_BadPoint : List Value} {ab_BadPoint : Bool} {col_BadPoint : Option Bool} {dd_BadPoint : Option Addr} {k0_BadPoint : Option Value} {k1_BadPoint : Option Value} {k2_BadPoint : Option Value} {k3_BadPoint : Option Value} {k5_BadPoint : Option Value} {nn_BadPoint : Addr} {nm_BadRhythm : Str} {qn_BadRhythm : Str} {bs_BadRhythm : List Value} {sn_BadRhythm : List Str} {sub_BadRhythm : List Value} {ab_BadRhythm : Bool} {col_BadRhythm : Option Bool} {dd_BadRhythm : Option Addr} {k0_BadRhythm : Option Value} {k1_BadRhythm : Option Value} {k2_BadRhythm : Option Value} {k3_BadRhythm : Option Value} {k5_BadRhythm : Option Value} {nn_BadRhythm : Addr} (X : K.In h) (G : h.Ns mainGlobals mg)
  (hc0 : PySem.W.nsIn K mainGlobals "RhythmError" = some (some (.ref C0)))
  (hc1 : PySem.W.nsIn K mainGlobals "BadMetre" = some (some (.ref C1)))
  (hc2 : PySem.W.nsIn K mainGlobals "BadPoint" = some (some (.ref C2)))
  (hc12 : PySem.W.nsIn K mainGlobals "BadNumber" = some (some (.ref C12)))
  (hc13 : PySem.W.nsIn K mainGlobals "BadRhythm" = some (some (.ref C13)))
  (hc14 : PySem.W.nsIn K mainGlobals "BadRow" = some (some (.ref C14)))
  (hc15 : PySem.W.nsIn K mainGlobals "BadLoop" = some (some (.ref C15)))
  (hc16 : PySem.W.nsIn K mainGlobals "BadFigure" = some (some (.ref C16)))
  (hc17 : PySem.W.nsIn K mainGlobals "BadGroups" = some (some (.ref C17)))
  (hc18 : PySem.W.nsIn K mainGlobals "NoGrouping" = some (some (.ref C18)))
  (hc43 : PySem.W.nsIn K mainGlobals "Rhythm" = some (some (.ref C43)))
  (ha0 : PySem.W.nsIn K mainGlobals "_law_begin" = some (some (.ref f0)))
  (hl0 : K.lookup f0 = some ⟨oc0, od0, .func (PySem.W.fnOf "_law_begin" "_law_begin" (defArgs s_law_begin) (defBody s_law_begin) (defScope s_law_begin) .none kV0 dc0 pm0 an0 cd0 ct0), sl0⟩)
  (hd0 : PySem.W.codeIn K cd0 "_law_begin" = true)
  (hk0 : PySem.W.keepIn K (.ref f0) = true)
  (ha1 : PySem.W.nsIn K mainGlobals "_law_draw" = some (some (.ref f1)))
  (hl1 : K.lookup f1 = some ⟨oc1, od1, .func (PySem.W.fnOf "_law_draw" "_law_draw" (defArgs s_law_draw) (defBody s_law_draw) (defScope s_law_draw) .none kV1 dc1 pm1 an1 cd1 ct1), sl1⟩)
  (hd1 : PySem.W.codeIn K cd1 "_law_draw" = true)
  (hk1 : PySem.W.keepIn K (.ref f1) = true)
  (ha2 : PySem.W.nsIn K mainGlobals "_law_pick" = some (some (.ref f2)))
  (hl2 : K.lookup f2 = some ⟨oc2, od2, .func (PySem.W.fnOf "_law_pick" "_law_pick" (defArgs s_law_pick) (defBody s_law_pick) (defScope s_law_pick) .none kV2 dc2 pm2 an2 cd2 ct2), sl2⟩)
  (hd2 : PySem.W.codeIn K cd2 "_law_pick" = true)
  (hk2 : PySem.W.keepIn K (.ref f2) = true)
  (ha3 : PySem.W.nsIn K mainGlobals "_law_bits" = some (some (.ref f3)))
  (hl3 : K.lookup f3 = some ⟨oc3, od3, .func (PySem.W.fnOf "_law_bits" "_law_bits" (defArgs s_law_bits) (defBody s_law_bits) (defScope s_law_bits) .none kV3 dc3 pm3 an3 cd3 ct3), sl3⟩)
  (hd3 : PySem.W.codeIn K cd3 "_law_bits" = true)
  (hk3 : PySem.W.keepIn K (.ref f3) = true)
  (ha4 : PySem.W.nsIn K mainGlobals "_law_notes" = some (some (.ref f4)))
  (hl4 : K.lookup f4 = some ⟨oc4, od4, .func (PySem.W.fnOf "_law_notes" "_law_notes" (defArgs s_law_notes) (defBody s_law_notes) (defScope s_law_notes) .none kV4 dc4 pm4 an4 cd4 ct4), sl4⟩)
  (hd4 : PySem.W.codeIn K cd4 "_law_notes" = true)
  (hk4 : PySem.W.keepIn K (.ref f4) = true)
  (ha5 : PySem.W.findIn K (.ref C13) "__init__" = some (some (.ref f5)))
  (hl5 : K.lookup f5 = some ⟨oc5, od5, .func (PySem.W.fnOf "__init__" "BadRhythm.__init__" (defArgs s_BadRhythm___init__) (defBody s_BadRhythm___init__) (defScope s_BadRhythm___init__) .none kV5 dc5 pm5 an5 cd5 ct5), sl5⟩)
  (hd5 : PySem.W.codeIn K cd5 "BadRhythm.__init__" = true)
  (hk5 : PySem.W.keepIn K (.ref f5) = true)
  (ha6 : PySem.W.nsIn K mainGlobals "is_integer" = some (some (.ref f6)))
  (hl6 : K.lookup f6 = some ⟨oc6, od6, .func (PySem.W.fnOf "is_integer" "is_integer" (defArgs s_is_integer) (defBody s_is_integer) (defScope s_is_integer) .none kV6 dc6 pm6 an6 cd6 ct6), sl6⟩)
  (hd6 : PySem.W.codeIn K cd6 "is_integer" = true)
  (hk6 : PySem.W.keepIn K (.ref f6) = true)
  (ha7 : PySem.W.nsIn K mainGlobals "is_moment" = some (some (.ref f7)))
  (hl7 : K.lookup f7 = some ⟨oc7, od7, .func (PySem.W.fnOf "is_moment" "is_moment" (defArgs s_is_moment) (defBody s_is_moment) (defScope s_is_moment) .none kV7 dc7 pm7 an7 cd7 ct7), sl7⟩)
  (hd7 : PySem.W.codeIn K cd7 "is_moment" = true)
  (hk7 : PySem.W.keepIn K (.ref f7) = true)
  (ha8 : PySem.W.nsIn K mainGlobals "is_note" = some (some (.ref f8)))
  (hl8 : K.lookup f8 = some ⟨oc8, od8, .func (PySem.W.fnOf "is_note" "is_note" (defArgs s_is_note) (defBody s_is_note) (defScope s_is_note) .none kV8 dc8 pm8 an8 cd8 ct8), sl8⟩)
  (hd8 : PySem.W.codeIn K cd8 "is_note" = true)
  (hk8 : PySem.W.keepIn K (.ref f8) = true)
  (ha9 : PySem.W.findIn K (.ref C43) "__init__" = some (some (.ref f9)))
  (hl9 : K.lookup f9 = some ⟨oc9, od9, .func (PySem.W.fnOf "__init__" "Rhythm.__init__" (defArgs s_Rhythm___init__) (defBody s_Rhythm___init__) (defScope s_Rhythm___init__) .none kV9 dc9 pm9 an9 cd9 ct9), sl9⟩)
  (hd9 : PySem.W.codeIn K cd9 "Rhythm.__init__" = true)
  (hk9 : PySem.W.keepIn K (.ref f9) = true)
  (ha10 : PySem.W.findIn K (.ref C43) "span" = some (some (.ref f10)))
  (hl10 : K.lookup f10 = some ⟨oc10, od10, .func (PySem.W.fnOf "span" "Rhythm.span" (defArgs s_Rhythm_span) (defBody s_Rhythm_span) (defScope s_Rhythm_span) .none kV10 dc10 pm10 an10 cd10 ct10), sl10⟩)
  (hd10 : PySem.W.codeIn K cd10 "Rhythm.span" = true)
  (hk10 : PySem.W.keepIn K (.ref f10) = true)
  (ha11 : PySem.W.nsIn K mainGlobals "_law_near" = some (some (.ref f11)))
  (hl11 : K.lookup f11 = some ⟨oc11, od11, .func (PySem.W.fnOf "_law_near" "_law_near" (defArgs s_law_near) (defBody s_law_near) (defScope s_law_near) .none kV11 dc11 pm11 an11 cd11 ct11), sl11⟩)
  (hd11 : PySem.W.codeIn K cd11 "_law_near" = true)
  (hk11 : PySem.W.keepIn K (.ref f11) = true)
  (ha12 : PySem.W.nsIn K mainGlobals "_law_told" = some (some (.ref f12)))
  (hl12 : K.lookup f12 = some ⟨oc12, od12, .func (PySem.W.fnOf "_law_told" "_law_told" (defArgs s_law_told) (defBody s_law_told) (defScope s_law_told) .none kV12 dc12 pm12 an12 cd12 ct12), sl12⟩)
  (hd12 : PySem.W.codeIn K cd12 "_law_told" = true)
  (hk12 : PySem.W.keepIn K (.ref f12) = true)
  (ha13 : PySem.W.findIn K (.ref C2) "__init__" = some (some (.ref f13)))
  (hl13 : K.lookup f13 = some ⟨oc13, od13, .func (PySem.W.fnOf "__init__" "BadPoint.__init__" (defArgs s_BadPoint___init__) (defBody s_BadPoint___init__) (defScope s_BadPoint___init__) .none kV13 dc13 pm13 an13 cd13 ct13), sl13⟩)
  (hd13 : PySem.W.codeIn K cd13 "BadPoint.__init__" = true)
  (hk13 : PySem.W.keepIn K (.ref f13) = true)
  (ha14 : PySem.W.findIn K (.ref C43) "at" = some (some (.ref f14)))
  (hl14 : K.lookup f14 = some ⟨oc14, od14, .func (PySem.W.fnOf "at" "Rhythm.at" (defArgs s_Rhythm_at) (defBody s_Rhythm_at) (defScope s_Rhythm_at) .none kV14 dc14 pm14 an14 cd14 ct14), sl14⟩)
  (hd14 : PySem.W.codeIn K cd14 "Rhythm.at" = true)
  (hk14 : PySem.W.keepIn K (.ref f14) = true)
  (ha15 : PySem.W.nsIn K mainGlobals "_law_last" = some (some (.ref f15)))
  (hl15 : K.lookup f15 = some ⟨oc15, od15, .func (PySem.W.fnOf "_law_last" "_law_last" (defArgs s_law_last) (defBody s_law_last) (defScope s_law_last) .none kV15 dc15 pm15 an15 cd15 ct15), sl15⟩)
  (hd15 : PySem.W.codeIn K cd15 "_law_last" = true)
  (hk15 : PySem.W.keepIn K (.ref f15) = true)
  (ha16 : PySem.W.nsIn K mainGlobals "law" = some (some (.ref f16)))
  (hl16 : K.lookup f16 = some ⟨oc16, od16, .func (PySem.W.fnOf "law" "law" (defArgs s_law) (defBody s_law) (defScope s_law) .none kV16 dc16 pm16 an16 cd16 ct16), sl16⟩)
  (hcc16 : cd16 = .ref tc16)
  (hch16 : PySem.W.codeHdIn K tc16 (tabOfK K tc16) = true)
  (hco16 : K.lookup (tabOfK K tc16) = none)
  (hd16 : PySem.W.codeIn K cd16 "law" = true)
  (hk16 : PySem.W.keepIn K (.ref f16) = true)
  (hz_all : PySem.W.nsIn K mainGlobals "all" = some none)
  (hz_bool : PySem.W.nsIn K mainGlobals "bool" = some none)
  (hz_enumerate : PySem.W.nsIn K mainGlobals "enumerate" = some none)
  (hz_int : PySem.W.nsIn K mainGlobals "int" = some none)
  (hz_isinstance : PySem.W.nsIn K mainGlobals "isinstance" = some none)
  (hz_len : PySem.W.nsIn K mainGlobals "len" = some none)
  (hz_list : PySem.W.nsIn K mainGlobals "list" = some none)
  (hz_max : PySem.W.nsIn K mainGlobals "max" = some none)
  (hz_range : PySem.W.nsIn K mainGlobals "range" = some none)
  (hz_sorted : PySem.W.nsIn K mainGlobals "sorted" = some none)
  (hz_str : PySem.W.nsIn K mainGlobals "str" = some none)
  (hz_tuple : PySem.W.nsIn K mainGlobals "tuple" = some none)
  (hz_zip : PySem.W.nsIn K mainGlobals "zip" = some none)
  (hg_SOUNDS : PySem.W.nsIn K mainGlobals "SOUNDS" = some (some (.ref ad_SOUNDS)))
  (hl_SOUNDS : K.lookup ad_SOUNDS = some ⟨.type "tuple", od_SOUNDS, .seq it_SOUNDS nn_SOUNDS, sl_SOUNDS⟩)
  (hv_SOUNDS : Vals [.str "tone", .str "rest"] it_SOUNDS.toList)
  (hs_SOUNDS : it_SOUNDS.size ≤ sizeLine)
  (hg_MOST_NOTES : PySem.W.nsIn K mainGlobals "MOST_NOTES" = some (some (.int 200 t_MOST_NOTES)))
  (hg_MOST_PULSES : PySem.W.nsIn K mainGlobals "MOST_PULSES" = some (some (.int 240 t_MOST_PULSES)))
  (pg_Rhythm : PySem.W.plainGet K C43 Str.empty = true)
  (hd_Rhythm : PySem.W.hasDictIn K C43 = true)
  (po_Rhythm : PySem.W.plainOver K C43 = true)
  (sa_Rhythm : PySem.W.findIn K (.ref C43) "__setattr__" = some (some (.builtin "object.__setattr__")))
  (na_Rhythm_own_length : PySem.W.findIn K (.ref C43) "own_length" = some none)
  (na_Rhythm_own_notes : PySem.W.findIn K (.ref C43) "own_notes" = some none)
  (mk_Rhythm : PySem.W.makesIn K C43 = true)
  (fn9 : PySem.W.isFn K (.ref f9) = true)
  (kc2_Rhythm : PySem.W.keepIn K (.ref C43) = true)
  (fn14 : PySem.W.isFn K (.ref f14) = true)
  (fn10 : PySem.W.isFn K (.ref f10) = true)
  (x_BadNumber : PySem.W.excIn K C12 [.type "ValueError", .type "Exception", .type "BaseException", .type "object"] "ValueError.__new__" = true)
  (kc_BadNumber : PySem.W.keepIn K (.ref C12) = true)
  (sb_BadNumber : PySem.W.subIn K (.ref C12) (.type "BaseException") = some true)
  (ty_BadNumber : PySem.W.typeIn K (.ref C12) = some (.type "type"))
  (bx_sp : PySem.W.specialIn K (.ref C0) "__getattribute__" = some (some (.builtin "type.__getattribute__")))
  (bx_rd : PySem.W.readsIn K C0 (.type "type") = true)
  (bx_fc : PySem.W.findCls K (.ref C0) (.type "type") "__init__" = some (.val (.builtin "ValueError.__init__")))
  (xl_BadPoint : K.lookup C2 = some (excClassObj nm_BadPoint qn_BadPoint C2 nn_BadPoint bs_BadPoint [.ref C0, .type "ValueError", .type "Exception", .type "BaseException", .type "object"] true sn_BadPoint sub_BadPoint ab_BadPoint col_BadPoint dd_BadPoint k0_BadPoint k1_BadPoint k2_BadPoint k3_BadPoint k5_BadPoint "ValueError.__new__"))
  (xsa_BadPoint : PySem.W.findIn K (.ref C2) "__setattr__" = some (some (.builtin "object.__setattr__")))
  (kc_BadPoint : PySem.W.keepIn K (.ref C2) = true)
  (sb_BadPoint : PySem.W.subIn K (.ref C2) (.type "BaseException") = some true)
  (ty_BadPoint : PySem.W.typeIn K (.ref C2) = some (.type "type"))
  (xno_BadPoint : PySem.W.findIn K (.ref C2) "point" = some none)
  (xti_BadPoint : PySem.W.typeIn K (.ref f13) = some (.type "function"))
  (xl_BadRhythm : K.lookup C13 = some (excClassObj nm_BadRhythm qn_BadRhythm C13 nn_BadRhythm bs_BadRhythm [.ref C0, .type "ValueError", .type "Exception", .type "BaseException", .type "object"] true sn_BadRhythm sub_BadRhythm ab_BadRhythm col_BadRhythm dd_BadRhythm k0_BadRhythm k1_BadRhythm k2_BadRhythm k3_BadRhythm k5_BadRhythm "ValueError.__new__"))
  (xsa_BadRhythm : PySem.W.findIn K (.ref C13) "__setattr__" = some (some (.builtin "object.__setattr__")))
  (kc_BadRhythm : PySem.W.keepIn K (.ref C13) = true)
  (sb_BadRhythm : PySem.W.subIn K (.ref C13) (.type "BaseException") = some true)
  (ty_BadRhythm : PySem.W.typeIn K (.ref C13) = some (.type "type"))
  (xno_BadRhythm : PySem.W.findIn K (.ref C13) "index" = some none)
  (xti_BadRhythm : PySem.W.typeIn K (.ref f5) = some (.type "function"))
  (xga_BadRhythm : PySem.W.findIn K (.ref C13) "__getattribute__" = some (some (.builtin "BaseException.__getattribute__")))
  (xgg_BadRhythm : PySem.W.findIn K (.ref C13) "__getattr__" = some none)
  (xhd_BadRhythm : PySem.W.hasDictIn K C13 = true)
  (xga_BadPoint : PySem.W.findIn K (.ref C2) "__getattribute__" = some (some (.builtin "BaseException.__getattribute__")))
  (xgg_BadPoint : PySem.W.findIn K (.ref C2) "__getattr__" = some none)
  (xhd_BadPoint : PySem.W.hasDictIn K C2 = true)
  (hin : PySem.W.specialIn K (.builtin "object.__class__") "__get__" = some (some (.builtin "getset_descriptor.__get__")))
  (hit : PySem.W.takesIn K (.builtin "object.__class__") = some true)
  (ia_Rhythm : PySem.W.findIn K (.ref C43) "__class__" = some (some (.builtin "object.__class__")))
  (im_Rhythm : PySem.W.mroIn K C43 (.type "object") = some true)
  (ec_BadPoint : (PySem.W.clsIn K C2).isSome = true)
  (eg_BadPoint : PySem.W.findIn K (.ref C2) "__getattribute__" = some (some (.builtin "BaseException.__getattribute__")))
  (ek_BadPoint : PySem.W.findIn K (.ref C2) "__getattr__" = some none)
  (ia_BadPoint : PySem.W.findIn K (.ref C2) "__class__" = some (some (.builtin "object.__class__")))
  (im_BadPoint : PySem.W.mroIn K C2 (.type "object") = some true)
  (ec_BadNumber : (PySem.W.clsIn K C12).isSome = true)
  (eg_BadNumber : PySem.W.findIn K (.ref C12) "__getattribute__" = some (some (.builtin "BaseException.__getattribute__")))
  (ek_BadNumber : PySem.W.findIn K (.ref C12) "__getattr__" = some none)
  (ia_BadNumber : PySem.W.findIn K (.ref C12) "__class__" = some (some (.builtin "object.__class__")))
  (im_BadNumber : PySem.W.mroIn K C12 (.type "object") = some true)
  (ec_BadRhythm : (PySem.W.clsIn K C13).isSome = true)
  (eg_BadRhythm : PySem.W.findIn K (.ref C13) "__getattribute__" = some (some (.builtin "BaseException.__getattribute__")))
  (ek_BadRhythm : PySem.W.findIn K (.ref C13) "__getattr__" = some none)
  (ia_BadRhythm : PySem.W.findIn K (.ref C13) "__class__" = some (some (.builtin "object.__class__")))
  (im_BadRhythm : PySem.W.mroIn K C13 (.type "object") = some true)
  (kl_BadFigure : (PySem.W.clsIn K C16).isSome = true)
  (kt_BadFigure : PySem.W.typeIn K (.ref C16) = some (.type "type"))
  (kl_BadGroups : (PySem.W.clsIn K C17).isSome = true)
  (kt_BadGroups : PySem.W.typeIn K (.ref C17) = some (.type "type"))
  (kl_BadLoop : (PySem.W.clsIn K C15).isSome = true)
  (kt_BadLoop : PySem.W.typeIn K (.ref C15) = some (.type "type"))
  (kl_BadMetre : (PySem.W.clsIn K C1).isSome = true)
  (kt_BadMetre : PySem.W.typeIn K (.ref C1) = some (.type "type"))
  (kl_BadNumber : (PySem.W.clsIn K C12).isSome = true)
  (kt_BadNumber : PySem.W.typeIn K (.ref C12) = some (.type "type"))
  (kl_BadPoint : (PySem.W.clsIn K C2).isSome = true)
  (kt_BadPoint : PySem.W.typeIn K (.ref C2) = some (.type "type"))
  (kl_BadRhythm : (PySem.W.clsIn K C13).isSome = true)
  (kt_BadRhythm : PySem.W.typeIn K (.ref C13) = some (.type "type"))
  (kl_BadRow : (PySem.W.clsIn K C14).isSome = true)
  (kt_BadRow : PySem.W.typeIn K (.ref C14) = some (.type "type"))
  (kl_NoGrouping : (PySem.W.clsIn K C18).isSome = true)
  (kt_NoGrouping : PySem.W.typeIn K (.ref C18) = some (.type "type"))
  (sb_Rhythm_bool : PySem.W.subIn K (.ref C43) (.type "bool") = some false)
  (sb_BadPoint_bool : PySem.W.subIn K (.ref C2) (.type "bool") = some false)
  (sb_BadNumber_bool : PySem.W.subIn K (.ref C12) (.type "bool") = some false)
  (sb_BadRhythm_bool : PySem.W.subIn K (.ref C13) (.type "bool") = some false)
  (sb_Rhythm_int : PySem.W.subIn K (.ref C43) (.type "int") = some false)
  (sb_BadPoint_int : PySem.W.subIn K (.ref C2) (.type "int") = some false)
  (sb_BadNumber_int : PySem.W.subIn K (.ref C12) (.type "int") = some false)
  (sb_BadRhythm_int : PySem.W.subIn K (.ref C13) (.type "int") = some false)
  (sb_Rhythm_str : PySem.W.subIn K (.ref C43) (.type "str") = some false)
  (sb_BadPoint_str : PySem.W.subIn K (.ref C2) (.type "str") = some false)
  (sb_BadNumber_str : PySem.W.subIn K (.ref C12) (.type "str") = some false)
  (sb_BadRhythm_str : PySem.W.subIn K (.ref C13) (.type "str") = some false)
  (sb_Rhythm_tuple : PySem.W.subIn K (.ref C43) (.type "tuple") = some false)
  (sb_BadPoint_tuple : PySem.W.subIn K (.ref C2) (.type "tuple") = some false)
  (sb_BadNumber_tuple : PySem.W.subIn K (.ref C12) (.type "tuple") = some false)
  (sb_BadRhythm_tuple : PySem.W.subIn K (.ref C13) (.type "tuple") = some false)
  (sb_Rhythm_list : PySem.W.subIn K (.ref C43) (.type "list") = some false)
  (sb_BadPoint_list : PySem.W.subIn K (.ref C2) (.type "list") = some false)
  (sb_BadNumber_list : PySem.W.subIn K (.ref C12) (.type "list") = some false)
  (sb_BadRhythm_list : PySem.W.subIn K (.ref C13) (.type "list") = some false)
  (su_non_BadFigure : PySem.W.subIn K (.type "NoneType") (.ref C16) = some false)
  (su_non_BadRhythm : PySem.W.subIn K (.type "NoneType") (.ref C13) = some false)
  (su_bl_BadFigure : PySem.W.subIn K (.type "bool") (.ref C16) = some false)
  (su_bl_BadRhythm : PySem.W.subIn K (.type "bool") (.ref C13) = some false)
  (su_int_BadFigure : PySem.W.subIn K (.type "int") (.ref C16) = some false)
  (su_int_BadRhythm : PySem.W.subIn K (.type "int") (.ref C13) = some false)
  (su_str_BadFigure : PySem.W.subIn K (.type "str") (.ref C16) = some false)
  (su_str_BadRhythm : PySem.W.subIn K (.type "str") (.ref C13) = some false)
  (su_tup_BadFigure : PySem.W.subIn K (.type "tuple") (.ref C16) = some false)
  (su_tup_BadRhythm : PySem.W.subIn K (.type "tuple") (.ref C13) = some false)
  (su_lst_BadFigure : PySem.W.subIn K (.type "list") (.ref C16) = some false)
  (su_lst_BadRhythm : PySem.W.subIn K (.type "list") (.ref C13) = some false)
  (su_dct_BadFigure : PySem.W.subIn K (.type "dict") (.ref C16) = some false)
  (su_dct_BadRhythm : PySem.W.subIn K (.type "dict") (.ref C13) = some false)
  (su_Rhythm_BadFigure : PySem.W.subIn K (.ref C43) (.ref C16) = some false)
  (ne_Rhythm_BadFigure : (Value.ref C43) ≠ .ref C16)
  (su_Rhythm_BadRhythm : PySem.W.subIn K (.ref C43) (.ref C13) = some false)
  (ne_Rhythm_BadRhythm : (Value.ref C43) ≠ .ref C13)
  (su_BadPoint_BadFigure : PySem.W.subIn K (.ref C2) (.ref C16) = some false)
  (ne_BadPoint_BadFigure : (Value.ref C2) ≠ .ref C16)
  (su_BadPoint_BadRhythm : PySem.W.subIn K (.ref C2) (.ref C13) = some false)
  (ne_BadPoint_BadRhythm : (Value.ref C2) ≠ .ref C13)
  (su_BadNumber_BadFigure : PySem.W.subIn K (.ref C12) (.ref C16) = some false)
  (ne_BadNumber_BadFigure : (Value.ref C12) ≠ .ref C16)
  (su_BadNumber_BadRhythm : PySem.W.subIn K (.ref C12) (.ref C13) = some false)
  (ne_BadNumber_BadRhythm : (Value.ref C12) ≠ .ref C13)
  (su_BadRhythm_BadFigure : PySem.W.subIn K (.ref C13) (.ref C16) = some false)
  (ne_BadRhythm_BadFigure : (Value.ref C13) ≠ .ref C16)
  (su_non_BadPoint : PySem.W.subIn K (.type "NoneType") (.ref C2) = some false)
  (su_bl_BadPoint : PySem.W.subIn K (.type "bool") (.ref C2) = some false)
  (su_int_BadPoint : PySem.W.subIn K (.type "int") (.ref C2) = some false)
  (su_str_BadPoint : PySem.W.subIn K (.type "str") (.ref C2) = some false)
  (su_tup_BadPoint : PySem.W.subIn K (.type "tuple") (.ref C2) = some false)
  (su_lst_BadPoint : PySem.W.subIn K (.type "list") (.ref C2) = some false)
  (su_dct_BadPoint : PySem.W.subIn K (.type "dict") (.ref C2) = some false)
  (su_Rhythm_BadPoint : PySem.W.subIn K (.ref C43) (.ref C2) = some false)
  (ne_Rhythm_BadPoint : (Value.ref C43) ≠ .ref C2)
  (su_BadNumber_BadPoint : PySem.W.subIn K (.ref C12) (.ref C2) = some false)
  (ne_BadNumber_BadPoint : (Value.ref C12) ≠ .ref C2)
  (su_BadRhythm_BadPoint : PySem.W.subIn K (.ref C13) (.ref C2) = some false)
  (ne_BadRhythm_BadPoint : (Value.ref C13) ≠ .ref C2)
  (su_non_NoGrouping : PySem.W.subIn K (.type "NoneType") (.ref C18) = some false)
  (su_bl_NoGrouping : PySem.W.subIn K (.type "bool") (.ref C18) = some false)
  (su_int_NoGrouping : PySem.W.subIn K (.type "int") (.ref C18) = some false)
  (su_str_NoGrouping : PySem.W.subIn K (.type "str") (.ref C18) = some false)
  (su_tup_NoGrouping : PySem.W.subIn K (.type "tuple") (.ref C18) = some false)
  (su_lst_NoGrouping : PySem.W.subIn K (.type "list") (.ref C18) = some false)
  (su_dct_NoGrouping : PySem.W.subIn K (.type "dict") (.ref C18) = some false)
  (su_Rhythm_NoGrouping : PySem.W.subIn K (.ref C43) (.ref C18) = some false)
  (ne_Rhythm_NoGrouping : (Value.ref C43) ≠ .ref C18)
  (su_BadPoint_NoGrouping : PySem.W.subIn K (.ref C2) (.ref C18) = some false)
  (ne_BadPoint_NoGrouping : (Value.ref C2) ≠ .ref C18)
  (su_BadNumber_NoGrouping : PySem.W.subIn K (.ref C12) (.ref C18) = some false)
  (ne_BadNumber_NoGrouping : (Value.ref C12) ≠ .ref C18)
  (su_BadRhythm_NoGrouping : PySem.W.subIn K (.ref C13) (.ref C18) = some false)
  (ne_BadRhythm_NoGrouping : (Value.ref C13) ≠ .ref C18)
  (su_non_BadNumber : PySem.W.subIn K (.type "NoneType") (.ref C12) = some false)
  (su_bl_BadNumber : PySem.W.subIn K (.type "bool") (.ref C12) = some false)
  (su_int_BadNumber : PySem.W.subIn K (.type "int") (.ref C12) = some false)
  (su_str_BadNumber : PySem.W.subIn K (.type "str") (.ref C12) = some false)
  (su_tup_BadNumber : PySem.W.subIn K (.type "tuple") (.ref C12) = some false)
  (su_lst_BadNumber : PySem.W.subIn K (.type "list") (.ref C12) = some false)
  (su_dct_BadNumber : PySem.W.subIn K (.type "dict") (.ref C12) = some false)
  (su_Rhythm_BadNumber : PySem.W.subIn K (.ref C43) (.ref C12) = some false)
  (ne_Rhythm_BadNumber : (Value.ref C43) ≠ .ref C12)
  (su_BadPoint_BadNumber : PySem.W.subIn K (.ref C2) (.ref C12) = some false)
  (ne_BadPoint_BadNumber : (Value.ref C2) ≠ .ref C12)
  (su_BadRhythm_BadNumber : PySem.W.subIn K (.ref C13) (.ref C12) = some false)
  (ne_BadRhythm_BadNumber : (Value.ref C13) ≠ .ref C12)
  (su_non_BadRow : PySem.W.subIn K (.type "NoneType") (.ref C14) = some false)
  (su_bl_BadRow : PySem.W.subIn K (.type "bool") (.ref C14) = some false)
  (su_int_BadRow : PySem.W.subIn K (.type "int") (.ref C14) = some false)
  (su_str_BadRow : PySem.W.subIn K (.type "str") (.ref C14) = some false)
  (su_tup_BadRow : PySem.W.subIn K (.type "tuple") (.ref C14) = some false)
  (su_lst_BadRow : PySem.W.subIn K (.type "list") (.ref C14) = some false)
  (su_dct_BadRow : PySem.W.subIn K (.type "dict") (.ref C14) = some false)
  (su_Rhythm_BadRow : PySem.W.subIn K (.ref C43) (.ref C14) = some false)
  (ne_Rhythm_BadRow : (Value.ref C43) ≠ .ref C14)
  (su_BadPoint_BadRow : PySem.W.subIn K (.ref C2) (.ref C14) = some false)
  (ne_BadPoint_BadRow : (Value.ref C2) ≠ .ref C14)
  (su_BadNumber_BadRow : PySem.W.subIn K (.ref C12) (.ref C14) = some false)
  (ne_BadNumber_BadRow : (Value.ref C12) ≠ .ref C14)
  (su_BadRhythm_BadRow : PySem.W.subIn K (.ref C13) (.ref C14) = some false)
  (ne_BadRhythm_BadRow : (Value.ref C13) ≠ .ref C14)
  (su_non_BadLoop : PySem.W.subIn K (.type "NoneType") (.ref C15) = some false)
  (su_bl_BadLoop : PySem.W.subIn K (.type "bool") (.ref C15) = some false)
  (su_int_BadLoop : PySem.W.subIn K (.type "int") (.ref C15) = some false)
  (su_str_BadLoop : PySem.W.subIn K (.type "str") (.ref C15) = some false)
  (su_tup_BadLoop : PySem.W.subIn K (.type "tuple") (.ref C15) = some false)
  (su_lst_BadLoop : PySem.W.subIn K (.type "list") (.ref C15) = some false)
  (su_dct_BadLoop : PySem.W.subIn K (.type "dict") (.ref C15) = some false)
  (su_Rhythm_BadLoop : PySem.W.subIn K (.ref C43) (.ref C15) = some false)
  (ne_Rhythm_BadLoop : (Value.ref C43) ≠ .ref C15)
  (su_BadPoint_BadLoop : PySem.W.subIn K (.ref C2) (.ref C15) = some false)
  (ne_BadPoint_BadLoop : (Value.ref C2) ≠ .ref C15)
  (su_BadNumber_BadLoop : PySem.W.subIn K (.ref C12) (.ref C15) = some false)
  (ne_BadNumber_BadLoop : (Value.ref C12) ≠ .ref C15)
  (su_BadRhythm_BadLoop : PySem.W.subIn K (.ref C13) (.ref C15) = some false)
  (ne_BadRhythm_BadLoop : (Value.ref C13) ≠ .ref C15)
  (su_non_BadGroups : PySem.W.subIn K (.type "NoneType") (.ref C17) = some false)
  (su_bl_BadGroups : PySem.W.subIn K (.type "bool") (.ref C17) = some false)
  (su_int_BadGroups : PySem.W.subIn K (.type "int") (.ref C17) = some false)
  (su_str_BadGroups : PySem.W.subIn K (.type "str") (.ref C17) = some false)
  (su_tup_BadGroups : PySem.W.subIn K (.type "tuple") (.ref C17) = some false)
  (su_lst_BadGroups : PySem.W.subIn K (.type "list") (.ref C17) = some false)
  (su_dct_BadGroups : PySem.W.subIn K (.type "dict") (.ref C17) = some false)
  (su_Rhythm_BadGroups : PySem.W.subIn K (.ref C43) (.ref C17) = some false)
  (ne_Rhythm_BadGroups : (Value.ref C43) ≠ .ref C17)
  (su_BadPoint_BadGroups : PySem.W.subIn K (.ref C2) (.ref C17) = some false)
  (ne_BadPoint_BadGroups : (Value.ref C2) ≠ .ref C17)
  (su_BadNumber_BadGroups : PySem.W.subIn K (.ref C12) (.ref C17) = some false)
  (ne_BadNumber_BadGroups : (Value.ref C12) ≠ .ref C17)
  (su_BadRhythm_BadGroups : PySem.W.subIn K (.ref C13) (.ref C17) = some false)
  (ne_BadRhythm_BadGroups : (Value.ref C13) ≠ .ref C17)
  (su_non_BadMetre : PySem.W.subIn K (.type "NoneType") (.ref C1) = some false)
  (su_bl_BadMetre : PySem.W.subIn K (.type "bool") (.ref C1) = some false)
  (su_int_BadMetre : PySem.W.subIn K (.type "int") (.ref C1) = some false)
  (su_str_BadMetre : PySem.W.subIn K (.type "str") (.ref C1) = some false)
  (su_tup_BadMetre : PySem.W.subIn K (.type "tuple") (.ref C1) = some false)
  (su_lst_BadMetre : PySem.W.subIn K (.type "list") (.ref C1) = some false)
  (su_dct_BadMetre : PySem.W.subIn K (.type "dict") (.ref C1) = some false)
  (su_Rhythm_BadMetre : PySem.W.subIn K (.ref C43) (.ref C1) = some false)
  (ne_Rhythm_BadMetre : (Value.ref C43) ≠ .ref C1)
  (su_BadPoint_BadMetre : PySem.W.subIn K (.ref C2) (.ref C1) = some false)
  (ne_BadPoint_BadMetre : (Value.ref C2) ≠ .ref C1)
  (su_BadNumber_BadMetre : PySem.W.subIn K (.ref C12) (.ref C1) = some false)
  (ne_BadNumber_BadMetre : (Value.ref C12) ≠ .ref C1)
  (su_BadRhythm_BadMetre : PySem.W.subIn K (.ref C13) (.ref C1) = some false)
  (ne_BadRhythm_BadMetre : (Value.ref C13) ≠ .ref C1)
  (xb_RhythmError : PySem.W.subIn K (.ref C0) (.type "BaseException") = some true)
  (xc_RhythmError : (PySem.W.clsIn K C0).isSome = true)
  (xt_RhythmError : PySem.W.typeIn K (.ref C0) = some (.type "type"))
  (xs_BadPoint_RhythmError : PySem.W.subIn K (.ref C2) (.ref C0) = some true)
  (xs_BadNumber_RhythmError : PySem.W.subIn K (.ref C12) (.ref C0) = some true)
  (xs_BadRhythm_RhythmError : PySem.W.subIn K (.ref C13) (.ref C0) = some true) : Facts ⟨K, fun c => ([C0, C1, C2, 0, 0, 0, 0, 0, 0, 0, 0, 0, C12, C13, C14, C15, C16, C17, C18, 0, 0, 0, 0, 0, 0, 0, 0, 0, 0, 0, 0, 0, 0, 0, 0, 0, 0, 0, 0, 0, 0, 0, 0, C43] : List Addr).getD c 0, [(tabOfK K tc16, ("law.<locals>.<lambda>" : Str))]⟩ mg where
    a_law_begin := f0
    d_law_begin := _
    F_law_begin := fun_mk (st := s_law_begin) hl0 hd0 hk0
    b_law_begin := (fun_mk (st := s_law_begin) hl0 hd0 hk0).binds (ps := ["_law_cell", "_law_turn"]) fun _ _ _ _ _ _ us hl => match us, hl with | [_, _], _ => rfl
    g_law_begin := PySem.W.mg_of X G ha0
    k_law_begin := hk0
    a_law_draw := f1
    d_law_draw := _
    F_law_draw := fun_mk (st := s_law_draw) hl1 hd1 hk1
    b_law_draw := (fun_mk (st := s_law_draw) hl1 hd1 hk1).binds (ps := ["_law_state", "_law_size"]) fun _ _ _ _ _ _ us hl => match us, hl with | [_, _], _ => rfl
    g_law_draw := PySem.W.mg_of X G ha1
    k_law_draw := hk1
    a_law_pick := f2
    d_law_pick := _
    F_law_pick := fun_mk (st := s_law_pick) hl2 hd2 hk2
    b_law_pick := (fun_mk (st := s_law_pick) hl2 hd2 hk2).binds (ps := ["_law_state", "_law_items"]) fun _ _ _ _ _ _ us hl => match us, hl with | [_, _], _ => rfl
    g_law_pick := PySem.W.mg_of X G ha2
    k_law_pick := hk2
    a_law_bits := f3
    d_law_bits := _
    F_law_bits := fun_mk (st := s_law_bits) hl3 hd3 hk3
    b_law_bits := (fun_mk (st := s_law_bits) hl3 hd3 hk3).binds (ps := ["_law_state", "_law_most"]) fun _ _ _ _ _ _ us hl => match us, hl with | [_, _], _ => rfl
    g_law_bits := PySem.W.mg_of X G ha3
    k_law_bits := hk3
    a_law_notes := f4
    d_law_notes := _
    F_law_notes := fun_mk (st := s_law_notes) hl4 hd4 hk4
    b_law_notes := (fun_mk (st := s_law_notes) hl4 hd4 hk4).binds (ps := ["_law_state", "_law_size", "_law_many", "_law_most"]) fun _ _ _ _ _ _ us hl => match us, hl with | [_, _, _, _], _ => rfl
    g_law_notes := PySem.W.mg_of X G ha4
    k_law_notes := hk4
    a_BadRhythm___init__ := f5
    d_BadRhythm___init__ := _
    F_BadRhythm___init__ := fun_mk (st := s_BadRhythm___init__) hl5 hd5 hk5
    b_BadRhythm___init__ := (fun_mk (st := s_BadRhythm___init__) hl5 hd5 hk5).binds (ps := ["self", "index"]) fun _ _ _ _ _ _ us hl => match us, hl with | [_, _], _ => rfl
    a_is_integer := f6
    d_is_integer := _
    F_is_integer := fun_mk (st := s_is_integer) hl6 hd6 hk6
    b_is_integer := (fun_mk (st := s_is_integer) hl6 hd6 hk6).binds (ps := ["value"]) fun _ _ _ _ _ _ us hl => match us, hl with | [_], _ => rfl
    g_is_integer := PySem.W.mg_of X G ha6
    k_is_integer := hk6
    a_is_moment := f7
    d_is_moment := _
    F_is_moment := fun_mk (st := s_is_moment) hl7 hd7 hk7
    b_is_moment := (fun_mk (st := s_is_moment) hl7 hd7 hk7).binds (ps := ["value", "length"]) fun _ _ _ _ _ _ us hl => match us, hl with | [_, _], _ => rfl
    g_is_moment := PySem.W.mg_of X G ha7
    k_is_moment := hk7
    a_is_note := f8
    d_is_note := _
    F_is_note := fun_mk (st := s_is_note) hl8 hd8 hk8
    b_is_note := (fun_mk (st := s_is_note) hl8 hd8 hk8).binds (ps := ["value", "length"]) fun _ _ _ _ _ _ us hl => match us, hl with | [_, _], _ => rfl
    g_is_note := PySem.W.mg_of X G ha8
    k_is_note := hk8
    a_Rhythm___init__ := f9
    d_Rhythm___init__ := _
    F_Rhythm___init__ := fun_mk (st := s_Rhythm___init__) hl9 hd9 hk9
    b_Rhythm___init__ := (fun_mk (st := s_Rhythm___init__) hl9 hd9 hk9).binds (ps := ["self", "length", "notes"]) fun _ _ _ _ _ _ us hl => match us, hl with | [_, _, _], _ => rfl
    a_Rhythm_span := f10
    d_Rhythm_span := _
    F_Rhythm_span := fun_mk (st := s_Rhythm_span) hl10 hd10 hk10
    b_Rhythm_span := (fun_mk (st := s_Rhythm_span) hl10 hd10 hk10).binds (ps := ["self", "index"]) fun _ _ _ _ _ _ us hl => match us, hl with | [_, _], _ => rfl
    a_law_near := f11
    d_law_near := _
    F_law_near := fun_mk (st := s_law_near) hl11 hd11 hk11
    b_law_near := (fun_mk (st := s_law_near) hl11 hd11 hk11).binds (ps := ["_law_state", "_law_when", "_law_size"]) fun _ _ _ _ _ _ us hl => match us, hl with | [_, _, _], _ => rfl
    g_law_near := PySem.W.mg_of X G ha11
    k_law_near := hk11
    a_law_told := f12
    d_law_told := _
    F_law_told := fun_mk (st := s_law_told) hl12 hd12 hk12
    b_law_told := (fun_mk (st := s_law_told) hl12 hd12 hk12).binds (ps := ["_law_work"]) fun _ _ _ _ _ _ us hl => match us, hl with | [_], _ => rfl
    g_law_told := PySem.W.mg_of X G ha12
    k_law_told := hk12
    a_BadPoint___init__ := f13
    d_BadPoint___init__ := _
    F_BadPoint___init__ := fun_mk (st := s_BadPoint___init__) hl13 hd13 hk13
    b_BadPoint___init__ := (fun_mk (st := s_BadPoint___init__) hl13 hd13 hk13).binds (ps := ["self", "point"]) fun _ _ _ _ _ _ us hl => match us, hl with | [_, _], _ => rfl
    a_Rhythm_at := f14
    d_Rhythm_at := _
    F_Rhythm_at := fun_mk (st := s_Rhythm_at) hl14 hd14 hk14
    b_Rhythm_at := (fun_mk (st := s_Rhythm_at) hl14 hd14 hk14).binds (ps := ["self", "moment"]) fun _ _ _ _ _ _ us hl => match us, hl with | [_, _], _ => rfl
    a_law_last := f15
    d_law_last := _
    F_law_last := fun_mk (st := s_law_last) hl15 hd15 hk15
    b_law_last := (fun_mk (st := s_law_last) hl15 hd15 hk15).binds (ps := ["_law_begins", "_law_when"]) fun _ _ _ _ _ _ us hl => match us, hl with | [_, _], _ => rfl
    g_law_last := PySem.W.mg_of X G ha15
    k_law_last := hk15
    a_law := f16
    d_law := _
    F_law := fun_mk (st := s_law) hl16 hd16 hk16
    b_law := (fun_mk (st := s_law) hl16 hd16 hk16).binds (ps := ["_law_script"]) fun _ _ _ _ _ _ us hl => match us, hl with | [_], _ => rfl
    g_law := PySem.W.mg_of X G ha16
    k_law := hk16
    tc_law := tc16
    tp_law := tabOfK K tc16
    cc_law := hcc16
    tm_law := .head _
    tu_law := by
      intro p hp e
      simp only [List.mem_cons, List.not_mem_nil, or_false] at hp
      rcases hp with rfl
      · rfl
    kb_Rhythm_at_moment := ⟨fun s us ws _ hw hl => by
      have e : us.length = 1 := by simp at hl hw; omega
      match us, ws, e, hw with
      | [_], [_], _, _ => exact .of_eq rfl⟩
    kb_Rhythm_span_index := ⟨fun s us ws _ hw hl => by
      have e : us.length = 1 := by simp at hl hw; omega
      match us, ws, e, hw with
      | [_], [_], _, _ => exact .of_eq rfl⟩
    z_all := PySem.W.mg_none_of X G hz_all
    z_bool := PySem.W.mg_none_of X G hz_bool
    z_enumerate := PySem.W.mg_none_of X G hz_enumerate
    z_int := PySem.W.mg_none_of X G hz_int
    z_isinstance := PySem.W.mg_none_of X G hz_isinstance
    z_len := PySem.W.mg_none_of X G hz_len
    z_list := PySem.W.mg_none_of X G hz_list
    z_max := PySem.W.mg_none_of X G hz_max
    z_range := PySem.W.mg_none_of X G hz_range
    z_sorted := PySem.W.mg_none_of X G hz_sorted
    z_str := PySem.W.mg_none_of X G hz_str
    z_tuple := PySem.W.mg_none_of X G hz_tuple
    z_zip := PySem.W.mg_none_of X G hz_zip
    ad_SOUNDS := ad_SOUNDS
    g_SOUNDS := PySem.W.mg_of X G hg_SOUNDS
    r_SOUNDS := fun W => (rep_ktup (G := ⟨K, fun c => ([C0, C1, C2, 0, 0, 0, 0, 0, 0, 0, 0, 0, C12, C13, C14, C15, C16, C17, C18, 0, 0, 0, 0, 0, 0, 0, 0, 0, 0, 0, 0, 0, 0, 0, 0, 0, 0, 0, 0, 0, 0, 0, 0, C43] : List Addr).getD c 0, [(tabOfK K tc16, ("law.<locals>.<lambda>" : Str))]⟩) hl_SOUNDS rfl rfl hs_SOUNDS hv_SOUNDS ⟨(by simp only [Rep]), ⟨(by simp only [Rep]), trivial⟩⟩)
    t_MOST_NOTES := t_MOST_NOTES
    g_MOST_NOTES := PySem.W.mg_of X G hg_MOST_NOTES
    t_MOST_PULSES := t_MOST_PULSES
    g_MOST_PULSES := PySem.W.mg_of X G hg_MOST_PULSES
    g_RhythmError := PySem.W.mg_of X G hc0
    g_BadMetre := PySem.W.mg_of X G hc1
    g_BadPoint := PySem.W.mg_of X G hc2
    g_BadNumber := PySem.W.mg_of X G hc12
    g_BadRhythm := PySem.W.mg_of X G hc13
    g_BadRow := PySem.W.mg_of X G hc14
    g_BadLoop := PySem.W.mg_of X G hc15
    g_BadFigure := PySem.W.mg_of X G hc16
    g_BadGroups := PySem.W.mg_of X G hc17
    g_NoGrouping := PySem.W.mg_of X G hc18
    g_Rhythm := PySem.W.mg_of X G hc43
    c_Rhythm := ⟨pg_Rhythm, hd_Rhythm, po_Rhythm, sa_Rhythm⟩
    n_Rhythm_own_length := na_Rhythm_own_length
    n_Rhythm_own_notes := na_Rhythm_own_notes
    mk_Rhythm := ⟨mk_Rhythm, ha9, fn9, kc2_Rhythm⟩
    m_Rhythm_at := ⟨ha14, fn14, hk14⟩
    m_Rhythm_span := ⟨ha10, fn10, hk10⟩
    x_BadNumber := x_BadNumber
    kc_BadNumber := kc_BadNumber
    sb_BadNumber := sb_BadNumber
    ty_BadNumber := ty_BadNumber
    bx := ⟨bx_sp, bx_rd, bx_fc⟩
    ox_BadPoint := ⟨⟨nm_BadPoint, qn_BadPoint, nn_BadPoint, bs_BadPoint, _, sn_BadPoint, sub_BadPoint, ab_BadPoint, col_BadPoint, dd_BadPoint, k0_BadPoint, k1_BadPoint, k2_BadPoint, k3_BadPoint, k5_BadPoint, xl_BadPoint, rfl⟩, xsa_BadPoint, sb_BadPoint, ty_BadPoint, kc_BadPoint⟩
    no_BadPoint := xno_BadPoint
    iC_BadPoint := ha13
    tI_BadPoint := xti_BadPoint
    ox_BadRhythm := ⟨⟨nm_BadRhythm, qn_BadRhythm, nn_BadRhythm, bs_BadRhythm, _, sn_BadRhythm, sub_BadRhythm, ab_BadRhythm, col_BadRhythm, dd_BadRhythm, k0_BadRhythm, k1_BadRhythm, k2_BadRhythm, k3_BadRhythm, k5_BadRhythm, xl_BadRhythm, rfl⟩, xsa_BadRhythm, sb_BadRhythm, ty_BadRhythm, kc_BadRhythm⟩
    no_BadRhythm := xno_BadRhythm
    iC_BadRhythm := ha5
    tI_BadRhythm := xti_BadRhythm
    xf_index := by
      intro c h
      match c, h with
      | 13, _ => exact ⟨⟨xga_BadRhythm, xgg_BadRhythm, sb_BadRhythm, xhd_BadRhythm⟩, xno_BadRhythm⟩
    xf_obstacle := by
      intro c h
      exact absurd (show false = true from h) Bool.false_ne_true
    xf_point := by
      intro c h
      match c, h with
      | 2, _ => exact ⟨⟨xga_BadPoint, xgg_BadPoint, sb_BadPoint, xhd_BadPoint⟩, xno_BadPoint⟩
    isa_bool := by
      intro tg b h
      match tg, b, h with
      | .non, _, rfl => exact ⟨trivial, (kit_ty (r := false) (by decide +kernel))⟩
      | .bl, _, rfl => exact ⟨trivial, (kit_ty (r := true) (by decide +kernel))⟩
      | .int, _, rfl => exact ⟨trivial, (kit_ty (r := false) (by decide +kernel))⟩
      | .str, _, rfl => exact ⟨trivial, (kit_ty (r := false) (by decide +kernel))⟩
      | .tup, _, rfl => exact ⟨trivial, (kit_ty (r := false) (by decide +kernel))⟩
      | .lst, _, rfl => exact ⟨trivial, (kit_ty (r := false) (by decide +kernel))⟩
      | .dct, _, rfl => exact ⟨trivial, (kit_ty (r := false) (by decide +kernel))⟩
      | .cls 43, _, rfl => exact ⟨⟨⟨pg_Rhythm, hd_Rhythm, po_Rhythm, sa_Rhythm⟩, ia_Rhythm, hin, hit, im_Rhythm⟩, (kitOne_tyref sb_Rhythm_bool)⟩
      | .xc 2, _, rfl => exact ⟨⟨ec_BadPoint, eg_BadPoint, ek_BadPoint, sb_BadPoint, ia_BadPoint, hin, hit, im_BadPoint⟩, (kitOne_tyref sb_BadPoint_bool)⟩
      | .xc 12, _, rfl => exact ⟨⟨ec_BadNumber, eg_BadNumber, ek_BadNumber, sb_BadNumber, ia_BadNumber, hin, hit, im_BadNumber⟩, (kitOne_tyref sb_BadNumber_bool)⟩
      | .xc 13, _, rfl => exact ⟨⟨ec_BadRhythm, eg_BadRhythm, ek_BadRhythm, sb_BadRhythm, ia_BadRhythm, hin, hit, im_BadRhythm⟩, (kitOne_tyref sb_BadRhythm_bool)⟩
    isa_int := by
      intro tg b h
      match tg, b, h with
      | .non, _, rfl => exact ⟨trivial, (kit_ty (r := false) (by decide +kernel))⟩
      | .bl, _, rfl => exact ⟨trivial, (kit_ty (r := true) (by decide +kernel))⟩
      | .int, _, rfl => exact ⟨trivial, (kit_ty (r := true) (by decide +kernel))⟩
      | .str, _, rfl => exact ⟨trivial, (kit_ty (r := false) (by decide +kernel))⟩
      | .tup, _, rfl => exact ⟨trivial, (kit_ty (r := false) (by decide +kernel))⟩
      | .lst, _, rfl => exact ⟨trivial, (kit_ty (r := false) (by decide +kernel))⟩
      | .dct, _, rfl => exact ⟨trivial, (kit_ty (r := false) (by decide +kernel))⟩
      | .cls 43, _, rfl => exact ⟨⟨⟨pg_Rhythm, hd_Rhythm, po_Rhythm, sa_Rhythm⟩, ia_Rhythm, hin, hit, im_Rhythm⟩, (kitOne_tyref sb_Rhythm_int)⟩
      | .xc 2, _, rfl => exact ⟨⟨ec_BadPoint, eg_BadPoint, ek_BadPoint, sb_BadPoint, ia_BadPoint, hin, hit, im_BadPoint⟩, (kitOne_tyref sb_BadPoint_int)⟩
      | .xc 12, _, rfl => exact ⟨⟨ec_BadNumber, eg_BadNumber, ek_BadNumber, sb_BadNumber, ia_BadNumber, hin, hit, im_BadNumber⟩, (kitOne_tyref sb_BadNumber_int)⟩
      | .xc 13, _, rfl => exact ⟨⟨ec_BadRhythm, eg_BadRhythm, ek_BadRhythm, sb_BadRhythm, ia_BadRhythm, hin, hit, im_BadRhythm⟩, (kitOne_tyref sb_BadRhythm_int)⟩
    isa_str := by
      intro tg b h
      match tg, b, h with
      | .non, _, rfl => exact ⟨trivial, (kit_ty (r := false) (by decide +kernel))⟩
      | .bl, _, rfl => exact ⟨trivial, (kit_ty (r := false) (by decide +kernel))⟩
      | .int, _, rfl => exact ⟨trivial, (kit_ty (r := false) (by decide +kernel))⟩
      | .str, _, rfl => exact ⟨trivial, (kit_ty (r := true) (by decide +kernel))⟩
      | .tup, _, rfl => exact ⟨trivial, (kit_ty (r := false) (by decide +kernel))⟩
      | .lst, _, rfl => exact ⟨trivial, (kit_ty (r := false) (by decide +kernel))⟩
      | .dct, _, rfl => exact ⟨trivial, (kit_ty (r := false) (by decide +kernel))⟩
      | .cls 43, _, rfl => exact ⟨⟨⟨pg_Rhythm, hd_Rhythm, po_Rhythm, sa_Rhythm⟩, ia_Rhythm, hin, hit, im_Rhythm⟩, (kitOne_tyref sb_Rhythm_str)⟩
      | .xc 2, _, rfl => exact ⟨⟨ec_BadPoint, eg_BadPoint, ek_BadPoint, sb_BadPoint, ia_BadPoint, hin, hit, im_BadPoint⟩, (kitOne_tyref sb_BadPoint_str)⟩
      | .xc 12, _, rfl => exact ⟨⟨ec_BadNumber, eg_BadNumber, ek_BadNumber, sb_BadNumber, ia_BadNumber, hin, hit, im_BadNumber⟩, (kitOne_tyref sb_BadNumber_str)⟩
      | .xc 13, _, rfl => exact ⟨⟨ec_BadRhythm, eg_BadRhythm, ek_BadRhythm, sb_BadRhythm, ia_BadRhythm, hin, hit, im_BadRhythm⟩, (kitOne_tyref sb_BadRhythm_str)⟩
    isa_tuple := by
      intro tg b h
      match tg, b, h with
      | .non, _, rfl => exact ⟨trivial, (kit_ty (r := false) (by decide +kernel))⟩
      | .bl, _, rfl => exact ⟨trivial, (kit_ty (r := false) (by decide +kernel))⟩
      | .int, _, rfl => exact ⟨trivial, (kit_ty (r := false) (by decide +kernel))⟩
      | .str, _, rfl => exact ⟨trivial, (kit_ty (r := false) (by decide +kernel))⟩
      | .tup, _, rfl => exact ⟨trivial, (kit_ty (r := true) (by decide +kernel))⟩
      | .lst, _, rfl => exact ⟨trivial, (kit_ty (r := false) (by decide +kernel))⟩
      | .dct, _, rfl => exact ⟨trivial, (kit_ty (r := false) (by decide +kernel))⟩
      | .cls 43, _, rfl => exact ⟨⟨⟨pg_Rhythm, hd_Rhythm, po_Rhythm, sa_Rhythm⟩, ia_Rhythm, hin, hit, im_Rhythm⟩, (kitOne_tyref sb_Rhythm_tuple)⟩
      | .xc 2, _, rfl => exact ⟨⟨ec_BadPoint, eg_BadPoint, ek_BadPoint, sb_BadPoint, ia_BadPoint, hin, hit, im_BadPoint⟩, (kitOne_tyref sb_BadPoint_tuple)⟩
      | .xc 12, _, rfl => exact ⟨⟨ec_BadNumber, eg_BadNumber, ek_BadNumber, sb_BadNumber, ia_BadNumber, hin, hit, im_BadNumber⟩, (kitOne_tyref sb_BadNumber_tuple)⟩
      | .xc 13, _, rfl => exact ⟨⟨ec_BadRhythm, eg_BadRhythm, ek_BadRhythm, sb_BadRhythm, ia_BadRhythm, hin, hit, im_BadRhythm⟩, (kitOne_tyref sb_BadRhythm_tuple)⟩
    isa_list_tuple := by
      intro tg b h
      match tg, b, h with
      | .non, _, rfl => exact ⟨trivial, (kitAny_cons (kit_ty (r := false) (by decide +kernel)) (fun _ => (kitAny_cons (kit_ty (r := false) (by decide +kernel)) (fun _ => kitAny_nil) (fun z => nomatch z))) (fun z => nomatch z))⟩
      | .bl, _, rfl => exact ⟨trivial, (kitAny_cons (kit_ty (r := false) (by decide +kernel)) (fun _ => (kitAny_cons (kit_ty (r := false) (by decide +kernel)) (fun _ => kitAny_nil) (fun z => nomatch z))) (fun z => nomatch z))⟩
      | .int, _, rfl => exact ⟨trivial, (kitAny_cons (kit_ty (r := false) (by decide +kernel)) (fun _ => (kitAny_cons (kit_ty (r := false) (by decide +kernel)) (fun _ => kitAny_nil) (fun z => nomatch z))) (fun z => nomatch z))⟩
      | .str, _, rfl => exact ⟨trivial, (kitAny_cons (kit_ty (r := false) (by decide +kernel)) (fun _ => (kitAny_cons (kit_ty (r := false) (by decide +kernel)) (fun _ => kitAny_nil) (fun z => nomatch z))) (fun z => nomatch z))⟩
      | .tup, _, rfl => exact ⟨trivial, (kitAny_cons (kit_ty (r := false) (by decide +kernel)) (fun _ => (kitAny_cons (kit_ty (r := true) (by decide +kernel)) (fun z => nomatch z) (fun _ => rfl))) (fun z => nomatch z))⟩
      | .lst, _, rfl => exact ⟨trivial, (kitAny_cons (kit_ty (r := true) (by decide +kernel)) (fun z => nomatch z) (fun _ => rfl))⟩
      | .dct, _, rfl => exact ⟨trivial, (kitAny_cons (kit_ty (r := false) (by decide +kernel)) (fun _ => (kitAny_cons (kit_ty (r := false) (by decide +kernel)) (fun _ => kitAny_nil) (fun z => nomatch z))) (fun z => nomatch z))⟩
      | .cls 43, _, rfl => exact ⟨⟨⟨pg_Rhythm, hd_Rhythm, po_Rhythm, sa_Rhythm⟩, ia_Rhythm, hin, hit, im_Rhythm⟩, (kitAny_cons (kitOne_tyref sb_Rhythm_list) (fun _ => (kitAny_cons (kitOne_tyref sb_Rhythm_tuple) (fun _ => kitAny_nil) (fun z => nomatch z))) (fun z => nomatch z))⟩
      | .xc 2, _, rfl => exact ⟨⟨ec_BadPoint, eg_BadPoint, ek_BadPoint, sb_BadPoint, ia_BadPoint, hin, hit, im_BadPoint⟩, (kitAny_cons (kitOne_tyref sb_BadPoint_list) (fun _ => (kitAny_cons (kitOne_tyref sb_BadPoint_tuple) (fun _ => kitAny_nil) (fun z => nomatch z))) (fun z => nomatch z))⟩
      | .xc 12, _, rfl => exact ⟨⟨ec_BadNumber, eg_BadNumber, ek_BadNumber, sb_BadNumber, ia_BadNumber, hin, hit, im_BadNumber⟩, (kitAny_cons (kitOne_tyref sb_BadNumber_list) (fun _ => (kitAny_cons (kitOne_tyref sb_BadNumber_tuple) (fun _ => kitAny_nil) (fun z => nomatch z))) (fun z => nomatch z))⟩
      | .xc 13, _, rfl => exact ⟨⟨ec_BadRhythm, eg_BadRhythm, ek_BadRhythm, sb_BadRhythm, ia_BadRhythm, hin, hit, im_BadRhythm⟩, (kitAny_cons (kitOne_tyref sb_BadRhythm_list) (fun _ => (kitAny_cons (kitOne_tyref sb_BadRhythm_tuple) (fun _ => kitAny_nil) (fun z => nomatch z))) (fun z => nomatch z))⟩
    isa_BadRhythm_BadFigure := by
      intro tg b h
      match tg, b, h with
      | .non, _, rfl => exact ⟨trivial, (kitAny_cons (kitOne_ref kl_BadRhythm kt_BadRhythm su_non_BadRhythm (fun z => nomatch z)) (fun _ => (kitAny_cons (kitOne_ref kl_BadFigure kt_BadFigure su_non_BadFigure (fun z => nomatch z)) (fun _ => kitAny_nil) (fun z => nomatch z))) (fun z => nomatch z))⟩
      | .bl, _, rfl => exact ⟨trivial, (kitAny_cons (kitOne_ref kl_BadRhythm kt_BadRhythm su_bl_BadRhythm (fun z => nomatch z)) (fun _ => (kitAny_cons (kitOne_ref kl_BadFigure kt_BadFigure su_bl_BadFigure (fun z => nomatch z)) (fun _ => kitAny_nil) (fun z => nomatch z))) (fun z => nomatch z))⟩
      | .int, _, rfl => exact ⟨trivial, (kitAny_cons (kitOne_ref kl_BadRhythm kt_BadRhythm su_int_BadRhythm (fun z => nomatch z)) (fun _ => (kitAny_cons (kitOne_ref kl_BadFigure kt_BadFigure su_int_BadFigure (fun z => nomatch z)) (fun _ => kitAny_nil) (fun z => nomatch z))) (fun z => nomatch z))⟩
      | .str, _, rfl => exact ⟨trivial, (kitAny_cons (kitOne_ref kl_BadRhythm kt_BadRhythm su_str_BadRhythm (fun z => nomatch z)) (fun _ => (kitAny_cons (kitOne_ref kl_BadFigure kt_BadFigure su_str_BadFigure (fun z => nomatch z)) (fun _ => kitAny_nil) (fun z => nomatch z))) (fun z => nomatch z))⟩
      | .tup, _, rfl => exact ⟨trivial, (kitAny_cons (kitOne_ref kl_BadRhythm kt_BadRhythm su_tup_BadRhythm (fun z => nomatch z)) (fun _ => (kitAny_cons (kitOne_ref kl_BadFigure kt_BadFigure su_tup_BadFigure (fun z => nomatch z)) (fun _ => kitAny_nil) (fun z => nomatch z))) (fun z => nomatch z))⟩
      | .lst, _, rfl => exact ⟨trivial, (kitAny_cons (kitOne_ref kl_BadRhythm kt_BadRhythm su_lst_BadRhythm (fun z => nomatch z)) (fun _ => (kitAny_cons (kitOne_ref kl_BadFigure kt_BadFigure su_lst_BadFigure (fun z => nomatch z)) (fun _ => kitAny_nil) (fun z => nomatch z))) (fun z => nomatch z))⟩
      | .dct, _, rfl => exact ⟨trivial, (kitAny_cons (kitOne_ref kl_BadRhythm kt_BadRhythm su_dct_BadRhythm (fun z => nomatch z)) (fun _ => (kitAny_cons (kitOne_ref kl_BadFigure kt_BadFigure su_dct_BadFigure (fun z => nomatch z)) (fun _ => kitAny_nil) (fun z => nomatch z))) (fun z => nomatch z))⟩
      | .cls 43, _, rfl => exact ⟨⟨⟨pg_Rhythm, hd_Rhythm, po_Rhythm, sa_Rhythm⟩, ia_Rhythm, hin, hit, im_Rhythm⟩, (kitAny_cons (kitOne_ref kl_BadRhythm kt_BadRhythm su_Rhythm_BadRhythm ne_Rhythm_BadRhythm) (fun _ => (kitAny_cons (kitOne_ref kl_BadFigure kt_BadFigure su_Rhythm_BadFigure ne_Rhythm_BadFigure) (fun _ => kitAny_nil) (fun z => nomatch z))) (fun z => nomatch z))⟩
      | .xc 2, _, rfl => exact ⟨⟨ec_BadPoint, eg_BadPoint, ek_BadPoint, sb_BadPoint, ia_BadPoint, hin, hit, im_BadPoint⟩, (kitAny_cons (kitOne_ref kl_BadRhythm kt_BadRhythm su_BadPoint_BadRhythm ne_BadPoint_BadRhythm) (fun _ => (kitAny_cons (kitOne_ref kl_BadFigure kt_BadFigure su_BadPoint_BadFigure ne_BadPoint_BadFigure) (fun _ => kitAny_nil) (fun z => nomatch z))) (fun z => nomatch z))⟩
      | .xc 12, _, rfl => exact ⟨⟨ec_BadNumber, eg_BadNumber, ek_BadNumber, sb_BadNumber, ia_BadNumber, hin, hit, im_BadNumber⟩, (kitAny_cons (kitOne_ref kl_BadRhythm kt_BadRhythm su_BadNumber_BadRhythm ne_BadNumber_BadRhythm) (fun _ => (kitAny_cons (kitOne_ref kl_BadFigure kt_BadFigure su_BadNumber_BadFigure ne_BadNumber_BadFigure) (fun _ => kitAny_nil) (fun z => nomatch z))) (fun z => nomatch z))⟩
      | .xc 13, _, rfl => exact ⟨⟨ec_BadRhythm, eg_BadRhythm, ek_BadRhythm, sb_BadRhythm, ia_BadRhythm, hin, hit, im_BadRhythm⟩, (kitAny_cons kitOne_self (fun z => nomatch z) (fun _ => rfl))⟩
    isa_BadRhythm := by
      intro tg b h
      match tg, b, h with
      | .non, _, rfl => exact ⟨trivial, (kitOne_ref kl_BadRhythm kt_BadRhythm su_non_BadRhythm (fun z => nomatch z))⟩
      | .bl, _, rfl => exact ⟨trivial, (kitOne_ref kl_BadRhythm kt_BadRhythm su_bl_BadRhythm (fun z => nomatch z))⟩
      | .int, _, rfl => exact ⟨trivial, (kitOne_ref kl_BadRhythm kt_BadRhythm su_int_BadRhythm (fun z => nomatch z))⟩
      | .str, _, rfl => exact ⟨trivial, (kitOne_ref kl_BadRhythm kt_BadRhythm su_str_BadRhythm (fun z => nomatch z))⟩
      | .tup, _, rfl => exact ⟨trivial, (kitOne_ref kl_BadRhythm kt_BadRhythm su_tup_BadRhythm (fun z => nomatch z))⟩
      | .lst, _, rfl => exact ⟨trivial, (kitOne_ref kl_BadRhythm kt_BadRhythm su_lst_BadRhythm (fun z => nomatch z))⟩
      | .dct, _, rfl => exact ⟨trivial, (kitOne_ref kl_BadRhythm kt_BadRhythm su_dct_BadRhythm (fun z => nomatch z))⟩
      | .cls 43, _, rfl => exact ⟨⟨⟨pg_Rhythm, hd_Rhythm, po_Rhythm, sa_Rhythm⟩, ia_Rhythm, hin, hit, im_Rhythm⟩, (kitOne_ref kl_BadRhythm kt_BadRhythm su_Rhythm_BadRhythm ne_Rhythm_BadRhythm)⟩
      | .xc 2, _, rfl => exact ⟨⟨ec_BadPoint, eg_BadPoint, ek_BadPoint, sb_BadPoint, ia_BadPoint, hin, hit, im_BadPoint⟩, (kitOne_ref kl_BadRhythm kt_BadRhythm su_BadPoint_BadRhythm ne_BadPoint_BadRhythm)⟩
      | .xc 12, _, rfl => exact ⟨⟨ec_BadNumber, eg_BadNumber, ek_BadNumber, sb_BadNumber, ia_BadNumber, hin, hit, im_BadNumber⟩, (kitOne_ref kl_BadRhythm kt_BadRhythm su_BadNumber_BadRhythm ne_BadNumber_BadRhythm)⟩
      | .xc 13, _, rfl => exact ⟨⟨ec_BadRhythm, eg_BadRhythm, ek_BadRhythm, sb_BadRhythm, ia_BadRhythm, hin, hit, im_BadRhythm⟩, kitOne_self⟩
    isa_BadPoint := by
      intro tg b h
      match tg, b, h with
      | .non, _, rfl => exact ⟨trivial, (kitOne_ref kl_BadPoint kt_BadPoint su_non_BadPoint (fun z => nomatch z))⟩
      | .bl, _, rfl => exact ⟨trivial, (kitOne_ref kl_BadPoint kt_BadPoint su_bl_BadPoint (fun z => nomatch z))⟩
      | .int, _, rfl => exact ⟨trivial, (kitOne_ref kl_BadPoint kt_BadPoint su_int_BadPoint (fun z => nomatch z))⟩
      | .str, _, rfl => exact ⟨trivial, (kitOne_ref kl_BadPoint kt_BadPoint su_str_BadPoint (fun z => nomatch z))⟩
      | .tup, _, rfl => exact ⟨trivial, (kitOne_ref kl_BadPoint kt_BadPoint su_tup_BadPoint (fun z => nomatch z))⟩
      | .lst, _, rfl => exact ⟨trivial, (kitOne_ref kl_BadPoint kt_BadPoint su_lst_BadPoint (fun z => nomatch z))⟩
      | .dct, _, rfl => exact ⟨trivial, (kitOne_ref kl_BadPoint kt_BadPoint su_dct_BadPoint (fun z => nomatch z))⟩
      | .cls 43, _, rfl => exact ⟨⟨⟨pg_Rhythm, hd_Rhythm, po_Rhythm, sa_Rhythm⟩, ia_Rhythm, hin, hit, im_Rhythm⟩, (kitOne_ref kl_BadPoint kt_BadPoint su_Rhythm_BadPoint ne_Rhythm_BadPoint)⟩
      | .xc 2, _, rfl => exact ⟨⟨ec_BadPoint, eg_BadPoint, ek_BadPoint, sb_BadPoint, ia_BadPoint, hin, hit, im_BadPoint⟩, kitOne_self⟩
      | .xc 12, _, rfl => exact ⟨⟨ec_BadNumber, eg_BadNumber, ek_BadNumber, sb_BadNumber, ia_BadNumber, hin, hit, im_BadNumber⟩, (kitOne_ref kl_BadPoint kt_BadPoint su_BadNumber_BadPoint ne_BadNumber_BadPoint)⟩
      | .xc 13, _, rfl => exact ⟨⟨ec_BadRhythm, eg_BadRhythm, ek_BadRhythm, sb_BadRhythm, ia_BadRhythm, hin, hit, im_BadRhythm⟩, (kitOne_ref kl_BadPoint kt_BadPoint su_BadRhythm_BadPoint ne_BadRhythm_BadPoint)⟩
    isa_NoGrouping := by
      intro tg b h
      match tg, b, h with
      | .non, _, rfl => exact ⟨trivial, (kitOne_ref kl_NoGrouping kt_NoGrouping su_non_NoGrouping (fun z => nomatch z))⟩
      | .bl, _, rfl => exact ⟨trivial, (kitOne_ref kl_NoGrouping kt_NoGrouping su_bl_NoGrouping (fun z => nomatch z))⟩
      | .int, _, rfl => exact ⟨trivial, (kitOne_ref kl_NoGrouping kt_NoGrouping su_int_NoGrouping (fun z => nomatch z))⟩
      | .str, _, rfl => exact ⟨trivial, (kitOne_ref kl_NoGrouping kt_NoGrouping su_str_NoGrouping (fun z => nomatch z))⟩
      | .tup, _, rfl => exact ⟨trivial, (kitOne_ref kl_NoGrouping kt_NoGrouping su_tup_NoGrouping (fun z => nomatch z))⟩
      | .lst, _, rfl => exact ⟨trivial, (kitOne_ref kl_NoGrouping kt_NoGrouping su_lst_NoGrouping (fun z => nomatch z))⟩
      | .dct, _, rfl => exact ⟨trivial, (kitOne_ref kl_NoGrouping kt_NoGrouping su_dct_NoGrouping (fun z => nomatch z))⟩
      | .cls 43, _, rfl => exact ⟨⟨⟨pg_Rhythm, hd_Rhythm, po_Rhythm, sa_Rhythm⟩, ia_Rhythm, hin, hit, im_Rhythm⟩, (kitOne_ref kl_NoGrouping kt_NoGrouping su_Rhythm_NoGrouping ne_Rhythm_NoGrouping)⟩
      | .xc 2, _, rfl => exact ⟨⟨ec_BadPoint, eg_BadPoint, ek_BadPoint, sb_BadPoint, ia_BadPoint, hin, hit, im_BadPoint⟩, (kitOne_ref kl_NoGrouping kt_NoGrouping su_BadPoint_NoGrouping ne_BadPoint_NoGrouping)⟩
      | .xc 12, _, rfl => exact ⟨⟨ec_BadNumber, eg_BadNumber, ek_BadNumber, sb_BadNumber, ia_BadNumber, hin, hit, im_BadNumber⟩, (kitOne_ref kl_NoGrouping kt_NoGrouping su_BadNumber_NoGrouping ne_BadNumber_NoGrouping)⟩
      | .xc 13, _, rfl => exact ⟨⟨ec_BadRhythm, eg_BadRhythm, ek_BadRhythm, sb_BadRhythm, ia_BadRhythm, hin, hit, im_BadRhythm⟩, (kitOne_ref kl_NoGrouping kt_NoGrouping su_BadRhythm_NoGrouping ne_BadRhythm_NoGrouping)⟩
    isa_BadNumber := by
      intro tg b h
      match tg, b, h with
      | .non, _, rfl => exact ⟨trivial, (kitOne_ref kl_BadNumber kt_BadNumber su_non_BadNumber (fun z => nomatch z))⟩
      | .bl, _, rfl => exact ⟨trivial, (kitOne_ref kl_BadNumber kt_BadNumber su_bl_BadNumber (fun z => nomatch z))⟩
      | .int, _, rfl => exact ⟨trivial, (kitOne_ref kl_BadNumber kt_BadNumber su_int_BadNumber (fun z => nomatch z))⟩
      | .str, _, rfl => exact ⟨trivial, (kitOne_ref kl_BadNumber kt_BadNumber su_str_BadNumber (fun z => nomatch z))⟩
      | .tup, _, rfl => exact ⟨trivial, (kitOne_ref kl_BadNumber kt_BadNumber su_tup_BadNumber (fun z => nomatch z))⟩
      | .lst, _, rfl => exact ⟨trivial, (kitOne_ref kl_BadNumber kt_BadNumber su_lst_BadNumber (fun z => nomatch z))⟩
      | .dct, _, rfl => exact ⟨trivial, (kitOne_ref kl_BadNumber kt_BadNumber su_dct_BadNumber (fun z => nomatch z))⟩
      | .cls 43, _, rfl => exact ⟨⟨⟨pg_Rhythm, hd_Rhythm, po_Rhythm, sa_Rhythm⟩, ia_Rhythm, hin, hit, im_Rhythm⟩, (kitOne_ref kl_BadNumber kt_BadNumber su_Rhythm_BadNumber ne_Rhythm_BadNumber)⟩
      | .xc 2, _, rfl => exact ⟨⟨ec_BadPoint, eg_BadPoint, ek_BadPoint, sb_BadPoint, ia_BadPoint, hin, hit, im_BadPoint⟩, (kitOne_ref kl_BadNumber kt_BadNumber su_BadPoint_BadNumber ne_BadPoint_BadNumber)⟩
      | .xc 12, _, rfl => exact ⟨⟨ec_BadNumber, eg_BadNumber, ek_BadNumber, sb_BadNumber, ia_BadNumber, hin, hit, im_BadNumber⟩, kitOne_self⟩
      | .xc 13, _, rfl => exact ⟨⟨ec_BadRhythm, eg_BadRhythm, ek_BadRhythm, sb_BadRhythm, ia_BadRhythm, hin, hit, im_BadRhythm⟩, (kitOne_ref kl_BadNumber kt_BadNumber su_BadRhythm_BadNumber ne_BadRhythm_BadNumber)⟩
    isa_BadRow := by
      intro tg b h
      match tg, b, h with
      | .non, _, rfl => exact ⟨trivial, (kitOne_ref kl_BadRow kt_BadRow su_non_BadRow (fun z => nomatch z))⟩
      | .bl, _, rfl => exact ⟨trivial, (kitOne_ref kl_BadRow kt_BadRow su_bl_BadRow (fun z => nomatch z))⟩
      | .int, _, rfl => exact ⟨trivial, (kitOne_ref kl_BadRow kt_BadRow su_int_BadRow (fun z => nomatch z))⟩
      | .str, _, rfl => exact ⟨trivial, (kitOne_ref kl_BadRow kt_BadRow su_str_BadRow (fun z => nomatch z))⟩
      | .tup, _, rfl => exact ⟨trivial, (kitOne_ref kl_BadRow kt_BadRow su_tup_BadRow (fun z => nomatch z))⟩
      | .lst, _, rfl => exact ⟨trivial, (kitOne_ref kl_BadRow kt_BadRow su_lst_BadRow (fun z => nomatch z))⟩
      | .dct, _, rfl => exact ⟨trivial, (kitOne_ref kl_BadRow kt_BadRow su_dct_BadRow (fun z => nomatch z))⟩
      | .cls 43, _, rfl => exact ⟨⟨⟨pg_Rhythm, hd_Rhythm, po_Rhythm, sa_Rhythm⟩, ia_Rhythm, hin, hit, im_Rhythm⟩, (kitOne_ref kl_BadRow kt_BadRow su_Rhythm_BadRow ne_Rhythm_BadRow)⟩
      | .xc 2, _, rfl => exact ⟨⟨ec_BadPoint, eg_BadPoint, ek_BadPoint, sb_BadPoint, ia_BadPoint, hin, hit, im_BadPoint⟩, (kitOne_ref kl_BadRow kt_BadRow su_BadPoint_BadRow ne_BadPoint_BadRow)⟩
      | .xc 12, _, rfl => exact ⟨⟨ec_BadNumber, eg_BadNumber, ek_BadNumber, sb_BadNumber, ia_BadNumber, hin, hit, im_BadNumber⟩, (kitOne_ref kl_BadRow kt_BadRow su_BadNumber_BadRow ne_BadNumber_BadRow)⟩
      | .xc 13, _, rfl => exact ⟨⟨ec_BadRhythm, eg_BadRhythm, ek_BadRhythm, sb_BadRhythm, ia_BadRhythm, hin, hit, im_BadRhythm⟩, (kitOne_ref kl_BadRow kt_BadRow su_BadRhythm_BadRow ne_BadRhythm_BadRow)⟩
    isa_BadLoop := by
      intro tg b h
      match tg, b, h with
      | .non, _, rfl => exact ⟨trivial, (kitOne_ref kl_BadLoop kt_BadLoop su_non_BadLoop (fun z => nomatch z))⟩
      | .bl, _, rfl => exact ⟨trivial, (kitOne_ref kl_BadLoop kt_BadLoop su_bl_BadLoop (fun z => nomatch z))⟩
      | .int, _, rfl => exact ⟨trivial, (kitOne_ref kl_BadLoop kt_BadLoop su_int_BadLoop (fun z => nomatch z))⟩
      | .str, _, rfl => exact ⟨trivial, (kitOne_ref kl_BadLoop kt_BadLoop su_str_BadLoop (fun z => nomatch z))⟩
      | .tup, _, rfl => exact ⟨trivial, (kitOne_ref kl_BadLoop kt_BadLoop su_tup_BadLoop (fun z => nomatch z))⟩
      | .lst, _, rfl => exact ⟨trivial, (kitOne_ref kl_BadLoop kt_BadLoop su_lst_BadLoop (fun z => nomatch z))⟩
      | .dct, _, rfl => exact ⟨trivial, (kitOne_ref kl_BadLoop kt_BadLoop su_dct_BadLoop (fun z => nomatch z))⟩
      | .cls 43, _, rfl => exact ⟨⟨⟨pg_Rhythm, hd_Rhythm, po_Rhythm, sa_Rhythm⟩, ia_Rhythm, hin, hit, im_Rhythm⟩, (kitOne_ref kl_BadLoop kt_BadLoop su_Rhythm_BadLoop ne_Rhythm_BadLoop)⟩
      | .xc 2, _, rfl => exact ⟨⟨ec_BadPoint, eg_BadPoint, ek_BadPoint, sb_BadPoint, ia_BadPoint, hin, hit, im_BadPoint⟩, (kitOne_ref kl_BadLoop kt_BadLoop su_BadPoint_BadLoop ne_BadPoint_BadLoop)⟩
      | .xc 12, _, rfl => exact ⟨⟨ec_BadNumber, eg_BadNumber, ek_BadNumber, sb_BadNumber, ia_BadNumber, hin, hit, im_BadNumber⟩, (kitOne_ref kl_BadLoop kt_BadLoop su_BadNumber_BadLoop ne_BadNumber_BadLoop)⟩
      | .xc 13, _, rfl => exact ⟨⟨ec_BadRhythm, eg_BadRhythm, ek_BadRhythm, sb_BadRhythm, ia_BadRhythm, hin, hit, im_BadRhythm⟩, (kitOne_ref kl_BadLoop kt_BadLoop su_BadRhythm_BadLoop ne_BadRhythm_BadLoop)⟩
    isa_BadGroups := by
      intro tg b h
      match tg, b, h with
      | .non, _, rfl => exact ⟨trivial, (kitOne_ref kl_BadGroups kt_BadGroups su_non_BadGroups (fun z => nomatch z))⟩
      | .bl, _, rfl => exact ⟨trivial, (kitOne_ref kl_BadGroups kt_BadGroups su_bl_BadGroups (fun z => nomatch z))⟩
      | .int, _, rfl => exact ⟨trivial, (kitOne_ref kl_BadGroups kt_BadGroups su_int_BadGroups (fun z => nomatch z))⟩
      | .str, _, rfl => exact ⟨trivial, (kitOne_ref kl_BadGroups kt_BadGroups su_str_BadGroups (fun z => nomatch z))⟩
      | .tup, _, rfl => exact ⟨trivial, (kitOne_ref kl_BadGroups kt_BadGroups su_tup_BadGroups (fun z => nomatch z))⟩
      | .lst, _, rfl => exact ⟨trivial, (kitOne_ref kl_BadGroups kt_BadGroups su_lst_BadGroups (fun z => nomatch z))⟩
      | .dct, _, rfl => exact ⟨trivial, (kitOne_ref kl_BadGroups kt_BadGroups su_dct_BadGroups (fun z => nomatch z))⟩
      | .cls 43, _, rfl => exact ⟨⟨⟨pg_Rhythm, hd_Rhythm, po_Rhythm, sa_Rhythm⟩, ia_Rhythm, hin, hit, im_Rhythm⟩, (kitOne_ref kl_BadGroups kt_BadGroups su_Rhythm_BadGroups ne_Rhythm_BadGroups)⟩
      | .xc 2, _, rfl => exact ⟨⟨ec_BadPoint, eg_BadPoint, ek_BadPoint, sb_BadPoint, ia_BadPoint, hin, hit, im_BadPoint⟩, (kitOne_ref kl_BadGroups kt_BadGroups su_BadPoint_BadGroups ne_BadPoint_BadGroups)⟩
      | .xc 12, _, rfl => exact ⟨⟨ec_BadNumber, eg_BadNumber, ek_BadNumber, sb_BadNumber, ia_BadNumber, hin, hit, im_BadNumber⟩, (kitOne_ref kl_BadGroups kt_BadGroups su_BadNumber_BadGroups ne_BadNumber_BadGroups)⟩
      | .xc 13, _, rfl => exact ⟨⟨ec_BadRhythm, eg_BadRhythm, ek_BadRhythm, sb_BadRhythm, ia_BadRhythm, hin, hit, im_BadRhythm⟩, (kitOne_ref kl_BadGroups kt_BadGroups su_BadRhythm_BadGroups ne_BadRhythm_BadGroups)⟩
    isa_BadMetre := by
      intro tg b h
      match tg, b, h with
      | .non, _, rfl => exact ⟨trivial, (kitOne_ref kl_BadMetre kt_BadMetre su_non_BadMetre (fun z => nomatch z))⟩
      | .bl, _, rfl => exact ⟨trivial, (kitOne_ref kl_BadMetre kt_BadMetre su_bl_BadMetre (fun z => nomatch z))⟩
      | .int, _, rfl => exact ⟨trivial, (kitOne_ref kl_BadMetre kt_BadMetre su_int_BadMetre (fun z => nomatch z))⟩
      | .str, _, rfl => exact ⟨trivial, (kitOne_ref kl_BadMetre kt_BadMetre su_str_BadMetre (fun z => nomatch z))⟩
      | .tup, _, rfl => exact ⟨trivial, (kitOne_ref kl_BadMetre kt_BadMetre su_tup_BadMetre (fun z => nomatch z))⟩
      | .lst, _, rfl => exact ⟨trivial, (kitOne_ref kl_BadMetre kt_BadMetre su_lst_BadMetre (fun z => nomatch z))⟩
      | .dct, _, rfl => exact ⟨trivial, (kitOne_ref kl_BadMetre kt_BadMetre su_dct_BadMetre (fun z => nomatch z))⟩
      | .cls 43, _, rfl => exact ⟨⟨⟨pg_Rhythm, hd_Rhythm, po_Rhythm, sa_Rhythm⟩, ia_Rhythm, hin, hit, im_Rhythm⟩, (kitOne_ref kl_BadMetre kt_BadMetre su_Rhythm_BadMetre ne_Rhythm_BadMetre)⟩
      | .xc 2, _, rfl => exact ⟨⟨ec_BadPoint, eg_BadPoint, ek_BadPoint, sb_BadPoint, ia_BadPoint, hin, hit, im_BadPoint⟩, (kitOne_ref kl_BadMetre kt_BadMetre su_BadPoint_BadMetre ne_BadPoint_BadMetre)⟩
      | .xc 12, _, rfl => exact ⟨⟨ec_BadNumber, eg_BadNumber, ek_BadNumber, sb_BadNumber, ia_BadNumber, hin, hit, im_BadNumber⟩, (kitOne_ref kl_BadMetre kt_BadMetre su_BadNumber_BadMetre ne_BadNumber_BadMetre)⟩
      | .xc 13, _, rfl => exact ⟨⟨ec_BadRhythm, eg_BadRhythm, ek_BadRhythm, sb_BadRhythm, ia_BadRhythm, hin, hit, im_BadRhythm⟩, (kitOne_ref kl_BadMetre kt_BadMetre su_BadRhythm_BadMetre ne_BadRhythm_BadMetre)⟩
    exm_RhythmError := by
      intro e h
      match e, h with
      | 2, _ => exact exmOne_ref xb_RhythmError xc_RhythmError xt_RhythmError xs_BadPoint_RhythmError
      | 12, _ => exact exmOne_ref xb_RhythmError xc_RhythmError xt_RhythmError xs_BadNumber_RhythmError
      | 13, _ => exact exmOne_ref xb_RhythmError xc_RhythmError xt_RhythmError xs_BadRhythm_RhythmError
theorem all_mk {K : PySem.W.Frag} {h : Heap} {mg : Str → Option Value} {Pr : Program} {w : World} {fa : Addr} {C0 : Addr} {C1 : Addr} {C2 : Addr} {C12 : Addr} {C13 : Addr} {C14 : Addr} {C15 : Addr} {C16 : Addr} {C17 : Addr} {C18 : Addr} {C43 : Addr} {f0 : Addr} {oc0 : Value} {kV0 : Value} {dc0 : Value} {pm0 : Value} {cd0 : Value} {ct0 : Value} {od0 : Option Addr} {an0 : Option Addr} {sl0 : Array (Option Value)} {f1 : Addr} {oc1 : Value} {kV1 : Value} {dc1 : Value} {pm1 : Value} {cd1 : Value} {ct1 : Value} {od1 : Option Addr} {an1 : Option Addr} {sl1 : Array (Option Value)} {f2 : Addr} {oc2 : Value} {kV2 : Value} {dc2 : Value} {pm2 : Value} {cd2 : Value} {ct2 : Value} {od2 : Option Addr} {an2 : Option Addr} {sl2 : Array (Option Value)} {f3 : Addr} {oc3 : Value} {kV3 : Value} {dc3 : Value} {pm3 : Value} {cd3 : Value} {ct3 : Value} {od3 : Option Addr} {an3 : Option Addr} {sl3 : Array (Option Value)} {f4 : Addr} {oc4 : Value} {kV4 : Value} {dc4 : Value} {pm4 : Value} {cd4 : Value} {ct4 : Value} {od4 : Option Addr} {an4 : Option Addr} {sl4 : Array (Option Value)} {f5 : Addr} {oc5 : Value} {kV5 : Value} {dc5 : Value} {pm5 : Value} {cd5 : Value} {ct5 : Value} {od5 : Option Addr} {an5 : Option Addr} {sl5 : Array (Option Value)} {f6 : Addr} {oc6 : Value} {kV6 : Value} {dc6 : Value} {pm6 : Value} {cd6 : Value} {ct6 : Value} {od6 : Option Addr} {an6 : Option Addr} {sl6 : Array (Option Value)} {f7 : Addr} {oc7 : Value} {kV7 : Value} {dc7 : Value} {pm7 : Value} {cd7 : Value} {ct7 : Value} {od7 : Option Addr} {an7 : Option Addr} {sl7 : Array (Option Value)} {f8 : Addr} {oc8 : Value} {kV8 : Value} {dc8 : Value} {pm8 : Value} {cd8 : Value} {ct8 : Value} {od8 : Option Addr} {an8 : Option Addr} {sl8 : Array (Option Value)} {f9 : Addr} {oc9 : Value} {kV9 : Value} {dc9 : Value} {pm9 : Value} {cd9 : Value} {ct9 : Value} {od9 : Option Addr} {an9 : Option Addr} {sl9 : Array (Option Value)} {f10 : Addr} {oc10 : Value} {kV10 : Value} {dc10 : Value} {pm10 : Value} {cd10 : Value} {ct10 : Value} {od10 : Option Addr} {an10 : Option Addr} {sl10 : Array (Option Value)} {f11 : Addr} {oc11 : Value} {kV11 : Value} {dc11 : Value} {pm11 : Value} {cd11 : Value} {ct11 : Value} {od11 : Option Addr} {an11 : Option Addr} {sl11 : Array (Option Value)} {f12 : Addr} {oc12 : Value} {kV12 : Value} {dc12 : Value} {pm12 : Value} {cd12 : Value} {ct12 : Value} {od12 : Option Addr} {an12 : Option Addr} {sl12 : Array (Option Value)} {f13 : Addr} {oc13 : Value} {kV13 : Value} {dc13 : Value} {pm13 : Value} {cd13 : Value} {ct13 : Value} {od13 : Option Addr} {an13 : Option Addr} {sl13 : Array (Option Value)} {f14 : Addr} {oc14 : Value} {kV14 : Value} {dc14 : Value} {pm14 : Value} {cd14 : Value} {ct14 : Value} {od14 : Option Addr} {an14 : Option Addr} {sl14 : Array (Option Value)} {f15 : Addr} {oc15 : Value} {kV15 : Value} {dc15 : Value} {pm15 : Value} {cd15 : Value} {ct15 : Value} {od15 : Option Addr} {an15 : Option Addr} {sl15 : Array (Option Value)} {f16 : Addr} {oc16 : Value} {kV16 : Value} {dc16 : Value} {pm16 : Value} {cd16 : Value} {ct16 : Value} {od16 : Option Addr} {an16 : Option Addr} {sl16 : Array (Option Value)} {tc16 : Addr} {ad_SOUNDS : Addr} {od_SOUNDS : Option Addr} {it_SOUNDS : Array Value} {nn_SOUNDS : Nat} {sl_SOUNDS : Array (Option Value)} {t_MOST_NOTES : Tok} {t_MOST_PULSES : Tok} {nm_BadPoint : Str} {qn_BadPoint : Str} {bs_BadPoint : List Value} {sn_BadPoint : List Str} {sub_BadPoint : List Value} {ab_BadPoint : Bool} {col_BadPoint : Option Bool} {dd_BadPoint : Option Addr} {k0_BadPoint : Option Value} {k1_BadPoint : Option Value} {k2_BadPoint : Option Value} {k3_BadPoint : Option Value} {k5_BadPoint : Option Value} {nn_BadPoint : Addr} {nm_BadRhythm : Str} {qn_BadRhythm : Str} {bs_BadRhythm : List Value} {sn_BadRhythm : List Str} {sub_BadRhythm : List Value} {ab_BadRhythm : Bool} {col_BadRhythm : Option Bool} {dd_BadRhythm : Option Addr} {k0_BadRhythm : Option Value} {k1_BadRhythm : Option Value} {k2_BadRhythm : Option Value} {k3_BadRhythm : Option Value} {k5_BadRhythm : Option Value} {nn_BadRhythm : Addr} (X : K.In h) (G : h.Ns mainGlobals mg) (hfa : mg "law" = some (.ref fa))
  (hc0 : PySem.W.nsIn K mainGlobals "RhythmError" = some (some (.ref C0)))
  (hc1 : PySem.W.nsIn K mainGlobals "BadMetre" = some (some (.ref C1)))
  (hc2 : PySem.W.nsIn K mainGlobals "BadPoint" = some (some (.ref C2)))
  (hc12 : PySem.W.nsIn K mainGlobals "BadNumber" = some (some (.ref C12)))
  (hc13 : PySem.W.nsIn K mainGlobals "BadRhythm" = some (some (.ref C13)))
  (hc14 : PySem.W.nsIn K mainGlobals "BadRow" = some (some (.ref C14)))
  (hc15 : PySem.W.nsIn K mainGlobals "BadLoop" = some (some (.ref C15)))
  (hc16 : PySem.W.nsIn K mainGlobals "BadFigure" = some (some (.ref C16)))
  (hc17 : PySem.W.nsIn K mainGlobals "BadGroups" = some (some (.ref C17)))
  (hc18 : PySem.W.nsIn K mainGlobals "NoGrouping" = some (some (.ref C18)))
  (hc43 : PySem.W.nsIn K mainGlobals "Rhythm" = some (some (.ref C43)))
  (ha0 : PySem.W.nsIn K mainGlobals "_law_begin" = some (some (.ref f0)))
  (hl0 : K.lookup f0 = some ⟨oc0, od0, .func (PySem.W.fnOf "_law_begin" "_law_begin" (defArgs s_law_begin) (defBody s_law_begin) (defScope s_law_begin) .none kV0 dc0 pm0 an0 cd0 ct0), sl0⟩)
  (hd0 : PySem.W.codeIn K cd0 "_law_begin" = true)
  (hk0 : PySem.W.keepIn K (.ref f0) = true)
  (ha1 : PySem.W.nsIn K mainGlobals "_law_draw" = some (some (.ref f1)))
  (hl1 : K.lookup f1 = some ⟨oc1, od1, .func (PySem.W.fnOf "_law_draw" "_law_draw" (defArgs s_law_draw) (defBody s_law_draw) (defScope s_law_draw) .none kV1 dc1 pm1 an1 cd1 ct1), sl1⟩)
  (hd1 : PySem.W.codeIn K cd1 "_law_draw" = true)
  (hk1 : PySem.W.keepIn K (.ref f1) = true)
  (ha2 : PySem.W.nsIn K mainGlobals "_law_pick" = some (some (.ref f2)))
  (hl2 : K.lookup f2 = some ⟨oc2, od2, .func (PySem.W.fnOf "_law_pick" "_law_pick" (defArgs s_law_pick) (defBody s_law_pick) (defScope s_law_pick) .none kV2 dc2 pm2 an2 cd2 ct2), sl2⟩)
  (hd2 : PySem.W.codeIn K cd2 "_law_pick" = true)
  (hk2 : PySem.W.keepIn K (.ref f2) = true)
  (ha3 : PySem.W.nsIn K mainGlobals "_law_bits" = some (some (.ref f3)))
  (hl3 : K.lookup f3 = some ⟨oc3, od3, .func (PySem.W.fnOf "_law_bits" "_law_bits" (defArgs s_law_bits) (defBody s_law_bits) (defScope s_law_bits) .none kV3 dc3 pm3 an3 cd3 ct3), sl3⟩)
  (hd3 : PySem.W.codeIn K cd3 "_law_bits" = true)
  (hk3 : PySem.W.keepIn K (.ref f3) = true)
  (ha4 : PySem.W.nsIn K mainGlobals "_law_notes" = some (some (.ref f4)))
  (hl4 : K.lookup f4 = some ⟨oc4, od4, .func (PySem.W.fnOf "_law_notes" "_law_notes" (defArgs s_law_notes) (defBody s_law_notes) (defScope s_law_notes) .none kV4 dc4 pm4 an4 cd4 ct4), sl4⟩)
  (hd4 : PySem.W.codeIn K cd4 "_law_notes" = true)
  (hk4 : PySem.W.keepIn K (.ref f4) = true)
  (ha5 : PySem.W.findIn K (.ref C13) "__init__" = some (some (.ref f5)))
  (hl5 : K.lookup f5 = some ⟨oc5, od5, .func (PySem.W.fnOf "__init__" "BadRhythm.__init__" (defArgs s_BadRhythm___init__) (defBody s_BadRhythm___init__) (defScope s_BadRhythm___init__) .none kV5 dc5 pm5 an5 cd5 ct5), sl5⟩)
  (hd5 : PySem.W.codeIn K cd5 "BadRhythm.__init__" = true)
  (hk5 : PySem.W.keepIn K (.ref f5) = true)
  (ha6 : PySem.W.nsIn K mainGlobals "is_integer" = some (some (.ref f6)))
  (hl6 : K.lookup f6 = some ⟨oc6, od6, .func (PySem.W.fnOf "is_integer" "is_integer" (defArgs s_is_integer) (defBody s_is_integer) (defScope s_is_integer) .none kV6 dc6 pm6 an6 cd6 ct6), sl6⟩)
  (hd6 : PySem.W.codeIn K cd6 "is_integer" = true)
  (hk6 : PySem.W.keepIn K (.ref f6) = true)
  (ha7 : PySem.W.nsIn K mainGlobals "is_moment" = some (some (.ref f7)))
  (hl7 : K.lookup f7 = some ⟨oc7, od7, .func (PySem.W.fnOf "is_moment" "is_moment" (defArgs s_is_moment) (defBody s_is_moment) (defScope s_is_moment) .none kV7 dc7 pm7 an7 cd7 ct7), sl7⟩)
  (hd7 : PySem.W.codeIn K cd7 "is_moment" = true)
  (hk7 : PySem.W.keepIn K (.ref f7) = true)
  (ha8 : PySem.W.nsIn K mainGlobals "is_note" = some (some (.ref f8)))
  (hl8 : K.lookup f8 = some ⟨oc8, od8, .func (PySem.W.fnOf "is_note" "is_note" (defArgs s_is_note) (defBody s_is_note) (defScope s_is_note) .none kV8 dc8 pm8 an8 cd8 ct8), sl8⟩)
  (hd8 : PySem.W.codeIn K cd8 "is_note" = true)
  (hk8 : PySem.W.keepIn K (.ref f8) = true)
  (ha9 : PySem.W.findIn K (.ref C43) "__init__" = some (some (.ref f9)))
  (hl9 : K.lookup f9 = some ⟨oc9, od9, .func (PySem.W.fnOf "__init__" "Rhythm.__init__" (defArgs s_Rhythm___init__) (defBody s_Rhythm___init__) (defScope s_Rhythm___init__) .none kV9 dc9 pm9 an9 cd9 ct9), sl9⟩)
  (hd9 : PySem.W.codeIn K cd9 "Rhythm.__init__" = true)
  (hk9 : PySem.W.keepIn K (.ref f9) = true)
  (ha10 : PySem.W.findIn K (.ref C43) "span" = some (some (.ref f10)))
  (hl10 : K.lookup f10 = some ⟨oc10, od10, .func (PySem.W.fnOf "span" "Rhythm.span" (defArgs s_Rhythm_span) (defBody s_Rhythm_span) (defScope s_Rhythm_span) .none kV10 dc10 pm10 an10 cd10 ct10), sl10⟩)
  (hd10 : PySem.W.codeIn K cd10 "Rhythm.span" = true)
  (hk10 : PySem.W.keepIn K (.ref f10) = true)
  (ha11 : PySem.W.nsIn K mainGlobals "_law_near" = some (some (.ref f11)))
  (hl11 : K.lookup f11 = some ⟨oc11, od11, .func (PySem.W.fnOf "_law_near" "_law_near" (defArgs s_law_near) (defBody s_law_near) (defScope s_law_near) .none kV11 dc11 pm11 an11 cd11 ct11), sl11⟩)
  (hd11 : PySem.W.codeIn K cd11 "_law_near" = true)
  (hk11 : PySem.W.keepIn K (.ref f11) = true)
  (ha12 : PySem.W.nsIn K mainGlobals "_law_told" = some (some (.ref f12)))
  (hl12 : K.lookup f12 = some ⟨oc12, od12, .func (PySem.W.fnOf "_law_told" "_law_told" (defArgs s_law_told) (defBody s_law_told) (defScope s_law_told) .none kV12 dc12 pm12 an12 cd12 ct12), sl12⟩)
  (hd12 : PySem.W.codeIn K cd12 "_law_told" = true)
  (hk12 : PySem.W.keepIn K (.ref f12) = true)
  (ha13 : PySem.W.findIn K (.ref C2) "__init__" = some (some (.ref f13)))
  (hl13 : K.lookup f13 = some ⟨oc13, od13, .func (PySem.W.fnOf "__init__" "BadPoint.__init__" (defArgs s_BadPoint___init__) (defBody s_BadPoint___init__) (defScope s_BadPoint___init__) .none kV13 dc13 pm13 an13 cd13 ct13), sl13⟩)
  (hd13 : PySem.W.codeIn K cd13 "BadPoint.__init__" = true)
  (hk13 : PySem.W.keepIn K (.ref f13) = true)
  (ha14 : PySem.W.findIn K (.ref C43) "at" = some (some (.ref f14)))
  (hl14 : K.lookup f14 = some ⟨oc14, od14, .func (PySem.W.fnOf "at" "Rhythm.at" (defArgs s_Rhythm_at) (defBody s_Rhythm_at) (defScope s_Rhythm_at) .none kV14 dc14 pm14 an14 cd14 ct14), sl14⟩)
  (hd14 : PySem.W.codeIn K cd14 "Rhythm.at" = true)
  (hk14 : PySem.W.keepIn K (.ref f14) = true)
  (ha15 : PySem.W.nsIn K mainGlobals "_law_last" = some (some (.ref f15)))
  (hl15 : K.lookup f15 = some ⟨oc15, od15, .func (PySem.W.fnOf "_law_last" "_law_last" (defArgs s_law_last) (defBody s_law_last) (defScope s_law_last) .none kV15 dc15 pm15 an15 cd15 ct15), sl15⟩)
  (hd15 : PySem.W.codeIn K cd15 "_law_last" = true)
  (hk15 : PySem.W.keepIn K (.ref f15) = true)
  (ha16 : PySem.W.nsIn K mainGlobals "law" = some (some (.ref f16)))
  (hl16 : K.lookup f16 = some ⟨oc16, od16, .func (PySem.W.fnOf "law" "law" (defArgs s_law) (defBody s_law) (defScope s_law) .none kV16 dc16 pm16 an16 cd16 ct16), sl16⟩)
  (hcc16 : cd16 = .ref tc16)
  (hch16 : PySem.W.codeHdIn K tc16 (tabOfK K tc16) = true)
  (hco16 : K.lookup (tabOfK K tc16) = none)
  (hd16 : PySem.W.codeIn K cd16 "law" = true)
  (hk16 : PySem.W.keepIn K (.ref f16) = true)
  (hz_all : PySem.W.nsIn K mainGlobals "all" = some none)
  (hz_bool : PySem.W.nsIn K mainGlobals "bool" = some none)
  (hz_enumerate : PySem.W.nsIn K mainGlobals "enumerate" = some none)
  (hz_int : PySem.W.nsIn K mainGlobals "int" = some none)
  (hz_isinstance : PySem.W.nsIn K mainGlobals "isinstance" = some none)
  (hz_len : PySem.W.nsIn K mainGlobals "len" = some none)
  (hz_list : PySem.W.nsIn K mainGlobals "list" = some none)
  (hz_max : PySem.W.nsIn K mainGlobals "max" = some none)
  (hz_range : PySem.W.nsIn K mainGlobals "range" = some none)
  (hz_sorted : PySem.W.nsIn K mainGlobals "sorted" = some none)
  (hz_str : PySem.W.nsIn K mainGlobals "str" = some none)
  (hz_tuple : PySem.W.nsIn K mainGlobals "tuple" = some none)
  (hz_zip : PySem.W.nsIn K mainGlobals "zip" = some none)
  (hg_SOUNDS : PySem.W.nsIn K mainGlobals "SOUNDS" = some (some (.ref ad_SOUNDS)))
  (hl_SOUNDS : K.lookup ad_SOUNDS = some ⟨.type "tuple", od_SOUNDS, .seq it_SOUNDS nn_SOUNDS, sl_SOUNDS⟩)
  (hv_SOUNDS : Vals [.str "tone", .str "rest"] it_SOUNDS.toList)
  (hs_SOUNDS : it_SOUNDS.size ≤ sizeLine)
  (hg_MOST_NOTES : PySem.W.nsIn K mainGlobals "MOST_NOTES" = some (some (.int 200 t_MOST_NOTES)))
  (hg_MOST_PULSES : PySem.W.nsIn K mainGlobals "MOST_PULSES" = some (some (.int 240 t_MOST_PULSES)))
  (pg_Rhythm : PySem.W.plainGet K C43 Str.empty = true)
  (hd_Rhythm : PySem.W.hasDictIn K C43 = true)
  (po_Rhythm : PySem.W.plainOver K C43 = true)
  (sa_Rhythm : PySem.W.findIn K (.ref C43) "__setattr__" = some (some (.builtin "object.__setattr__")))
  (na_Rhythm_own_length : PySem.W.findIn K (.ref C43) "own_length" = some none)
  (na_Rhythm_own_notes : PySem.W.findIn K (.ref C43) "own_notes" = some none)
  (mk_Rhythm : PySem.W.makesIn K C43 = true)
  (fn9 : PySem.W.isFn K (.ref f9) = true)
  (kc2_Rhythm : PySem.W.keepIn K (.ref C43) = true)
  (fn14 : PySem.W.isFn K (.ref f14) = true)
  (fn10 : PySem.W.isFn K (.ref f10) = true)
  (x_BadNumber : PySem.W.excIn K C12 [.type "ValueError", .type "Exception", .type "BaseException", .type "object"] "ValueError.__new__" = true)
  (kc_BadNumber : PySem.W.keepIn K (.ref C12) = true)
  (sb_BadNumber : PySem.W.subIn K (.ref C12) (.type "BaseException") = some true)
  (ty_BadNumber : PySem.W.typeIn K (.ref C12) = some (.type "type"))
  (bx_sp : PySem.W.specialIn K (.ref C0) "__getattribute__" = some (some (.builtin "type.__getattribute__")))
  (bx_rd : PySem.W.readsIn K C0 (.type "type") = true)
  (bx_fc : PySem.W.findCls K (.ref C0) (.type "type") "__init__" = some (.val (.builtin "ValueError.__init__")))
  (xl_BadPoint : K.lookup C2 = some (excClassObj nm_BadPoint qn_BadPoint C2 nn_BadPoint bs_BadPoint [.ref C0, .type "ValueError", .type "Exception", .type "BaseException", .type "object"] true sn_BadPoint sub_BadPoint ab_BadPoint col_BadPoint dd_BadPoint k0_BadPoint k1_BadPoint k2_BadPoint k3_BadPoint k5_BadPoint "ValueError.__new__"))
  (xsa_BadPoint : PySem.W.findIn K (.ref C2) "__setattr__" = some (some (.builtin "object.__setattr__")))
  (kc_BadPoint : PySem.W.keepIn K (.ref C2) = true)
  (sb_BadPoint : PySem.W.subIn K (.ref C2) (.type "BaseException") = some true)
  (ty_BadPoint : PySem.W.typeIn K (.ref C2) = some (.type "type"))
  (xno_BadPoint : PySem.W.findIn K (.ref C2) "point" = some none)
  (xti_BadPoint : PySem.W.typeIn K (.ref f13) = some (.type "function"))
  (xl_BadRhythm : K.lookup C13 = some (excClassObj nm_BadRhythm qn_BadRhythm C13 nn_BadRhythm bs_BadRhythm [.ref C0, .type "ValueError", .type "Exception", .type "BaseException", .type "object"] true sn_BadRhythm sub_BadRhythm ab_BadRhythm col_BadRhythm dd_BadRhythm k0_BadRhythm k1_BadRhythm k2_BadRhythm k3_BadRhythm k5_BadRhythm "ValueError.__new__"))
  (xsa_BadRhythm : PySem.W.findIn K (.ref C13) "__setattr__" = some (some (.builtin "object.__setattr__")))
  (kc_BadRhythm : PySem.W.keepIn K (.ref C13) = true)
  (sb_BadRhythm : PySem.W.subIn K (.ref C13) (.type "BaseException") = some true)
  (ty_BadRhythm : PySem.W.typeIn K (.ref C13) = some (.type "type"))
  (xno_BadRhythm : PySem.W.findIn K (.ref C13) "index" = some none)
  (xti_BadRhythm : PySem.W.typeIn K (.ref f5) = some (.type "function"))
  (xga_BadRhythm : PySem.W.findIn K (.ref C13) "__getattribute__" = some (some (.builtin "BaseException.__getattribute__")))
  (xgg_BadRhythm : PySem.W.findIn K (.ref C13) "__getattr__" = some none)
  (xhd_BadRhythm : PySem.W.hasDictIn K C13 = true)
  (xga_BadPoint : PySem.W.findIn K (.ref C2) "__getattribute__" = some (some (.builtin "BaseException.__getattribute__")))
  (xgg_BadPoint : PySem.W.findIn K (.ref C2) "__getattr__" = some none)
  (xhd_BadPoint : PySem.W.hasDictIn K C2 = true)
  (hin : PySem.W.specialIn K (.builtin "object.__class__") "__get__" = some (some (.builtin "getset_descriptor.__get__")))
  (hit : PySem.W.takesIn K (.builtin "object.__class__") = some true)
  (ia_Rhythm : PySem.W.findIn K (.ref C43) "__class__" = some (some (.builtin "object.__class__")))
  (im_Rhythm : PySem.W.mroIn K C43 (.type "object") = some true)
  (ec_BadPoint : (PySem.W.clsIn K C2).isSome = true)
  (eg_BadPoint : PySem.W.findIn K (.ref C2) "__getattribute__" = some (some (.builtin "BaseException.__getattribute__")))
  (ek_BadPoint : PySem.W.findIn K (.ref C2) "__getattr__" = some none)
  (ia_BadPoint : PySem.W.findIn K (.ref C2) "__class__" = some (some (.builtin "object.__class__")))
  (im_BadPoint : PySem.W.mroIn K C2 (.type "object") = some true)
  (ec_BadNumber : (PySem.W.clsIn K C12).isSome = true)
  (eg_BadNumber : PySem.W.findIn K (.ref C12) "__getattribute__" = some (some (.builtin "BaseException.__getattribute__")))
  (ek_BadNumber : PySem.W.findIn K (.ref C12) "__getattr__" = some none)
  (ia_BadNumber : PySem.W.findIn K (.ref C12) "__class__" = some (some (.builtin "object.__class__")))
  (im_BadNumber : PySem.W.mroIn K C12 (.type "object") = some true)
  (ec_BadRhythm : (PySem.W.clsIn K C13).isSome = true)
  (eg_BadRhythm : PySem.W.findIn K (.ref C13) "__getattribute__" = some (some (.builtin "BaseException.__getattribute__")))
  (ek_BadRhythm : PySem.W.findIn K (.ref C13) "__getattr__" = some none)
  (ia_BadRhythm : PySem.W.findIn K (.ref C13) "__class__" = some (some (.builtin "object.__class__")))
  (im_BadRhythm : PySem.W.mroIn K C13 (.type "object") = some true)
  (kl_BadFigure : (PySem.W.clsIn K C16).isSome = true)
  (kt_BadFigure : PySem.W.typeIn K (.ref C16) = some (.type "type"))
  (kl_BadGroups : (PySem.W.clsIn K C17).isSome = true)
  (kt_BadGroups : PySem.W.typeIn K (.ref C17) = some (.type "type"))
  (kl_BadLoop : (PySem.W.clsIn K C15).isSome = true)
  (kt_BadLoop : PySem.W.typeIn K (.ref C15) = some (.type "type"))
  (kl_BadMetre : (PySem.W.clsIn K C1).isSome = true)
  (kt_BadMetre : PySem.W.typeIn K (.ref C1) = some (.type "type"))
  (kl_BadNumber : (PySem.W.clsIn K C12).isSome = true)
  (kt_BadNumber : PySem.W.typeIn K (.ref C12) = some (.type "type"))
  (kl_BadPoint : (PySem.W.clsIn K C2).isSome = true)
  (kt_BadPoint : PySem.W.typeIn K (.ref C2) = some (.type "type"))
  (kl_BadRhythm : (PySem.W.clsIn K C13).isSome = true)
  (kt_BadRhythm : PySem.W.typeIn K (.ref C13) = some (.type "type"))
  (kl_BadRow : (PySem.W.clsIn K C14).isSome = true)
  (kt_BadRow : PySem.W.typeIn K (.ref C14) = some (.type "type"))
  (kl_NoGrouping : (PySem.W.clsIn K C18).isSome = true)
  (kt_NoGrouping : PySem.W.typeIn K (.ref C18) = some (.type "type"))
  (sb_Rhythm_bool : PySem.W.subIn K (.ref C43) (.type "bool") = some false)
  (sb_BadPoint_bool : PySem.W.subIn K (.ref C2) (.type "bool") = some false)
  (sb_BadNumber_bool : PySem.W.subIn K (.ref C12) (.type "bool") = some false)
  (sb_BadRhythm_bool : PySem.W.subIn K (.ref C13) (.type "bool") = some false)
  (sb_Rhythm_int : PySem.W.subIn K (.ref C43) (.type "int") = some false)
  (sb_BadPoint_int : PySem.W.subIn K (.ref C2) (.type "int") = some false)
  (sb_BadNumber_int : PySem.W.subIn K (.ref C12) (.type "int") = some false)
  (sb_BadRhythm_int : PySem.W.subIn K (.ref C13) (.type "int") = some false)
  (sb_Rhythm_str : PySem.W.subIn K (.ref C43) (.type "str") = some false)
  (sb_BadPoint_str : PySem.W.subIn K (.ref C2) (.type "str") = some false)
  (sb_BadNumber_str : PySem.W.subIn K (.ref C12) (.type "str") = some false)
  (sb_BadRhythm_str : PySem.W.subIn K (.ref C13) (.type "str") = some false)
  (sb_Rhythm_tuple : PySem.W.subIn K (.ref C43) (.type "tuple") = some false)
  (sb_BadPoint_tuple : PySem.W.subIn K (.ref C2) (.type "tuple") = some false)
  (sb_BadNumber_tuple : PySem.W.subIn K (.ref C12) (.type "tuple") = some false)
  (sb_BadRhythm_tuple : PySem.W.subIn K (.ref C13) (.type "tuple") = some false)
  (sb_Rhythm_list : PySem.W.subIn K (.ref C43) (.type "list") = some false)
  (sb_BadPoint_list : PySem.W.subIn K (.ref C2) (.type "list") = some false)
  (sb_BadNumber_list : PySem.W.subIn K (.ref C12) (.type "list") = some false)
  (sb_BadRhythm_list : PySem.W.subIn K (.ref C13) (.type "list") = some false)
  (su_non_BadFigure : PySem.W.subIn K (.type "NoneType") (.ref C16) = some false)
  (su_non_BadRhythm : PySem.W.subIn K (.type "NoneType") (.ref C13) = some false)
  (su_bl_BadFigure : PySem.W.subIn K (.type "bool") (.ref C16) = some false)
  (su_bl_BadRhythm : PySem.W.subIn K (.type "bool") (.ref C13) = some false)
  (su_int_BadFigure : PySem.W.subIn K (.type "int") (.ref C16) = some false)
  (su_int_BadRhythm : PySem.W.subIn K (.type "int") (.ref C13) = some false)
  (su_str_BadFigure : PySem.W.subIn K (.type "str") (.ref C16) = some false)
  (su_str_BadRhythm : PySem.W.subIn K (.type "str") (.ref C13) = some false)
  (su_tup_BadFigure : PySem.W.subIn K (.type "tuple") (.ref C16) = some false)
  (su_tup_BadRhythm : PySem.W.subIn K (.type "tuple") (.ref C13) = some false)
  (su_lst_BadFigure : PySem.W.subIn K (.type "list") (.ref C16) = some false)
  (su_lst_BadRhythm : PySem.W.subIn K (.type "list") (.ref C13) = some false)
  (su_dct_BadFigure : PySem.W.subIn K (.type "dict") (.ref C16) = some false)
  (su_dct_BadRhythm : PySem.W.subIn K (.type "dict") (.ref C13) = some false)
  (su_Rhythm_BadFigure : PySem.W.subIn K (.ref C43) (.ref C16) = some false)
  (ne_Rhythm_BadFigure : (Value.ref C43) ≠ .ref C16)
  (su_Rhythm_BadRhythm : PySem.W.subIn K (.ref C43) (.ref C13) = some false)
  (ne_Rhythm_BadRhythm : (Value.ref C43) ≠ .ref C13)
  (su_BadPoint_BadFigure : PySem.W.subIn K (.ref C2) (.ref C16) = some false)
  (ne_BadPoint_BadFigure : (Value.ref C2) ≠ .ref C16)
  (su_BadPoint_BadRhythm : PySem.W.subIn K (.ref C2) (.ref C13) = some false)
  (ne_BadPoint_BadRhythm : (Value.ref C2) ≠ .ref C13)
  (su_BadNumber_BadFigure : PySem.W.subIn K (.ref C12) (.ref C16) = some false)
  (ne_BadNumber_BadFigure : (Value.ref C12) ≠ .ref C16)
  (su_BadNumber_BadRhythm : PySem.W.subIn K (.ref C12) (.ref C13) = some false)
  (ne_BadNumber_BadRhythm : (Value.ref C12) ≠ .ref C13)
  (su_BadRhythm_BadFigure : PySem.W.subIn K (.ref C13) (.ref C16) = some false)
  (ne_BadRhythm_BadFigure : (Value.ref C13) ≠ .ref C16)
  (su_non_BadPoint : PySem.W.subIn K (.type "NoneType") (.ref C2) = some false)
  (su_bl_BadPoint : PySem.W.subIn K (.type "bool") (.ref C2) = some false)
  (su_int_BadPoint : PySem.W.subIn K (.type "int") (.ref C2) = some false)
  (su_str_BadPoint : PySem.W.subIn K (.type "str") (.ref C2) = some false)
  (su_tup_BadPoint : PySem.W.subIn K (.type "tuple") (.ref C2) = some false)
  (su_lst_BadPoint : PySem.W.subIn K (.type "list") (.ref C2) = some false)
  (su_dct_BadPoint : PySem.W.subIn K (.type "dict") (.ref C2) = some false)
  (su_Rhythm_BadPoint : PySem.W.subIn K (.ref C43) (.ref C2) = some false)
  (ne_Rhythm_BadPoint : (Value.ref C43) ≠ .ref C2)
  (su_BadNumber_BadPoint : PySem.W.subIn K (.ref C12) (.ref C2) = some false)
  (ne_BadNumber_BadPoint : (Value.ref C12) ≠ .ref C2)
  (su_BadRhythm_BadPoint : PySem.W.subIn K (.ref C13) (.ref C2) = some false)
  (ne_BadRhythm_BadPoint : (Value.ref C13) ≠ .ref C2)
  (su_non_NoGrouping : PySem.W.subIn K (.type "NoneType") (.ref C18) = some false)
  (su_bl_NoGrouping : PySem.W.subIn K (.type "bool") (.ref C18) = some false)
  (su_int_NoGrouping : PySem.W.subIn K (.type "int") (.ref C18) = some false)
  (su_str_NoGrouping : PySem.W.subIn K (.type "str") (.ref C18) = some false)
  (su_tup_NoGrouping : PySem.W.subIn K (.type "tuple") (.ref C18) = some false)
  (su_lst_NoGrouping : PySem.W.subIn K (.type "list") (.ref C18) = some false)
  (su_dct_NoGrouping : PySem.W.subIn K (.type "dict") (.ref C18) = some false)
  (su_Rhythm_NoGrouping : PySem.W.subIn K (.ref C43) (.ref C18) = some false)
  (ne_Rhythm_NoGrouping : (Value.ref C43) ≠ .ref C18)
  (su_BadPoint_NoGrouping : PySem.W.subIn K (.ref C2) (.ref C18) = some false)
  (ne_BadPoint_NoGrouping : (Value.ref C2) ≠ .ref C18)
  (su_BadNumber_NoGrouping : PySem.W.subIn K (.ref C12) (.ref C18) = some false)
  (ne_BadNumber_NoGrouping : (Value.ref C12) ≠ .ref C18)
  (su_BadRhythm_NoGrouping : PySem.W.subIn K (.ref C13) (.ref C18) = some false)
  (ne_BadRhythm_NoGrouping : (Value.ref C13) ≠ .ref C18)
  (su_non_BadNumber : PySem.W.subIn K (.type "NoneType") (.ref C12) = some false)
  (su_bl_BadNumber : PySem.W.subIn K (.type "bool") (.ref C12) = some false)
  (su_int_BadNumber : PySem.W.subIn K (.type "int") (.ref C12) = some false)
  (su_str_BadNumber : PySem.W.subIn K (.type "str") (.ref C12) = some false)
  (su_tup_BadNumber : PySem.W.subIn K (.type "tuple") (.ref C12) = some false)
  (su_lst_BadNumber : PySem.W.subIn K (.type "list") (.ref C12) = some false)
  (su_dct_BadNumber : PySem.W.subIn K (.type "dict") (.ref C12) = some false)
  (su_Rhythm_BadNumber : PySem.W.subIn K (.ref C43) (.ref C12) = some false)
  (ne_Rhythm_BadNumber : (Value.ref C43) ≠ .ref C12)
  (su_BadPoint_BadNumber : PySem.W.subIn K (.ref C2) (.ref C12) = some false)
  (ne_BadPoint_BadNumber : (Value.ref C2) ≠ .ref C12)
  (su_BadRhythm_BadNumber : PySem.W.subIn K (.ref C13) (.ref C12) = some false)
  (ne_BadRhythm_BadNumber : (Value.ref C13) ≠ .ref C12)
  (su_non_BadRow : PySem.W.subIn K (.type "NoneType") (.ref C14) = some false)
  (su_bl_BadRow : PySem.W.subIn K (.type "bool") (.ref C14) = some false)
  (su_int_BadRow : PySem.W.subIn K (.type "int") (.ref C14) = some false)
  (su_str_BadRow : PySem.W.subIn K (.type "str") (.ref C14) = some false)
  (su_tup_BadRow : PySem.W.subIn K (.type "tuple") (.ref C14) = some false)
  (su_lst_BadRow : PySem.W.subIn K (.type "list") (.ref C14) = some false)
  (su_dct_BadRow : PySem.W.subIn K (.type "dict") (.ref C14) = some false)
  (su_Rhythm_BadRow : PySem.W.subIn K (.ref C43) (.ref C14) = some false)
  (ne_Rhythm_BadRow : (Value.ref C43) ≠ .ref C14)
  (su_BadPoint_BadRow : PySem.W.subIn K (.ref C2) (.ref C14) = some false)
  (ne_BadPoint_BadRow : (Value.ref C2) ≠ .ref C14)
  (su_BadNumber_BadRow : PySem.W.subIn K (.ref C12) (.ref C14) = some false)
  (ne_BadNumber_BadRow : (Value.ref C12) ≠ .ref C14)
  (su_BadRhythm_BadRow : PySem.W.subIn K (.ref C13) (.ref C14) = some false)
  (ne_BadRhythm_BadRow : (Value.ref C13) ≠ .ref C14)
  (su_non_BadLoop : PySem.W.subIn K (.type "NoneType") (.ref C15) = some false)
  (su_bl_BadLoop : PySem.W.subIn K (.type "bool") (.ref C15) = some false)
  (su_int_BadLoop : PySem.W.subIn K (.type "int") (.ref C15) = some false)
  (su_str_BadLoop : PySem.W.subIn K (.type "str") (.ref C15) = some false)
  (su_tup_BadLoop : PySem.W.subIn K (.type "tuple") (.ref C15) = some false)
  (su_lst_BadLoop : PySem.W.subIn K (.type "list") (.ref C15) = some false)
  (su_dct_BadLoop : PySem.W.subIn K (.type "dict") (.ref C15) = some false)
  (su_Rhythm_BadLoop : PySem.W.subIn K (.ref C43) (.ref C15) = some false)
  (ne_Rhythm_BadLoop : (Value.ref C43) ≠ .ref C15)
  (su_BadPoint_BadLoop : PySem.W.subIn K (.ref C2) (.ref C15) = some false)
  (ne_BadPoint_BadLoop : (Value.ref C2) ≠ .ref C15)
  (su_BadNumber_BadLoop : PySem.W.subIn K (.ref C12) (.ref C15) = some false)
  (ne_BadNumber_BadLoop : (Value.ref C12) ≠ .ref C15)
  (su_BadRhythm_BadLoop : PySem.W.subIn K (.ref C13) (.ref C15) = some false)
  (ne_BadRhythm_BadLoop : (Value.ref C13) ≠ .ref C15)
  (su_non_BadGroups : PySem.W.subIn K (.type "NoneType") (.ref C17) = some false)
  (su_bl_BadGroups : PySem.W.subIn K (.type "bool") (.ref C17) = some false)
  (su_int_BadGroups : PySem.W.subIn K (.type "int") (.ref C17) = some false)
  (su_str_BadGroups : PySem.W.subIn K (.type "str") (.ref C17) = some false)
  (su_tup_BadGroups : PySem.W.subIn K (.type "tuple") (.ref C17) = some false)
  (su_lst_BadGroups : PySem.W.subIn K (.type "list") (.ref C17) = some false)
  (su_dct_BadGroups : PySem.W.subIn K (.type "dict") (.ref C17) = some false)
  (su_Rhythm_BadGroups : PySem.W.subIn K (.ref C43) (.ref C17) = some false)
  (ne_Rhythm_BadGroups : (Value.ref C43) ≠ .ref C17)
  (su_BadPoint_BadGroups : PySem.W.subIn K (.ref C2) (.ref C17) = some false)
  (ne_BadPoint_BadGroups : (Value.ref C2) ≠ .ref C17)
  (su_BadNumber_BadGroups : PySem.W.subIn K (.ref C12) (.ref C17) = some false)
  (ne_BadNumber_BadGroups : (Value.ref C12) ≠ .ref C17)
  (su_BadRhythm_BadGroups : PySem.W.subIn K (.ref C13) (.ref C17) = some false)
  (ne_BadRhythm_BadGroups : (Value.ref C13) ≠ .ref C17)
  (su_non_BadMetre : PySem.W.subIn K (.type "NoneType") (.ref C1) = some false)
  (su_bl_BadMetre : PySem.W.subIn K (.type "bool") (.ref C1) = some false)
  (su_int_BadMetre : PySem.W.subIn K (.type "int") (.ref C1) = some false)
  (su_str_BadMetre : PySem.W.subIn K (.type "str") (.ref C1) = some false)
  (su_tup_BadMetre : PySem.W.subIn K (.type "tuple") (.ref C1) = some false)
  (su_lst_BadMetre : PySem.W.subIn K (.type "list") (.ref C1) = some false)
  (su_dct_BadMetre : PySem.W.subIn K (.type "dict") (.ref C1) = some false)
  (su_Rhythm_BadMetre : PySem.W.subIn K (.ref C43) (.ref C1) = some false)
  (ne_Rhythm_BadMetre : (Value.ref C43) ≠ .ref C1)
  (su_BadPoint_BadMetre : PySem.W.subIn K (.ref C2) (.ref C1) = some false)
  (ne_BadPoint_BadMetre : (Value.ref C2) ≠ .ref C1)
  (su_BadNumber_BadMetre : PySem.W.subIn K (.ref C12) (.ref C1) = some false)
  (ne_BadNumber_BadMetre : (Value.ref C12) ≠ .ref C1)
  (su_BadRhythm_BadMetre : PySem.W.subIn K (.ref C13) (.ref C1) = some false)
  (ne_BadRhythm_BadMetre : (Value.ref C13) ≠ .ref C1)
  (xb_RhythmError : PySem.W.subIn K (.ref C0) (.type "BaseException") = some true)
  (xc_RhythmError : (PySem.W.clsIn K C0).isSome = true)
  (xt_RhythmError : PySem.W.typeIn K (.ref C0) = some (.type "type"))
  (xs_BadPoint_RhythmError : PySem.W.subIn K (.ref C2) (.ref C0) = some true)
  (xs_BadNumber_RhythmError : PySem.W.subIn K (.ref C12) (.ref C0) = some true)
  (xs_BadRhythm_RhythmError : PySem.W.subIn K (.ref C13) (.ref C0) = some true) :
    ∃ (cl : Nat → Addr) (fd : FuncData) (cs : List (Addr × Addr × Str)), (∀ (s : Shared) (u : Value), BindsTo s fd ⟨[u], []⟩ [("_law_script", u)]) ∧ (∀ p ∈ cs, ∃ m ∈ (["law"] : List Str), Maker K mg m p) ∧ ∀ base : Heap, K.In base → base.Ns mainGlobals mg → (∀ p ∈ cs, LamX.TabB base mg p.1 p.2.1) → FnG Pr w ⟨K, cl, cs.map fun p => (p.2.1, p.2.2)⟩ mg base 7 fa fd ["_law_script"] F_law := by
  have T := facts X G hc0 hc1 hc2 hc12 hc13 hc14 hc15 hc16 hc17 hc18 hc43 ha0 hl0 hd0 hk0 ha1 hl1 hd1 hk1 ha2 hl2 hd2 hk2 ha3 hl3 hd3 hk3 ha4 hl4 hd4 hk4 ha5 hl5 hd5 hk5 ha6 hl6 hd6 hk6 ha7 hl7 hd7 hk7 ha8 hl8 hd8 hk8 ha9 hl9 hd9 hk9 ha10 hl10 hd10 hk10 ha11 hl11 hd11 hk11 ha12 hl12 hd12 hk12 ha13 hl13 hd13 hk13 ha14 hl14 hd14 hk14 ha15 hl15 hd15 hk15 ha16 hl16 hcc16 hch16 hco16 hd16 hk16 hz_all hz_bool hz_enumerate hz_int hz_isinstance hz_len hz_list hz_max hz_range hz_sorted hz_str hz_tuple hz_zip hg_SOUNDS hl_SOUNDS hv_SOUNDS hs_SOUNDS hg_MOST_NOTES hg_MOST_PULSES pg_Rhythm hd_Rhythm po_Rhythm sa_Rhythm na_Rhythm_own_length na_Rhythm_own_notes mk_Rhythm fn9 kc2_Rhythm fn14 fn10 x_BadNumber kc_BadNumber sb_BadNumber ty_BadNumber bx_sp bx_rd bx_fc xl_BadPoint xsa_BadPoint kc_BadPoint sb_BadPoint ty_BadPoint xno_BadPoint xti_BadPoint xl_BadRhythm xsa_BadRhythm kc_BadRhythm sb_BadRhythm ty_BadRhythm xno_BadRhythm xti_BadRhythm xga_BadRhythm xgg_BadRhythm xhd_BadRhythm xga_BadPoint xgg_BadPoint xhd_BadPoint hin hit ia_Rhythm im_Rhythm ec_BadPoint eg_BadPoint ek_BadPoint ia_BadPoint im_BadPoint ec_BadNumber eg_BadNumber ek_BadNumber ia_BadNumber im_BadNumber ec_BadRhythm eg_BadRhythm ek_BadRhythm ia_BadRhythm im_BadRhythm kl_BadFigure kt_BadFigure kl_BadGroups kt_BadGroups kl_BadLoop kt_BadLoop kl_BadMetre kt_BadMetre kl_BadNumber kt_BadNumber kl_BadPoint kt_BadPoint kl_BadRhythm kt_BadRhythm kl_BadRow kt_BadRow kl_NoGrouping kt_NoGrouping sb_Rhythm_bool sb_BadPoint_bool sb_BadNumber_bool sb_BadRhythm_bool sb_Rhythm_int sb_BadPoint_int sb_BadNumber_int sb_BadRhythm_int sb_Rhythm_str sb_BadPoint_str sb_BadNumber_str sb_BadRhythm_str sb_Rhythm_tuple sb_BadPoint_tuple sb_BadNumber_tuple sb_BadRhythm_tuple sb_Rhythm_list sb_BadPoint_list sb_BadNumber_list sb_BadRhythm_list su_non_BadFigure su_non_BadRhythm su_bl_BadFigure su_bl_BadRhythm su_int_BadFigure su_int_BadRhythm su_str_BadFigure su_str_BadRhythm su_tup_BadFigure su_tup_BadRhythm su_lst_BadFigure su_lst_BadRhythm su_dct_BadFigure su_dct_BadRhythm su_Rhythm_BadFigure ne_Rhythm_BadFigure su_Rhythm_BadRhythm ne_Rhythm_BadRhythm su_BadPoint_BadFigure ne_BadPoint_BadFigure su_BadPoint_BadRhythm ne_BadPoint_BadRhythm su_BadNumber_BadFigure ne_BadNumber_BadFigure su_BadNumber_BadRhythm ne_BadNumber_BadRhythm su_BadRhythm_BadFigure ne_BadRhythm_BadFigure su_non_BadPoint su_bl_BadPoint su_int_BadPoint su_str_BadPoint su_tup_BadPoint su_lst_BadPoint su_dct_BadPoint su_Rhythm_BadPoint ne_Rhythm_BadPoint su_BadNumber_BadPoint ne_BadNumber_BadPoint su_BadRhythm_BadPoint ne_BadRhythm_BadPoint su_non_NoGrouping su_bl_NoGrouping su_int_NoGrouping su_str_NoGrouping su_tup_NoGrouping su_lst_NoGrouping su_dct_NoGrouping su_Rhythm_NoGrouping ne_Rhythm_NoGrouping su_BadPoint_NoGrouping ne_BadPoint_NoGrouping su_BadNumber_NoGrouping ne_BadNumber_NoGrouping su_BadRhythm_NoGrouping ne_BadRhythm_NoGrouping su_non_BadNumber su_bl_BadNumber su_int_BadNumber su_str_BadNumber su_tup_BadNumber su_lst_BadNumber su_dct_BadNumber su_Rhythm_BadNumber ne_Rhythm_BadNumber su_BadPoint_BadNumber ne_BadPoint_BadNumber su_BadRhythm_BadNumber ne_BadRhythm_BadNumber su_non_BadRow su_bl_BadRow su_int_BadRow su_str_BadRow su_tup_BadRow su_lst_BadRow su_dct_BadRow su_Rhythm_BadRow ne_Rhythm_BadRow su_BadPoint_BadRow ne_BadPoint_BadRow su_BadNumber_BadRow ne_BadNumber_BadRow su_BadRhythm_BadRow ne_BadRhythm_BadRow su_non_BadLoop su_bl_BadLoop su_int_BadLoop su_str_BadLoop su_tup_BadLoop su_lst_BadLoop su_dct_BadLoop su_Rhythm_BadLoop ne_Rhythm_BadLoop su_BadPoint_BadLoop ne_BadPoint_BadLoop su_BadNumber_BadLoop ne_BadNumber_BadLoop su_BadRhythm_BadLoop ne_BadRhythm_BadLoop su_non_BadGroups su_bl_BadGroups su_int_BadGroups su_str_BadGroups su_tup_BadGroups su_lst_BadGroups su_dct_BadGroups su_Rhythm_BadGroups ne_Rhythm_BadGroups su_BadPoint_BadGroups ne_BadPoint_BadGroups su_BadNumber_BadGroups ne_BadNumber_BadGroups su_BadRhythm_BadGroups ne_BadRhythm_BadGroups su_non_BadMetre su_bl_BadMetre su_int_BadMetre su_str_BadMetre su_tup_BadMetre su_lst_BadMetre su_dct_BadMetre su_Rhythm_BadMetre ne_Rhythm_BadMetre su_BadPoint_BadMetre ne_BadPoint_BadMetre su_BadNumber_BadMetre ne_BadNumber_BadMetre su_BadRhythm_BadMetre ne_BadRhythm_BadMetre xb_RhythmError xc_RhythmError xt_RhythmError xs_BadPoint_RhythmError xs_BadNumber_RhythmError xs_BadRhythm_RhythmError
  have e := hfa.symm.trans (PySem.W.mg_of X G ha16)
  cases e
  refine ⟨_, _, [(tc16, tabOfK K tc16, ("law.<locals>.<lambda>" : Str))], fun s u => .of_eq rfl, fun p hp => ?_, fun base _ _ tb => ok_law (facts X G hc0 hc1 hc2 hc12 hc13 hc14 hc15 hc16 hc17 hc18 hc43 ha0 hl0 hd0 hk0 ha1 hl1 hd1 hk1 ha2 hl2 hd2 hk2 ha3 hl3 hd3 hk3 ha4 hl4 hd4 hk4 ha5 hl5 hd5 hk5 ha6 hl6 hd6 hk6 ha7 hl7 hd7 hk7 ha8 hl8 hd8 hk8 ha9 hl9 hd9 hk9 ha10 hl10 hd10 hk10 ha11 hl11 hd11 hk11 ha12 hl12 hd12 hk12 ha13 hl13 hd13 hk13 ha14 hl14 hd14 hk14 ha15 hl15 hd15 hk15 ha16 hl16 hcc16 hch16 hco16 hd16 hk16 hz_all hz_bool hz_enumerate hz_int hz_isinstance hz_len hz_list hz_max hz_range hz_sorted hz_str hz_tuple hz_zip hg_SOUNDS hl_SOUNDS hv_SOUNDS hs_SOUNDS hg_MOST_NOTES hg_MOST_PULSES pg_Rhythm hd_Rhythm po_Rhythm sa_Rhythm na_Rhythm_own_length na_Rhythm_own_notes mk_Rhythm fn9 kc2_Rhythm fn14 fn10 x_BadNumber kc_BadNumber sb_BadNumber ty_BadNumber bx_sp bx_rd bx_fc xl_BadPoint xsa_BadPoint kc_BadPoint sb_BadPoint ty_BadPoint xno_BadPoint xti_BadPoint xl_BadRhythm xsa_BadRhythm kc_BadRhythm sb_BadRhythm ty_BadRhythm xno_BadRhythm xti_BadRhythm xga_BadRhythm xgg_BadRhythm xhd_BadRhythm xga_BadPoint xgg_BadPoint xhd_BadPoint hin hit ia_Rhythm im_Rhythm ec_BadPoint eg_BadPoint ek_BadPoint ia_BadPoint im_BadPoint ec_BadNumber eg_BadNumber ek_BadNumber ia_BadNumber im_BadNumber ec_BadRhythm eg_BadRhythm ek_BadRhythm ia_BadRhythm im_BadRhythm kl_BadFigure kt_BadFigure kl_BadGroups kt_BadGroups kl_BadLoop kt_BadLoop kl_BadMetre kt_BadMetre kl_BadNumber kt_BadNumber kl_BadPoint kt_BadPoint kl_BadRhythm kt_BadRhythm kl_BadRow kt_BadRow kl_NoGrouping kt_NoGrouping sb_Rhythm_bool sb_BadPoint_bool sb_BadNumber_bool sb_BadRhythm_bool sb_Rhythm_int sb_BadPoint_int sb_BadNumber_int sb_BadRhythm_int sb_Rhythm_str sb_BadPoint_str sb_BadNumber_str sb_BadRhythm_str sb_Rhythm_tuple sb_BadPoint_tuple sb_BadNumber_tuple sb_BadRhythm_tuple sb_Rhythm_list sb_BadPoint_list sb_BadNumber_list sb_BadRhythm_list su_non_BadFigure su_non_BadRhythm su_bl_BadFigure su_bl_BadRhythm su_int_BadFigure su_int_BadRhythm su_str_BadFigure su_str_BadRhythm su_tup_BadFigure su_tup_BadRhythm su_lst_BadFigure su_lst_BadRhythm su_dct_BadFigure su_dct_BadRhythm su_Rhythm_BadFigure ne_Rhythm_BadFigure su_Rhythm_BadRhythm ne_Rhythm_BadRhythm su_BadPoint_BadFigure ne_BadPoint_BadFigure su_BadPoint_BadRhythm ne_BadPoint_BadRhythm su_BadNumber_BadFigure ne_BadNumber_BadFigure su_BadNumber_BadRhythm ne_BadNumber_BadRhythm su_BadRhythm_BadFigure ne_BadRhythm_BadFigure su_non_BadPoint su_bl_BadPoint su_int_BadPoint su_str_BadPoint su_tup_BadPoint su_lst_BadPoint su_dct_BadPoint su_Rhythm_BadPoint ne_Rhythm_BadPoint su_BadNumber_BadPoint ne_BadNumber_BadPoint su_BadRhythm_BadPoint ne_BadRhythm_BadPoint su_non_NoGrouping su_bl_NoGrouping su_int_NoGrouping su_str_NoGrouping su_tup_NoGrouping su_lst_NoGrouping su_dct_NoGrouping su_Rhythm_NoGrouping ne_Rhythm_NoGrouping su_BadPoint_NoGrouping ne_BadPoint_NoGrouping su_BadNumber_NoGrouping ne_BadNumber_NoGrouping su_BadRhythm_NoGrouping ne_BadRhythm_NoGrouping su_non_BadNumber su_bl_BadNumber su_int_BadNumber su_str_BadNumber su_tup_BadNumber su_lst_BadNumber su_dct_BadNumber su_Rhythm_BadNumber ne_Rhythm_BadNumber su_BadPoint_BadNumber ne_BadPoint_BadNumber su_BadRhythm_BadNumber ne_BadRhythm_BadNumber su_non_BadRow su_bl_BadRow su_int_BadRow su_str_BadRow su_tup_BadRow su_lst_BadRow su_dct_BadRow su_Rhythm_BadRow ne_Rhythm_BadRow su_BadPoint_BadRow ne_BadPoint_BadRow su_BadNumber_BadRow ne_BadNumber_BadRow su_BadRhythm_BadRow ne_BadRhythm_BadRow su_non_BadLoop su_bl_BadLoop su_int_BadLoop su_str_BadLoop su_tup_BadLoop su_lst_BadLoop su_dct_BadLoop su_Rhythm_BadLoop ne_Rhythm_BadLoop su_BadPoint_BadLoop ne_BadPoint_BadLoop su_BadNumber_BadLoop ne_BadNumber_BadLoop su_BadRhythm_BadLoop ne_BadRhythm_BadLoop su_non_BadGroups su_bl_BadGroups su_int_BadGroups su_str_BadGroups su_tup_BadGroups su_lst_BadGroups su_dct_BadGroups su_Rhythm_BadGroups ne_Rhythm_BadGroups su_BadPoint_BadGroups ne_BadPoint_BadGroups su_BadNumber_BadGroups ne_BadNumber_BadGroups su_BadRhythm_BadGroups ne_BadRhythm_BadGroups su_non_BadMetre su_bl_BadMetre su_int_BadMetre su_str_BadMetre su_tup_BadMetre su_lst_BadMetre su_dct_BadMetre su_Rhythm_BadMetre ne_Rhythm_BadMetre su_BadPoint_BadMetre ne_BadPoint_BadMetre su_BadNumber_BadMetre ne_BadNumber_BadMetre su_BadRhythm_BadMetre ne_BadRhythm_BadMetre xb_RhythmError xc_RhythmError xt_RhythmError xs_BadPoint_RhythmError xs_BadNumber_RhythmError xs_BadRhythm_RhythmError) ⟨tb _ (.head _)⟩⟩
  simp only [List.mem_cons, List.not_mem_nil, or_false] at hp
  rcases hp with rfl
  · exact ⟨"law", by simp, ⟨hch16, hco16, ⟨_, _, _, PySem.W.mg_of X G ha16, hl16, rfl, hcc16⟩⟩⟩
end
end Law

set_option Elab.async false
set_option linter.all false
set_option maxRecDepth 100000
set_option maxHeartbeats 2000000
namespace Law
open PySem PySem.Spec Fe L2
theorem begin_ok (x t : Int) (h0 : 0 ≤ t) (h1 : t ≤ 1000) : ∃ a b, F_law_begin [.p (.int x), .p (.int t)] [] = .ok (.ref 0) [st3 a b 0] := by
  refine ⟨if x - 10 ^ 18 > 0 then x - 10 ^ 18 else 0, x + 977 * t, body_rt rfl ?_⟩
  have e : cPowB 10 18 = true := by decide +kernel
  have e2 : cMulB 977 t = true := mulB_ok 20 20 (by decide) (by omega) (by decide)
  simp [startD, e, e2, cRef, mkRef, pureDs, pureD, st3]
def bitsL (l : List Nat) : Bool := l.all (fun c => c == 48 || c == 49) && (l.isEmpty || l.getLast? == some 49)
def bitsP : P → Bool
  | .str z => bitsL z.cps.toList
  | _ => false
theorem sign_in (c : Nat) (S : Sto) : dIn S (.p (.str ⟨#[c]⟩)) (.p (.str "01")) = some (.p (.bl (c == 48 || c == 49))) := by
  show some (D.p (.bl (decide (c ∈ ("01" : Str).cps.toList)))) = _
  have : ("01" : Str).cps.toList = [48, 49] := by decide +kernel
  rw [this]
  congr 3
  by_cases h1 : c = 48
  · simp [h1]
  · by_cases h2 : c = 49
    · simp [h2]
    · simp [h1, h2]
theorem str_empty (z : Str) : (z = "") ↔ z.cps.toList = [] := by
  constructor
  · rintro rfl; rfl
  · intro h
    obtain ⟨⟨l⟩⟩ := z
    cases (show l = [] from h)
    rfl
theorem str_one (c : Nat) (k : Nat) : ((⟨#[c]⟩ : Str) = ⟨#[k]⟩) ↔ c = k := by
  constructor
  · intro h
    have := congrArg Str.cps h
    simpa using this
  · rintro rfl; rfl
def sgF : P → P
  | .str y => .bl (y.cps.toList.all fun c => c == 48 || c == 49)
  | _ => .non
theorem sgF_map (z : Str) : (signs z).map sgF = z.cps.toList.map fun c => .bl (c == 48 || c == 49) := by
  simp only [signs, List.map_map]
  congr 1
  funext c
  simp [sgF]
theorem bits_ascii {l : List Nat} (h : bitsL l = true) : l.all (· < 0x110000) = true := by
  unfold bitsL at h
  simp only [Bool.and_eq_true, List.all_eq_true, Bool.or_eq_true, beq_iff_eq] at h
  simp only [List.all_eq_true, decide_eq_true_eq]
  intro c hc
  rcases h.1 c hc with e | e <;> omega
theorem cut_last (z : Str) : cutS z (some (-1)) none = ⟨(z.cps.toList.drop (z.length - 1)).toArray⟩ := by
  have hl : z.cps.toList.length = z.length := by simp [Str.length]
  unfold cutS
  have e1 : HT.sIx z.length 0 (some (-1)) = z.length - 1 := by
    show (if (-1 : Int) < 0 then (-1 + (z.length : Int)).toNat else min (-1 : Int).toNat z.length) = _
    rw [if_pos (by decide)]; omega
  have e2 : HT.sIx z.length z.length none = z.length := rfl
  rw [e1, e2]
  congr 2
  apply List.take_of_length_le
  rw [List.length_drop]
  omega
theorem drop_last {α : Type} : ∀ l : List α, l.drop (l.length - 1) = match l.getLast? with
    | some b => [b]
    | none => []
  | [] => rfl
  | [x] => rfl
  | x :: y :: l => by
    have ih := drop_last (y :: l)
    rw [List.getLast?_cons_cons]
    simp only [List.length_cons, Nat.add_sub_cancel] at ih ⊢
    exact ih
theorem last_zero (z : Str) (S : Sto) : dEq S (.p (.str (cutS z (some (-1)) none))) (.p (.str "0")) = some (.p (.bl (z.cps.toList.getLast? == some 48))) := by
  have hl : z.cps.toList.length = z.length := by simp [Str.length]
  rw [m_eq_str, cut_last, ← hl, drop_last]
  have h0 : ("0" : Str) = ⟨#[48]⟩ := rfl
  rw [h0]
  cases z.cps.toList.getLast? with
  | none =>
    have : ¬ ((⟨#[]⟩ : Str) = ⟨#[48]⟩) := fun e => by have := congrArg Str.cps e; simp at this
    simp [this]
  | some b =>
    have := str_one b 48
    by_cases hb : b = 48
    · subst hb; simp
    · have n : ¬ ((⟨#[b]⟩ : Str) = ⟨#[48]⟩) := fun e => hb (this.mp e)
      simp [n, hb]
theorem asBools_gen {α : Type} {f : α → Bool} : ∀ xs : List α, asBools (xs.map fun x => .bl (f x)) = some (xs.map f)
  | [] => rfl
  | x :: xs => by simp [asBools, asBools_gen xs]
/-! ### moments, notes -/
abbrev Mt := Int × Str
abbrev Nt := Mt × Str
def momP (m : Mt) : P := .tup [.int m.1, .str m.2]
def noteP (q : Nt) : P := .tup [momP q.1, .str q.2]
def mlt (a b : Mt) : Bool := decide (a.1 < b.1 ∨ (a.1 = b.1 ∧ a.2.cps.toList < b.2.cps.toList))
def mle (a b : Mt) : Bool := !mlt b a
theorem str_inj {x y : Str} (h : x.cps.toList = y.cps.toList) : x = y := PySem.W.str_of_cps h
theorem mom_lt (a b : Mt) : PySem.W.dataLt (.tuple [.int a.1, .str a.2]) (.tuple [.int b.1, .str b.2]) = mlt a b := by
  rw [PySem.W.dataLt_pair rfl rfl, PySem.W.dataLt_str, PySem.W.dataLt_int]
  have e1 : PyData.eqv (.int a.1) (.int b.1) = decide (a.1 = b.1) := by
    show (a.1 == b.1) = _
    rw [Bool.eq_iff_iff, beq_iff_eq, decide_eq_true_iff]
  have e2 : PyData.eqv (.str a.2) (.str b.2) = decide (a.2 = b.2) := by
    show (a.2 == b.2) = _
    rw [Bool.eq_iff_iff, beq_iff_eq, decide_eq_true_iff]
  rw [e1, e2]
  unfold mlt
  by_cases h : a.1 = b.1
  · rw [decide_eq_true h, if_pos rfl]
    by_cases z : a.2 = b.2
    · rw [decide_eq_true z, if_pos rfl, z, h]
      symm
      rw [decide_eq_false_iff_not]
      rintro (q | ⟨_, q⟩)
      · omega
      · exact List.lt_irrefl _ q
    · rw [decide_eq_false z, if_neg Bool.false_ne_true]
      have : ¬ a.1 < b.1 := by omega
      simp [this, h]
  · rw [decide_eq_false h, if_neg Bool.false_ne_true]
    simp [h]
theorem d_lt (a b : Mt) (S : Sto) : dLtD S (.p (momP a)) (.p (momP b)) = some (.p (.bl (mlt a b))) := by
  have e : dLtD S (.p (momP a)) (.p (momP b)) = some (.p (.bl (PySem.W.dataLt (.tuple [.int a.1, .str a.2]) (.tuple [.int b.1, .str b.2])))) := rfl
  rw [e, mom_lt]
theorem d_le (a b : Mt) (S : Sto) : dLeD S (.p (momP a)) (.p (momP b)) = some (.p (.bl (mle a b))) := by
  have e : dLeD S (.p (momP a)) (.p (momP b)) = some (.p (.bl (!PySem.W.dataLt (.tuple [.int b.1, .str b.2]) (.tuple [.int a.1, .str a.2])))) := rfl
  rw [e, mom_lt]
  rfl
def ascS (z : Str) : Bool := z.cps.toList.all (· < 0x110000)
theorem d_eq (a b : Mt) (ha : ascS a.2 = true) (hb : ascS b.2 = true) (S : Sto) : dEq S (.p (momP a)) (.p (momP b)) = some (.p (.bl (decide (a = b)))) ∧ dNe S (.p (momP a)) (.p (momP b)) = some (.p (.bl (!decide (a = b)))) := by
  have lay : ∀ m : Mt, ascS m.2 = true → SeqAt.shaped (.tuple [.int m.1, .str m.2]) = true := fun m hm => by
    have c1 : PyData.canLay0 (.str m.2) = true := by
      show m.2.cps.all (· < 0x110000) = true
      rw [← Array.all_toList]; exact hm
    exact (shaped_lst (pds := [.int m.1, .str m.2]) (by simp [PyData.canLayAll0, PyData.canLay0] at c1 ⊢; exact c1) (by simp [PyData.depthAll, PyData.depth])).2
  have key := eq_by (S := S) (x := .p (momP a)) (y := .p (momP b)) (p1 := .tuple [.int a.1, .str a.2]) (p2 := .tuple [.int b.1, .str b.2]) rfl rfl (lay a ha) (lay b hb) rfl
  have e : PyData.eqv (.tuple [.int a.1, .str a.2]) (.tuple [.int b.1, .str b.2]) = decide (a = b) := by
    show (a.1 == b.1 && (a.2 == b.2 && true)) = _
    rw [Bool.eq_iff_iff]
    simp [Prod.ext_iff]
  rw [e] at key
  exact key
structure OkM (L : Int) (m : Mt) : Prop where
  lo : 0 ≤ m.1
  hi : m.1 < L
  bi : bitsL m.2.cps.toList = true
  sz : m.2.length ≤ 5000
theorem OkM.asc {L : Int} {m : Mt} (h : OkM L m) : ascS m.2 = true := bits_ascii h.bi
theorem isint_ok (i : Int) (S : Sto) : pureF F_is_integer [.p (.int i)] S = .ok (.p (.bl true)) S := pure_ok [.int i] rfl rfl
theorem moment_ok0 (L : Int) (m : Mt) (h : OkM L m) : F_is_moment [.p (momP m), .p (.int L)] [] = .ok (.p (.bl true)) [] := by
  refine body_rt rfl ?_
  obtain ⟨i, z⟩ := m
  obtain ⟨h1, h2, h3, h4⟩ := h
  simp only at h1 h2 h3 h4
  have key := lc_pure (env := [some (.p (momP (i, z))), some (.p (.int L)), some (.p (.int i)), some (.p (.str z)), none]) (S := []) (i := 4) (fe := cOp dIn (cVar 4) (cP (.str "01"))) (f := sgF) (signs z) [] (by
      have : (signs z).length = z.length := by simp [signs, Str.length]
      simp; omega) (fun x hx => by
      simp only [signs, List.mem_map] at hx
      obtain ⟨c, _, rfl⟩ := hx
      simp [sign_in, sgF])
  have hall : (z.cps.toList.all fun c => c == 48 || c == 49) = true := by
    unfold bitsL at h3
    rw [Bool.and_eq_true] at h3
    exact h3.1
  have hlast : (z.cps.toList.getLast? == some 48) = false := by
    unfold bitsL at h3
    rw [Bool.and_eq_true, Bool.or_eq_true] at h3
    rcases h3.2 with q | q
    · rw [List.isEmpty_iff] at q
      rw [q]; rfl
    · rw [beq_iff_eq] at q
      rw [q]; rfl
  have ha : dAll [] (.p (.lst ((signs z).map sgF))) = some (.p (.bl true)) := by
    rw [sgF_map]
    simp only [dAll, asL, Option.bind_some, asBools_gen, Option.map_some, List.all_map]
    rw [← hall]
    rfl
  simp only [List.nil_append] at key
  have tx : ∀ S, iTxt (cVar 3) [some (.p (momP (i, z))), some (.p (.int L)), some (.p (.int i)), some (.p (.str z)), none] S = .ok (signs z, ckT) S := fun S => rfl
  have h0 : ¬ (cutS z (some (-1)) none = ("0" : Str)) := by
    have := last_zero z []
    rw [m_eq_str, hlast] at this
    simpa using this
  have t1 : t_isa_tuple (tgP (momP (i, z))) = some true := rfl
  have t2 : t_isa_str (tgP (.str z)) = some true := rfl
  have ln : ∀ S, dLen S (.p (momP (i, z))) = some (.p (.int 2)) := fun S => by
    show (if 2 ≤ sizeLine then some (D.p (.int (2 : Nat))) else none) = _
    rw [if_pos (small_sz 2 (by decide))]
    rfl
  have i0 : ∀ S, dIx S (.p (momP (i, z))) (.p (.int 0)) = some (.p (.int i)) := fun S => rfl
  have i1 : ∀ S, dIx S (.p (momP (i, z))) (.p (.int 1)) = some (.p (.str z)) := fun S => rfl
  have ii := isint_ok i
  have gt : ∀ env S, gT 2 (gCons' (gN 2) (gCons' (gN 3) gNil')) (.p (momP (i, z))) env S = some ((env.set 2 (some (.p (.int i)))).set 3 (some (.p (.str z))), S) := fun env S => rfl
  have sl : ∀ S, dSl S (.p (.str z)) (some (-1)) none = some (.p (.str (cutS z (some (-1)) none))) := fun S => by
    show (if z.length ≤ sizeLine then some (D.p (.str (cutS z (some (-1)) none))) else none) = _
    rw [if_pos (Nat.le_trans (by omega : z.length ≤ 50000) (small_sz 50000 (by decide)))]
  generalize hmp : momP (i, z) = mp at *
  have hsd : startD 5 [.p mp, .p (.int L)] = [some (.p mp), some (.p (.int L)), none, none, none] := rfl
  rw [hsd]
  simp [-m_dII, t1, t2, ln, i0, i1, ii, gt, h1, h2, tx, wipeD, key, ha, sl, dNeg, oSome, asI, h0]
theorem moment_ok (L : Int) (m : Mt) (h : OkM L m) (S : Sto) : pureF F_is_moment [.p (momP m), .p (.int L)] S = .ok (.p (.bl true)) S := pure_ok [momP m, .int L] rfl (moment_ok0 L m h)
theorem sound_in (z : Str) (h : z = "tone" ∨ z = "rest") (S : Sto) : dIn S (.p (.str z)) (.p (.tup [(.str "tone"), (.str "rest")])) = some (.p (.bl true)) := by
  have h1 : toPyD S (.p (.str z)) = some (.str z) := rfl
  have h2 : seqPy S (.p (.tup [(.str "tone"), (.str "rest")])) = some [.str "tone", .str "rest"] := rfl
  have h3 : SeqAt.shaped (.str z) = true := by rcases h with rfl | rfl <;> decide +kernel
  have h4 : PyData.canLayAll0 [.str "tone", .str "rest"] = true := by decide +kernel
  have h6 : ([PyData.str "tone", .str "rest"].any fun y => PyData.eqv y (.str z)) = true := by
    rcases h with rfl | rfl <;> decide +kernel
  have h5 : dInAny S (.p (.str z)) (.p (.tup [(.str "tone"), (.str "rest")])) = some true := by
    have : dInS (.p (.str z)) (.p (.tup [(.str "tone"), (.str "rest")])) = none := rfl
    unfold dInAny
    rw [this]
    unfold dInB
    simp only [h1, h2, h3, h4, and_self, if_true, h6]
  unfold dIn
  rw [h5]; rfl
theorem note_ok0 (L : Int) (q : Nt) (h : OkM L q.1) (hs : q.2 = "tone" ∨ q.2 = "rest") : F_is_note [.p (noteP q), .p (.int L)] [] = .ok (.p (.bl true)) [] := by
  refine body_rt rfl ?_
  have mo := moment_ok L q.1 h
  have si := sound_in q.2 hs
  have t1 : t_isa_tuple (tgP (noteP q)) = some true := rfl
  have t2 : t_isa_str (tgP (.str q.2)) = some true := rfl
  have ln : ∀ S, dLen S (.p (noteP q)) = some (.p (.int 2)) := fun S => by
    show (if 2 ≤ sizeLine then some (D.p (.int (2 : Nat))) else none) = _
    rw [if_pos (small_sz 2 (by decide))]
    rfl
  have i0 : ∀ S, dIx S (.p (noteP q)) (.p (.int 0)) = some (.p (momP q.1)) := fun S => rfl
  have i1 : ∀ S, dIx S (.p (noteP q)) (.p (.int 1)) = some (.p (.str q.2)) := fun S => rfl
  have hsd : startD 2 [.p (noteP q), .p (.int L)] = [some (.p (noteP q)), some (.p (.int L))] := rfl
  rw [hsd]
  generalize noteP q = np at *
  generalize momP q.1 = mp at *
  generalize q.2 = z at *
  simp [-m_dII, t1, t2, ln, i0, i1, mo, si]
theorem note_ok (L : Int) (q : Nt) (h : OkM L q.1) (hs : q.2 = "tone" ∨ q.2 = "rest") (S : Sto) : pureF F_is_note [.p (noteP q), .p (.int L)] S = .ok (.p (.bl true)) S := pure_ok [noteP q, .int L] rfl (note_ok0 L q h hs)
end Law

set_option Elab.async false
set_option linter.all false
set_option maxRecDepth 100000
set_option maxHeartbeats 2000000
namespace Law
open PySem PySem.Spec Fe L2
/-! ### the order of moments -/
theorem mlt_iff (a b : Mt) : mlt a b = true ↔ a.1 < b.1 ∨ (a.1 = b.1 ∧ a.2.cps.toList < b.2.cps.toList) := by
  unfold mlt; rw [decide_eq_true_iff]
theorem mlt_irr (a : Mt) : mlt a a = false := by
  rw [← Bool.not_eq_true, mlt_iff]
  rintro (h | ⟨_, h⟩)
  · omega
  · exact List.lt_irrefl _ h
theorem mlt_trans {a b c : Mt} (h1 : mlt a b = true) (h2 : mlt b c = true) : mlt a c = true := by
  rw [mlt_iff] at *
  rcases h1 with h1 | ⟨e1, h1⟩ <;> rcases h2 with h2 | ⟨e2, h2⟩
  · left; omega
  · left; omega
  · left; omega
  · right; exact ⟨by omega, List.lt_trans h1 h2⟩
theorem mlt_tri (a b : Mt) : mlt a b = true ∨ a = b ∨ mlt b a = true := by
  rw [mlt_iff, mlt_iff]
  by_cases h : a.1 < b.1
  · exact .inl (.inl h)
  by_cases h' : b.1 < a.1
  · exact .inr (.inr (.inl h'))
  have e : a.1 = b.1 := by omega
  by_cases l : a.2.cps.toList < b.2.cps.toList
  · exact .inl (.inr ⟨e, l⟩)
  by_cases l' : b.2.cps.toList < a.2.cps.toList
  · exact .inr (.inr (.inr ⟨e.symm, l'⟩))
  · refine .inr (.inl (Prod.ext e (str_inj (List.le_antisymm l' l))))
theorem mle_iff (a b : Mt) : mle a b = true ↔ mlt a b = true ∨ a = b := by
  unfold mle
  rw [Bool.not_eq_true', ← Bool.not_eq_true]
  constructor
  · intro h
    rcases mlt_tri a b with z | z | z
    · exact .inl z
    · exact .inr z
    · exact absurd z h
  · rintro (h | rfl) z
    · have := mlt_trans h z
      rw [mlt_irr] at this; cases this
    · rw [mlt_irr] at z; cases z
theorem mle_not (a b : Mt) : mle a b = false ↔ mlt b a = true := by
  unfold mle; rw [Bool.not_eq_false']
theorem mle_trans {a b c : Mt} (h1 : mle a b = true) (h2 : mle b c = true) : mle a c = true := by
  rw [mle_iff] at *
  rcases h1 with h1 | rfl
  · rcases h2 with h2 | rfl
    · exact .inl (mlt_trans h1 h2)
    · exact .inl h1
  · exact h2
theorem lt_le {a b c : Mt} (h1 : mlt a b = true) (h2 : mle b c = true) : mlt a c = true := by
  rw [mle_iff] at h2
  rcases h2 with h2 | rfl
  · exact mlt_trans h1 h2
  · exact h1
theorem le_lt {a b c : Mt} (h1 : mle a b = true) (h2 : mlt b c = true) : mlt a c = true := by
  rw [mle_iff] at h1
  rcases h1 with h1 | rfl
  · exact mlt_trans h1 h2
  · exact h2
theorem nil_cps : ("" : Str).cps.toList = [] := rfl
theorem mlt_nil (b : Int) (q : Mt) : mlt (b, "") q = true ↔ b < q.1 ∨ (b = q.1 ∧ q.2 ≠ "") := by
  rw [mlt_iff]
  simp only [nil_cps]
  have : ([] : List Nat) < q.2.cps.toList ↔ q.2 ≠ "" := by
    rw [Ne, str_empty]
    cases q.2.cps.toList with
    | nil => simp
    | cons c l => simp
  rw [this]
theorem mlt_to (q : Mt) (e : Int) : mlt q (e, "") = true ↔ q.1 < e := by
  rw [mlt_iff]
  simp only [nil_cps]
  constructor
  · rintro (h | ⟨_, h⟩)
    · exact h
    · exact absurd h (List.not_lt_nil _)
  · exact .inl
theorem mle_nil (q : Mt) (b : Int) : mle q (b, "") = true ↔ q.1 < b ∨ q = ((b, "") : Mt) := by
  rw [mle_iff, mlt_to]
def sh (k : Int) (q : Nt) : Nt := ((q.1.1 + k, q.1.2), q.2)
theorem mlt_sh (k : Int) (a b : Mt) : mlt (a.1 + k, a.2) (b.1 + k, b.2) = mlt a b := by
  rw [Bool.eq_iff_iff, mlt_iff, mlt_iff]
  simp only
  constructor
  · rintro (h | ⟨h, l⟩)
    · left; omega
    · right; exact ⟨by omega, l⟩
  · rintro (h | ⟨h, l⟩)
    · left; omega
    · right; exact ⟨by omega, l⟩
theorem mle_sh (k : Int) (a b : Mt) : mle (a.1 + k, a.2) (b.1 + k, b.2) = mle a b := by
  unfold mle; rw [mlt_sh]
theorem mlt_shr (k : Int) (a m : Mt) : mlt (a.1 + k, a.2) m = mlt a (m.1 - k, m.2) := by
  have := mlt_sh k a (m.1 - k, m.2)
  rw [show m.1 - k + k = m.1 by omega] at this
  exact this
theorem mlt_shl (k : Int) (a m : Mt) : mlt m (a.1 + k, a.2) = mlt (m.1 - k, m.2) a := by
  have := mlt_sh k (m.1 - k, m.2) a
  rw [show m.1 - k + k = m.1 by omega] at this
  exact this
theorem mle_shr (k : Int) (a m : Mt) : mle (a.1 + k, a.2) m = mle a (m.1 - k, m.2) := by
  unfold mle; rw [mlt_shl]
/-! ### notes in order -/
abbrev Srt (ns : List Nt) : Prop := ns.Pairwise fun a b => mlt a.1 b.1 = true
def upto (m : Mt) (ns : List Nt) : List Nt := ns.filter fun q => mle q.1 m
def cntN (ns : List Nt) (m : Mt) : Nat := (upto m ns).length
def sndA (ns : List Nt) (m : Mt) : Str := (((upto m ns).getLast?).map (·.2)).getD ""
theorem upto_take : ∀ (ns : List Nt) (m : Mt), Srt ns → upto m ns = ns.take (cntN ns m)
  | [], m, _ => rfl
  | q :: ns, m, h => by
    obtain ⟨h1, h2⟩ := List.pairwise_cons.mp h
    have ih := upto_take ns m h2
    unfold cntN upto at ih ⊢
    rw [List.filter_cons]
    cases hq : mle q.1 m with
    | true =>
      rw [if_pos rfl, List.length_cons, List.take_succ_cons, ← ih]
    | false =>
      rw [if_neg Bool.false_ne_true]
      have : ns.filter (fun q => mle q.1 m) = [] := by
        rw [List.filter_eq_nil_iff]
        intro x hx hxm
        have a := h1 x hx
        have b := (mle_not _ _).mp hq
        have := lt_le (mlt_trans b a) hxm
        rw [mlt_irr] at this; cases this
      rw [this]; rfl
theorem upto_split : ∀ (ns : List Nt) (c m : Mt), Srt ns → mle c m = true → upto m ns = upto c ns ++ ns.filter fun q => mlt c q.1 && mle q.1 m
  | [], c, m, _, _ => rfl
  | q :: ns, c, m, h, hcm => by
    obtain ⟨h1, h2⟩ := List.pairwise_cons.mp h
    have ih := upto_split ns c m h2 hcm
    unfold upto at ih ⊢
    cases hq : mle q.1 c with
    | true =>
      have e1 : mle q.1 m = true := mle_trans hq hcm
      have e2 : mlt c q.1 = false := by
        unfold mle at hq; simpa using hq
      simp only [List.filter_cons, hq, e1, e2, if_true, Bool.false_and, Bool.false_eq_true, if_false, List.cons_append]
      rw [ih]
    | false =>
      have z : ∀ x ∈ q :: ns, mlt c x.1 = true := by
        intro x hx
        have b := (mle_not _ _).mp hq
        rcases List.mem_cons.mp hx with rfl | hx
        · exact b
        · exact mlt_trans b (h1 x hx)
      have e1 : (q :: ns).filter (fun q => mle q.1 c) = [] := by
        rw [List.filter_eq_nil_iff]
        intro x hx hxm
        have := lt_le (z x hx) hxm
        rw [mlt_irr] at this; cases this
      rw [e1, List.nil_append]
      apply List.filter_congr
      intro x hx
      rw [z x hx, Bool.true_and]
theorem at_get (ns : List Nt) (m : Mt) (h : Srt ns) (h1 : 1 ≤ cntN ns m) : ∃ q, ns[cntN ns m - 1]? = some q ∧ q.2 = sndA ns m ∧ q ∈ ns := by
  have e := upto_take ns m h
  have hl : cntN ns m ≤ ns.length := by unfold cntN upto; exact List.length_filter_le _ _
  have hi : cntN ns m - 1 < ns.length := by omega
  refine ⟨ns[cntN ns m - 1], List.getElem?_eq_getElem hi, ?_, List.getElem_mem hi⟩
  unfold sndA
  rw [e, List.getLast?_eq_getElem?, List.length_take, Nat.min_eq_left hl, List.getElem?_take, if_pos (by omega), List.getElem?_eq_getElem hi]
  rfl
/-! ### parts -/
abbrev hdN (z : Str) : Nt := (((0 : Int), ("" : Str)), z)
def partN (ns : List Nt) (b e : Int) : List Nt := hdN (sndA ns (b, "")) :: (ns.filter fun q => mlt (b, "") q.1 && mlt q.1 (e, "")).map (sh (-b))
theorem upto_map (k : Int) (m : Mt) (ns : List Nt) : upto m (ns.map (sh k)) = (upto (m.1 - k, m.2) ns).map (sh k) := by
  unfold upto
  rw [List.filter_map]
  congr 1
  apply List.filter_congr
  intro q _
  simp only [Function.comp, sh]
  exact mle_shr k q.1 m
theorem getLast_append {α : Type} (a b : List α) : (a ++ b).getLast? = b.getLast?.or a.getLast? := List.getLast?_append
theorem part_snd (ns : List Nt) (h : Srt ns) (b e : Int) (m : Mt) (h0 : 0 ≤ m.1) (h1 : m.1 < e - b) (hne : 1 ≤ cntN ns (b, "")) : sndA (partN ns b e) m = sndA ns (m.1 + b, m.2) := by
  have c0 : mle (0, "") m = true := by
    rw [mle_iff, mlt_nil]
    by_cases z : m.1 = 0
    · by_cases y : m.2 = ""
      · right; exact Prod.ext z.symm y.symm
      · left; right; exact ⟨z.symm, y⟩
    · left; left; omega
  have c1 : mle (b, "") (m.1 + b, m.2) = true := by
    have := mle_sh b (0, "") m
    simp only [Int.zero_add] at this
    rw [this]; exact c0
  have e1 : upto m (partN ns b e) = hdN (sndA ns (b, "")) :: (ns.filter fun q => mlt (b, "") q.1 && mle q.1 (m.1 + b, m.2)).map (sh (-b)) := by
    unfold partN
    have : upto m (hdN (sndA ns (b, "")) :: (ns.filter fun q => mlt (b, "") q.1 && mlt q.1 (e, "")).map (sh (-b))) = hdN (sndA ns (b, "")) :: upto m ((ns.filter fun q => mlt (b, "") q.1 && mlt q.1 (e, "")).map (sh (-b))) := by
      unfold upto
      rw [List.filter_cons, if_pos c0]
    rw [this, upto_map]
    congr 2
    unfold upto
    rw [List.filter_filter]
    apply List.filter_congr
    intro q _
    rw [show m.1 - -b = m.1 + b by omega]
    cases hq : mle q.1 (m.1 + b, m.2) with
    | false => simp
    | true =>
      have : mlt q.1 (e, "") = true := le_lt hq ((mlt_to _ _).mpr (by simp only; omega))
      simp [this]
  have e2 := upto_split ns (b, "") (m.1 + b, m.2) h c1
  unfold sndA
  rw [e1, e2, getLast_append]
  generalize hB : (ns.filter fun q => mlt (b, "") q.1 && mle q.1 (m.1 + b, m.2)) = B
  cases hl : B.getLast? with
  | none =>
    rw [List.getLast?_eq_none_iff] at hl
    subst hl
    simp [sndA]
  | some q =>
    have : B ≠ [] := by rintro rfl; simp at hl
    rw [List.getLast?_cons, List.getLast?_map, hl]
    simp [sh]
theorem part_part (ns : List Nt) (h : Srt ns) (b e i : Int) (h0 : 0 ≤ i) (h1 : i < e - b) (hne : 1 ≤ cntN ns (b, "")) : partN (partN ns b e) i (e - b) = partN ns (b + i) e := by
  have hs := part_snd ns h b e (i, "") h0 h1 hne
  simp only at hs
  have e0 : partN (partN ns b e) i (e - b) = hdN (sndA (partN ns b e) (i, "")) :: ((partN ns b e).filter fun q => mlt (i, "") q.1 && mlt q.1 (e - b, "")).map (sh (-i)) := rfl
  rw [e0, hs, Int.add_comm i b]
  have e1 : partN ns (b + i) e = hdN (sndA ns (b + i, "")) :: (ns.filter fun q => mlt (b + i, "") q.1 && mlt q.1 (e, "")).map (sh (-(b + i))) := rfl
  rw [e1]
  congr 1
  unfold partN
  have f0 : mlt (i, "") (0, "") = false := by
    rw [← Bool.not_eq_true, mlt_nil]
    rintro (z | ⟨_, z⟩)
    · simp only at z; omega
    · exact z rfl
  rw [List.filter_cons]
  simp only [f0, Bool.false_and, Bool.false_eq_true, if_false]
  rw [List.filter_map, List.map_map, List.filter_filter]
  have f1 : ((sh (-i)) ∘ (sh (-b))) = sh (-(b + i)) := by
    funext q
    simp only [Function.comp, sh]
    congr 2
    omega
  rw [f1]
  congr 1
  apply List.filter_congr
  intro q _
  simp only [Function.comp, sh]
  rw [mlt_shl, mlt_shr]
  simp only
  rw [show i - -b = b + i by omega, show e - b - -b = e by omega]
  cases hq : mlt (b + i, "") q.1 with
  | false => simp
  | true =>
    have : mlt (b, "") q.1 = true := by
      rw [mlt_nil] at hq ⊢
      rcases hq with z | ⟨z, y⟩
      · left; omega
      · by_cases hi : i = 0
        · right; exact ⟨by omega, y⟩
        · left; omega
    simp [this]
end Law

set_option Elab.async false
set_option linter.all false
set_option maxRecDepth 100000
set_option maxHeartbeats 2000000
namespace Law
open PySem PySem.Spec Fe L2
def sndB (z : Str) : Prop := z = "tone" ∨ z = "rest"
structure Ok (L : Int) (ns : List Nt) : Prop where
  l1 : 1 ≤ L
  l2 : L ≤ 240
  hd : ∃ z r, ns = hdN z :: r
  ok : ∀ q ∈ ns, OkM L q.1 ∧ sndB q.2
  so : Srt ns
  ln : ns.length ≤ 200
theorem le_zero (m : Mt) (h : 0 ≤ m.1) : mle ((0 : Int), ("" : Str)) m = true := by
  rw [mle_iff, mlt_nil]
  by_cases z : m.1 = 0
  · by_cases y : m.2 = ""
    · right; exact Prod.ext z.symm y.symm
    · left; right; exact ⟨z.symm, y⟩
  · left; left; omega
theorem ok_cnt {L : Int} {ns : List Nt} (h : Ok L ns) (m : Mt) (h0 : 0 ≤ m.1) : 1 ≤ cntN ns m := by
  obtain ⟨z, r, rfl⟩ := h.hd
  unfold cntN upto
  rw [List.filter_cons, if_pos (le_zero m h0)]
  simp
theorem ok_snd {L : Int} {ns : List Nt} (h : Ok L ns) (m : Mt) (h0 : 0 ≤ m.1) : sndB (sndA ns m) := by
  obtain ⟨q, _, h2, h3⟩ := at_get ns m h.so (ok_cnt h m h0)
  rw [← h2]
  exact (h.ok q h3).2
theorem okM_nil (L b : Int) (h0 : 0 ≤ b) (h1 : b < L) : OkM L (b, "") := ⟨h0, h1, rfl, (by decide : ("" : Str).length ≤ 5000)⟩
theorem ok_part {L : Int} {ns : List Nt} (h : Ok L ns) {b e : Int} (h0 : 0 ≤ b) (h1 : b < e) (h2 : e ≤ L) : Ok (e - b) (partN ns b e) := by
  have l2 := h.l2
  have mem : ∀ q ∈ (ns.filter fun q => mlt (b, "") q.1 && mlt q.1 (e, "")).map (sh (-b)), ∃ p ∈ ns, q = sh (-b) p ∧ mlt (b, "") p.1 = true ∧ mlt p.1 (e, "") = true := by
    intro q hq
    obtain ⟨p, hp, rfl⟩ := List.mem_map.mp hq
    obtain ⟨hp1, hp2⟩ := List.mem_filter.mp hp
    rw [Bool.and_eq_true] at hp2
    exact ⟨p, hp1, rfl, hp2.1, hp2.2⟩
  refine ⟨by omega, by omega, ⟨_, _, rfl⟩, fun q hq => ?_, ?_, ?_⟩
  · rcases List.mem_cons.mp hq with rfl | hq
    · exact ⟨okM_nil (e - b) 0 (by omega) (by omega), ok_snd h (b, "") h0⟩
    · obtain ⟨p, hp, rfl, p1, p2⟩ := mem q hq
      obtain ⟨⟨q1, q2, q3, q4⟩, q5⟩ := h.ok p hp
      rw [mlt_nil] at p1
      rw [mlt_to] at p2
      refine ⟨⟨?_, ?_, q3, q4⟩, q5⟩
      · show 0 ≤ p.1.1 + -b
        rcases p1 with z | ⟨z, _⟩ <;> omega
      · show p.1.1 + -b < e - b
        omega
  · refine List.pairwise_cons.mpr ⟨fun q hq => ?_, ?_⟩
    · obtain ⟨p, hp, rfl, p1, p2⟩ := mem q hq
      show mlt (0, "") (p.1.1 + -b, p.1.2) = true
      rw [mlt_shl]
      simp only
      rw [show (0 : Int) - -b = b by omega]
      exact p1
    · refine List.Pairwise.map _ ?_ (List.Pairwise.filter _ h.so)
      intro p q hpq
      show mlt (p.1.1 + -b, p.1.2) (q.1.1 + -b, q.1.2) = true
      rw [mlt_sh]
      exact hpq
  · have ln := h.ln
    obtain ⟨z, r, rfl⟩ := h.hd
    unfold partN
    have f0 : mlt (b, "") (hdN z).1 = false := by
      rw [← Bool.not_eq_true, mlt_nil]
      rintro (z | ⟨_, z⟩)
      · simp only at z; omega
      · exact z rfl
    rw [List.filter_cons]
    simp only [f0, Bool.false_and, Bool.false_eq_true, if_false, List.length_cons, List.length_map]
    have := List.length_filter_le (fun q : Nt => mlt (b, "") q.1 && mlt q.1 (e, "")) r
    simp only [List.length_cons] at ln
    omega
/-! ### joined -/
def joinN (L : Int) (ns ms : List Nt) : List Nt := ns ++ ms.map (sh L)
theorem ok_join {L M : Int} {ns ms : List Nt} (h : Ok L ns) (h' : Ok M ms) (h1 : L + M ≤ 240) (h2 : ns.length + ms.length ≤ 200) : Ok (L + M) (joinN L ns ms) := by
  have a1 := h.l1
  have b1 := h'.l1
  refine ⟨by omega, h1, ?_, fun q hq => ?_, ?_, ?_⟩
  · obtain ⟨z, r, rfl⟩ := h.hd
    exact ⟨z, r ++ ms.map (sh L), rfl⟩
  · rcases List.mem_append.mp hq with hq | hq
    · obtain ⟨⟨q1, q2, q3, q4⟩, q5⟩ := h.ok q hq
      exact ⟨⟨q1, by omega, q3, q4⟩, q5⟩
    · obtain ⟨p, hp, rfl⟩ := List.mem_map.mp hq
      obtain ⟨⟨q1, q2, q3, q4⟩, q5⟩ := h'.ok p hp
      refine ⟨⟨?_, ?_, q3, q4⟩, q5⟩
      · show 0 ≤ p.1.1 + L
        omega
      · show p.1.1 + L < L + M
        omega
  · refine List.pairwise_append.mpr ⟨h.so, ?_, fun a ha b hb => ?_⟩
    · refine List.Pairwise.map _ ?_ h'.so
      intro p q hpq
      show mlt (p.1.1 + L, p.1.2) (q.1.1 + L, q.1.2) = true
      rw [mlt_sh]
      exact hpq
    · obtain ⟨p, hp, rfl⟩ := List.mem_map.mp hb
      have h3 := (h.ok a ha).1.hi
      have h4 := (h'.ok p hp).1.lo
      rw [mlt_iff]
      left
      show a.1.1 < p.1.1 + L
      omega
  · unfold joinN
    rw [List.length_append, List.length_map]
    exact h2
theorem join_snd {L l : Int} {ns : List Nt} (h : Ok L ns) (h0 : 0 < l) (h1 : l < L) (m : Mt) (m0 : 0 ≤ m.1) (m1 : m.1 < L) : sndA (joinN l (partN ns 0 l) (partN ns l L)) m = sndA ns m := by
  have hA := ok_part h (b := 0) (e := l) (by omega) h0 (by omega)
  have hB := ok_part h (b := l) (e := L) (by omega) h1 (by omega)
  have e1 : upto m (joinN l (partN ns 0 l) (partN ns l L)) = upto m (partN ns 0 l) ++ (upto (m.1 - l, m.2) (partN ns l L)).map (sh l) := by
    rw [← upto_map]
    unfold joinN upto
    rw [List.filter_append]
  by_cases hm : m.1 < l
  · have e2 : upto (m.1 - l, m.2) (partN ns l L) = [] := by
      unfold upto
      rw [List.filter_eq_nil_iff]
      intro q hq
      have := (hB.ok q hq).1.lo
      rw [mle_iff]
      intro z
      rcases z with z | z
      · rw [mlt_iff] at z
        rcases z with z | ⟨z, _⟩
        · simp only at z; omega
        · simp only at z; omega
      · have := congrArg Prod.fst z
        simp only at this
        omega
    have ps := part_snd ns h.so 0 l m m0 (by omega) (ok_cnt h _ (Int.le_refl _))
    have em : ((m.1 + 0, m.2) : Mt) = m := by
      rw [Int.add_zero]
    rw [em] at ps
    rw [← ps]
    unfold sndA
    rw [e1, e2]
    simp
  · have ps := part_snd ns h.so l L (m.1 - l, m.2) (by simp only; omega) (by simp only; omega) (ok_cnt h _ (by simp only; omega))
    have em : ((m.1 - l + l, m.2) : Mt) = m := by
      rw [show m.1 - l + l = m.1 by omega]
    simp only at ps
    rw [em] at ps
    rw [← ps]
    have c := ok_cnt hB (m.1 - l, m.2) (by simp only; omega)
    unfold cntN at c
    unfold sndA
    rw [e1, getLast_append, List.getLast?_map]
    generalize upto (m.1 - l, m.2) (partN ns l L) = B at *
    obtain ⟨q, hq⟩ : ∃ q, B.getLast? = some q := by
      cases hl : B.getLast? with
      | none => rw [List.getLast?_eq_none_iff] at hl; subst hl; simp at c
      | some q => exact ⟨q, rfl⟩
    rw [hq]
    simp [sh]
/-! ### what the law cuts -/
theorem early_eq (ns : List Nt) (b : Int) : (ns.filter fun q => decide (q.1.1 < b) || decide (q.1 = ((b, "") : Mt))) = upto (b, "") ns := by
  unfold upto
  apply List.filter_congr
  intro q _
  rw [Bool.eq_iff_iff, mle_nil, Bool.or_eq_true, decide_eq_true_iff, decide_eq_true_iff]
theorem late_eq (ns : List Nt) (b e : Int) : (((ns.filter fun q => decide (b ≤ q.1.1) && decide (q.1.1 < e)).map (sh (-b))).filter fun q => !decide (q.1 = (((0 : Int), ("" : Str)) : Mt))) = (ns.filter fun q => mlt (b, "") q.1 && mlt q.1 (e, "")).map (sh (-b)) := by
  rw [List.filter_map, List.filter_filter]
  congr 1
  apply List.filter_congr
  intro q _
  show (!decide ((sh (-b) q).1 = (((0 : Int), ("" : Str)) : Mt)) && (decide (b ≤ q.1.1) && decide (q.1.1 < e))) = _
  rw [Bool.eq_iff_iff, Bool.and_eq_true, Bool.and_eq_true, Bool.and_eq_true, mlt_nil, mlt_to, Bool.not_eq_true', decide_eq_false_iff_not, decide_eq_true_iff, decide_eq_true_iff]
  constructor
  · rintro ⟨z, h1, h2⟩
    refine ⟨?_, h2⟩
    by_cases hb : b = q.1.1
    · right
      refine ⟨hb, fun y => z (Prod.ext (by show q.1.1 + -b = 0; omega) y)⟩
    · left; omega
  · rintro ⟨z, h2⟩
    refine ⟨fun y => ?_, ?_, h2⟩
    · have y1 := congrArg Prod.fst y
      have y2 := congrArg Prod.snd y
      simp only [sh] at y1 y2
      rcases z with z | ⟨_, z⟩
      · omega
      · exact z y2
    · rcases z with z | ⟨z, _⟩ <;> omega
/-! ### sounds at the moments of a grid -/
def gridL : List Str := ["", "001", "01", "011", "1", "101", "11", "111"]
def gridS (j : Nat) : Str := gridL.getD j ""
def sndsL (L : Nat) (ns : List Nt) : List Str := (List.range (8 * L)).map fun k => sndA ns (((k / 8 : Nat) : Int), gridS (k % 8))
theorem snds_part {L : Int} {ns : List Nt} (h : Ok L ns) (b e : Nat) (h1 : b < e) (h2 : (e : Int) ≤ L) : sndsL (e - b) (partN ns b e) = ((sndsL L.toNat ns).drop (8 * b)).take (8 * (e - b)) := by
  apply List.ext_getElem?
  intro i
  unfold sndsL
  rw [List.getElem?_take, List.getElem?_drop, List.getElem?_map, List.getElem?_map]
  by_cases hi : i < 8 * (e - b)
  · have hl : L.toNat = L := Int.toNat_of_nonneg (by omega)
    rw [if_pos hi, List.getElem?_range hi, List.getElem?_range (by omega)]
    simp only [Option.map_some]
    congr 1
    have ps := part_snd ns h.so b e (((i / 8 : Nat) : Int), gridS (i % 8)) (Int.natCast_nonneg _) (by simp only; omega) (ok_cnt h _ (by simp only; omega))
    rw [ps]
    have d1 : (8 * b + i) / 8 = i / 8 + b := by omega
    have d2 : (8 * b + i) % 8 = i % 8 := by omega
    rw [d1, d2, Int.natCast_add]
  · rw [if_neg hi, List.getElem?_eq_none (by simpa using hi)]
    rfl
theorem snds_join {L : Int} {ns : List Nt} (h : Ok L ns) (l : Nat) (h0 : 0 < l) (h1 : (l : Int) < L) : sndsL L.toNat (joinN l (partN ns 0 l) (partN ns l L)) = sndsL L.toNat ns := by
  unfold sndsL
  apply List.map_congr_left
  intro k hk
  have := List.mem_range.mp hk
  exact join_snd h (by omega) h1 _ (Int.natCast_nonneg _) (by simp only; omega)
end Law

set_option Elab.async false
set_option linter.all false
set_option maxRecDepth 100000
set_option maxHeartbeats 2000000
namespace Law
open PySem PySem.Spec Fe L2
/-! ### the readings, cut -/
noncomputable section
abbrev zi0 : CS := (sIf (cOr (cNot (cTr (cCall (pureF F_is_integer) [] (cCons (cVar 1) cNil)))) (cNot (cTB (cChain dLe dLe (cP (.int 1)) (cVar 1) (cP (.int 240)))))) (sRaise 12) sNx)
abbrev zi1 : CS := (sIf (cOr (cNot (cTr (cIsi t_isa_list_tuple (cVar 2)))) (cTB (cOp dEq (cApp (on1 dLen) (cCons (cVar 2) cNil)) (cP (.int 0))))) (sRaiseX 13 "index" (cCons (cP (.int 0)) cNil)) sNx)
abbrev zi2 : CS := (sSet 3 (cP .non))
abbrev zi3 : CS := (sIf (cOr (cTB (cOp dEq (cVar 4) (cP (.int 200)))) (cNot (cTr (cCall (pureF F_is_note) [] (cCons (cVar 5) (cCons (cVar 1) cNil)))))) (sRaiseX 13 "index" (cCons (cVar 4) cNil)) sNx)
abbrev zi4 : CS := (sIf (cOr (cAnd (cTB (cOp dIs (cVar 3) (cP .non))) (cTB (cOp dNe (cOp dIx (cVar 5) (cP (.int 0))) (cTup (cCons (cP (.int 0)) (cCons (cP (.str "")) cNil)))))) (cAnd (cTB (cOp dIsNot (cVar 3) (cP .non))) (cTB (cOp dLeD (cOp dIx (cVar 5) (cP (.int 0))) (cVar 3))))) (sRaiseX 13 "index" (cCons (cVar 4) cNil)) sNx)
abbrev zi5 : CS := (sSet 3 (cOp dIx (cVar 5) (cP (.int 0))))
abbrev zib0 : CS := (sSeq zi3 (sSeq zi4 zi5))
abbrev zi6 : CS := (sFor (iEnumP (cCons (cVar 2) cNil)) (gT 2 (gCons' (gN 4) (gCons' (gN 5) gNil'))) zib0)
abbrev zi7 : CS := (sFldP 43 "own_length" (cVar 0) (cVar 1))
abbrev zi8 : CS := (sFldP 43 "own_notes" (cVar 0) (cApp (on1 dTuple) (cCons (cVar 2) cNil)))
abbrev zib1 : CS := (sSeq zi0 (sSeq zi1 (sSeq zi2 (sSeq zi6 (sSeq zi7 zi8)))))
end
theorem zi_eq : F_Rhythm___init__ = cBody 3 6 zib1 := rfl
noncomputable section
abbrev za0 : CS := (sIf (cNot (cTr (cCall (pureF F_is_moment) [] (cCons (cVar 1) (cCons (cFld 43 "own_length" (cVar 0)) cNil))))) (sRaiseX 2 "point" (cCons (cVar 1) cNil)) sNx)
abbrev za1 : CS := (sRet (cOp dSub (cApp (on1 dLen) (cCons (cLc (iSeq (cFld 43 "own_notes" (cVar 0))) (gN 2) (cTB (cOp dLeD (cOp dIx (cVar 2) (cP (.int 0))) (cVar 1))) (cVar 2) [2]) cNil)) (cP (.int 1))))
abbrev zab0 : CS := (sSeq za0 za1)
end
theorem za_eq : F_Rhythm_at = cBody 2 3 zab0 := rfl
noncomputable section
abbrev zv0 : CS := (sIf (cOr (cNot (cTr (cCall (pureF F_is_integer) [] (cCons (cVar 1) cNil)))) (cNot (cTB (cChain dLe dLt (cP (.int 0)) (cVar 1) (cApp (on1 dLen) (cCons (cFld 43 "own_notes" (cVar 0)) cNil)))))) (sRaise 12) sNx)
abbrev zv1 : CS := (sSet 2 (cOp dIx (cOp dIx (cFld 43 "own_notes" (cVar 0)) (cVar 1)) (cP (.int 0))))
abbrev zv2 : CS := (sIf (cTB (cOp dEq (cOp dAdd (cVar 1) (cP (.int 1))) (cApp (on1 dLen) (cCons (cFld 43 "own_notes" (cVar 0)) cNil)))) (sRet (cTup (cCons (cVar 2) (cCons (cTup (cCons (cFld 43 "own_length" (cVar 0)) (cCons (cP (.str "")) cNil))) cNil)))) sNx)
abbrev zv3 : CS := (sRet (cTup (cCons (cVar 2) (cCons (cOp dIx (cOp dIx (cFld 43 "own_notes" (cVar 0)) (cOp dAdd (cVar 1) (cP (.int 1)))) (cP (.int 0))) cNil))))
abbrev zvb0 : CS := (sSeq zv0 (sSeq zv1 (sSeq zv2 zv3)))
end
theorem zv_eq : F_Rhythm_span = cBody 2 3 zvb0 := rfl
noncomputable section
abbrev zy0 : CS := (sAsg (gT 2 (gCons' (gN 3) (gCons' (gN 4) gNil'))) (cVar 1))
abbrev zy1 : CS := (sSet 5 (cCall (borrowF F_law_draw) [] (cCons (cVar 0) (cCons (cP (.int 4)) cNil))))
abbrev zy2 : CS := (sIf (cTB (cOp dEq (cVar 5) (cP (.int 0)))) (sRet (cVar 1)) sNx)
abbrev zy3 : CS := (sIf (cTB (cOp dEq (cVar 5) (cP (.int 1)))) (sRet (cTup (cCons (cVar 3) (cCons (cOp dAdd (cOp dAdd (cVar 4) (cOp dMulT (cP (.str "0")) (cCall (borrowF F_law_draw) [] (cCons (cVar 0) (cCons (cP (.int 5)) cNil))))) (cP (.str "1"))) cNil)))) sNx)
abbrev zy4 : CS := (sIf (cAnd (cTB (cOp dEq (cVar 5) (cP (.int 2)))) (cTB (cOp dNe (cVar 4) (cP (.str ""))))) (sRet (cTup (cCons (cVar 3) (cCons (cOp dAdd (cOp dAdd (cSl (cVar 4) oNone (oSome (cUn dNeg (cP (.int 1))))) (cP (.str "0"))) (cOp dMulT (cP (.str "1")) (cOp dAdd (cP (.int 1)) (cCall (borrowF F_law_draw) [] (cCons (cVar 0) (cCons (cP (.int 4)) cNil)))))) cNil)))) sNx)
abbrev zy5 : CS := (sRet (cTup (cCons (cCall (borrowF F_law_draw) [] (cCons (cVar 0) (cCons (cVar 2) cNil))) (cCons (cCall (borrowF F_law_bits) [] (cCons (cVar 0) (cCons (cP (.int 6)) cNil))) cNil))))
abbrev zyb0 : CS := (sSeq zy0 (sSeq zy1 (sSeq zy2 (sSeq zy3 (sSeq zy4 zy5)))))
end
theorem zy_eq : F_law_near = cBody 3 6 zyb0 := rfl
noncomputable section
abbrev zl0 : CS := (sSet 2 (cP (.int 0)))
abbrev zl1 : CS := (sIf (cOr (cTB (cOp dLt (cOp dIx (cVar 4) (cP (.int 0))) (cOp dIx (cVar 1) (cP (.int 0))))) (cAnd (cTB (cOp dEq (cOp dIx (cVar 4) (cP (.int 0))) (cOp dIx (cVar 1) (cP (.int 0))))) (cTB (cOp dLeD (cOp dIx (cVar 4) (cP (.int 1))) (cOp dIx (cVar 1) (cP (.int 1))))))) (sSet 2 (cVar 3)) sNx)
abbrev zlb0 : CS := zl1
abbrev zl2 : CS := (sFor (iEnumP (cCons (cVar 0) cNil)) (gT 2 (gCons' (gN 3) (gCons' (gN 4) gNil'))) zlb0)
abbrev zl3 : CS := (sRet (cVar 2))
abbrev zlb1 : CS := (sSeq zl0 (sSeq zl2 zl3))
end
theorem zl_eq : F_law_last = cBody 2 5 zlb1 := rfl
noncomputable section
abbrev w0 : CS := (sSet 3 (cCall (freshF F_law_begin) [] (cCons (cVar 2) (cCons (cVar 1) cNil))))
abbrev w1 : CS := (sSet 4 (cOp dAdd (cP (.int 1)) (cCall (borrowF F_law_draw) [] (cCons (cVar 3) (cCons (cP (.int 8)) cNil)))))
abbrev w2 : CS := (sSet 5 (cCall (borrowF F_law_notes) [] (cCons (cVar 3) (cCons (cVar 4) (cCons (cP (.int 9)) (cCons (cP (.int 4)) cNil))))))
abbrev w3 : CS := (sAsg (gT 2 (gCons' (gN 6) (gCons' (gN 7) gNil'))) (cTup (cCons (cCall (mkF 43 F_Rhythm___init__) [] (cCons (cVar 4) (cCons (cVar 5) cNil))) (cCons (cLc (iSeq (cVar 5)) (gT 2 (gCons' (gN 8) (gCons' (gN 9) gNil'))) cYes (cVar 8) [8, 9]) cNil))))
abbrev w4 : CS := (sSet 10 (cOp dAdd (cSl (cVar 7) (oSome (cP (.int 1))) oNone) (cLst (cCons (cTup (cCons (cVar 4) (cCons (cP (.str "")) cNil))) cNil))))
abbrev w5 : CS := (sIf (cTB (cOp dNe (cLc (iRange1 (cCons (cApp (on1 dLen) (cCons (cVar 5) cNil)) cNil)) (gN 11) cYes (cMeth 43 "span" (pureF F_Rhythm_span) [] (cVar 6) (cCons (cVar 11) cNil)) [11]) (cLz (cCons (cVar 7) (cCons (cVar 10) cNil))))) (sRet (cP (.bl false))) sNx)
abbrev w6 : CS := (sIf (cTB (cOp dNe (cMethK 43 "span" 1 (pureF F_Rhythm_span) [] (cVar 6) (cCons (cP (.int 0)) cNil)) (cTup (cCons (cOp dIx (cVar 7) (cP (.int 0))) (cCons (cOp dIx (cVar 10) (cP (.int 0))) cNil))))) (sRet (cP (.bl false))) sNx)
abbrev w7 : CS := (sSet 8 (cCall (borrowF F_law_near) [] (cCons (cVar 3) (cCons (cCall (borrowF F_law_pick) [] (cCons (cVar 3) (cCons (cVar 7) cNil))) (cCons (cVar 4) cNil)))))
abbrev w8 : CS := (sIf (cOr (cTB (cOp dNe (cMeth 43 "at" (pureF F_Rhythm_at) [] (cVar 6) (cCons (cVar 8) cNil)) (cCall (pureF F_law_last) [] (cCons (cVar 7) (cCons (cVar 8) cNil))))) (cTB (cOp dNe (cMethK 43 "at" 1 (pureF F_Rhythm_at) [] (cVar 6) (cCons (cVar 8) cNil)) (cCall (pureF F_law_last) [] (cCons (cVar 7) (cCons (cVar 8) cNil)))))) (sRet (cP (.bl false))) sNx)
abbrev wb0 : CS := (sSeq w7 w8)
abbrev w9 : CS := (sFor (iRange1 (cCons (cP (.int 12)) cNil)) (gN 11) wb0)
abbrev w10 : CS := (sSet 12 (cLst (cCons (cP .non) (cCons (cTup (cCons (cVar 4) (cCons (cP (.str "")) cNil))) (cCons (cTup (cCons (cP (.int 0)) (cCons (cP (.str "0")) cNil))) (cCons (cTup (cCons (cUn dNeg (cP (.int 1))) (cCons (cP (.str "")) cNil))) (cCons (cP (.str "0")) (cCons (cTup (cCons (cP (.int 0)) cNil)) (cCons (cTup (cCons (cP (.bl false)) (cCons (cP (.str "")) cNil))) (cCons (cLst (cCons (cP (.int 0)) (cCons (cP (.str "")) cNil))) (cCons (cTup (cCons (cP (.int 0)) (cCons (cP (.str "12")) cNil))) (cCons (cTup (cCons (cOp dAdd (cVar 4) (cP (.int 3))) (cCons (cP (.str "1")) cNil))) (cCons (cP (.int 0)) cNil)))))))))))))
abbrev w11 : CS := (sSet 13 (cCall (borrowF F_law_pick) [] (cCons (cVar 3) (cCons (cOp dAdd (cVar 12) (cLst (cCons (cTup (cCons (cP (.int 0)) (cCons (cP .non) cNil))) (cCons (cTup (cCons (cP (.int 0)) (cCons (cP (.str "")) (cCons (cP (.str "")) cNil)))) (cCons (cD0) (cCons (cTup (cCons (cP (.int 0)) (cCons (cP (.str "10")) cNil))) cNil)))))) cNil))))
abbrev w12 : CS := (sIf (cTB (cOp dNeL (cLam 6 G_law_told (cMeth 43 "at" (pureF F_Rhythm_at) [] (cVar 6) (cCons (cVar 13) cNil))) (cLst (cCons (cP (.str "point")) (cCons (cVar 13) cNil))))) (sRet (cP (.bl false))) sNx)
abbrev w13 : CS := (sIf (cTB (cOp dNe (cLam 6 G_law_told (cMeth 43 "span" (pureF F_Rhythm_span) [] (cVar 6) (cCons (cVar 13) cNil))) (cLst (cCons (cP (.str "number")) cNil)))) (sRet (cP (.bl false))) sNx)
abbrev wb1 : CS := w13
abbrev w14 : CS := (sFor (iSeq (cLst (cCons (cP .non) (cCons (cP (.bl true)) (cCons (cUn dNeg (cP (.int 1))) (cCons (cApp (on1 dLen) (cCons (cVar 5) cNil)) (cCons (cP (.str "0")) (cCons (cLst (cCons (cP (.int 0)) cNil)) (cCons (cOp dPow (cP (.int 10)) (cP (.int 30))) cNil))))))))) (gN 13) wb1)
abbrev wb2 : CS := (sSeq w0 (sSeq w1 (sSeq w2 (sSeq w3 (sSeq w4 (sSeq w5 (sSeq w6 (sSeq w9 (sSeq w10 (sSeq w11 (sSeq w12 w14)))))))))))
abbrev w15 : CS := (sFor (iEnumP (cCons (cSl ((cOrT (cVar 0) (cLst (cCons (cP (.int 5)) cNil)))) oNone (oSome (cP (.int 10)))) cNil)) (gT 2 (gCons' (gN 1) (gCons' (gN 2) gNil'))) wb2)
abbrev w16 : CS := (sRet (cP (.bl true)))
abbrev wb3 : CS := (sSeq w15 w16)
end
theorem w_eq : F_law = cBody 1 14 wb3 := rfl
noncomputable section
abbrev zn0 : CS := (sSet 4 (cDispT [ ((cCons (cP (.int 0)) (cCons (cP (.str "")) cNil)) , (cP (.bl true))) ]))
abbrev zn1 : CS := (sAsg (gSetDt (cVar 4) (cCons (cCall (borrowF F_law_draw) [] (cCons (cVar 0) (cCons (cVar 1) cNil))) (cCons (cCall (borrowF F_law_bits) [] (cCons (cVar 0) (cCons (cVar 3) cNil))) cNil))) (cP (.bl true)))
abbrev znb0 : CS := zn1
abbrev zn2 : CS := (sFor (iRange1 (cCons (cCall (borrowF F_law_draw) [] (cCons (cVar 0) (cCons (cOp dAdd (cVar 2) (cP (.int 1))) cNil))) cNil)) (gN 5) znb0)
abbrev zn3 : CS := (sRet (cLc (iSeq (cApp (on1 dSorted) (cCons (cVar 4) cNil))) (gN 6) cYes (cTup (cCons (cVar 6) (cCons (cCall (borrowF F_law_pick) [] (cCons (cVar 0) (cCons (cLst (cCons (cP (.str "tone")) (cCons (cP (.str "tone")) (cCons (cP (.str "rest")) cNil)))) cNil))) cNil))) [6]))
abbrev znb1 : CS := (sSeq zn0 (sSeq zn2 zn3))
end
theorem zn_eq : F_law_notes = cBody 4 7 znb1 := rfl
noncomputable section
abbrev zb0 : CS := (sSet 2 (cCall (borrowF F_law_draw) [] (cCons (cVar 0) (cCons (cOp dAdd (cVar 1) (cP (.int 1))) cNil))))
abbrev zb1 : CS := (sRet (cIf (cTB (cOp dGt (cVar 2) (cP (.int 0)))) (cBm isStr dJoin (cP (.str "")) (cCons (cOp dAdd (cLc (iRange1 (cCons (cOp dSub (cVar 2) (cP (.int 1))) cNil)) (gN 3) cYes (cCall (borrowF F_law_pick) [] (cCons (cVar 0) (cCons (cP (.str "01")) cNil))) [3]) (cLst (cCons (cP (.str "1")) cNil))) cNil)) (cP (.str ""))))
abbrev zbb0 : CS := (sSeq zb0 zb1)
end
theorem zb_eq : F_law_bits = cBody 2 4 zbb0 := rfl
end Law

set_option Elab.async false
set_option linter.all false
set_option maxRecDepth 100000
set_option maxHeartbeats 4000000
namespace Law
open PySem PySem.Spec Fe L2
/-! ### Rhythm: made, asked -/
def notesP (ns : List Nt) : List P := ns.map noteP
def rhyP (L : Int) (ns : List Nt) : P := .obj 43 ["own_length", "own_notes"] [.int L, .tup (notesP ns)]
theorem nx0 (q : Nt) (S : Sto) : dIx S (.p (noteP q)) (.p (.int 0)) = some (.p (momP q.1)) := rfl
theorem nx1 (q : Nt) (S : Sto) : dIx S (.p (noteP q)) (.p (.int 1)) = some (.p (.str q.2)) := rfl
theorem mx0 (m : Mt) (S : Sto) : dIx S (.p (momP m)) (.p (.int 0)) = some (.p (.int m.1)) := rfl
theorem mx1 (m : Mt) (S : Sto) : dIx S (.p (momP m)) (.p (.int 1)) = some (.p (.str m.2)) := rfl
theorem asc_nil : ascS "" = true := rfl
/-- one step of the loop in `__init__` -/
theorem init_step (L : Int) (q : Nt) (hq : OkM L q.1 ∧ sndB q.2) (k : Nat) (hk : k < 200) (bf : P) (hbf : (bf = .non ∧ q.1 = ((0, "") : Mt)) ∨ ∃ m, bf = momP m ∧ mlt m q.1 = true) (e0 e2 : Option Fe.D) (S : Sto) :
    zib0 [e0, some (.p (.int L)), e2, some (.p bf), some (.p (.int k)), some (.p (noteP q))] S = .nx [e0, some (.p (.int L)), e2, some (.p (momP q.1)), some (.p (.int k)), some (.p (noteP q))] S := by
  have no := note_ok L q hq.1 hq.2
  have k2 : ¬ (k : Int) = 200 := by omega
  have x0 := nx0 q
  rcases hbf with ⟨rfl, h0⟩ | ⟨m, rfl, hm⟩
  · have e1 : ∀ S, dNe S (.p (momP q.1)) (.p (.tup [.int 0, .str ""])) = some (.p (.bl false)) := fun S => by
      have := (d_eq q.1 ((0, "") : Mt) hq.1.asc asc_nil S).2
      rw [show momP ((0, "") : Mt) = .tup [.int 0, .str ""] from rfl, decide_eq_true h0] at this
      exact this
    have n1 : Fe.isNon (.p .non) = true := rfl
    generalize noteP q = np at *
    generalize momP q.1 = mp at *
    generalize (k : Int) = ki at *
    simp [-m_dII, zib0, zi3, zi4, zi5, no, k2, x0, e1, n1, mkTup, pureDs, pureD]
  · have le : ∀ S, dLeD S (.p (momP q.1)) (.p (momP m)) = some (.p (.bl false)) := fun S => by
      have := d_le q.1 m S
      rw [(mle_not _ _).mpr hm] at this
      exact this
    have n1 : Fe.isNon (.p (momP m)) = false := rfl
    generalize noteP q = np at *
    generalize momP q.1 = mp at *
    generalize momP m = mb at *
    generalize (k : Int) = ki at *
    simp [-m_dII, zib0, zi3, zi4, zi5, no, k2, x0, le, n1]
theorem init_loop (L : Int) (e0 e2 : Option Fe.D) (S : Sto) : ∀ (ns : List Nt) (k : Nat) (bf : P) (e4 e5 : Option Fe.D), (∀ q ∈ ns, OkM L q.1 ∧ sndB q.2) → k + ns.length ≤ 200 → Srt ns → ((bf = .non ∧ ∀ q ∈ ns.head?, q.1 = ((0, "") : Mt)) ∨ ∃ m, bf = momP m ∧ ∀ q ∈ ns, mlt m q.1 = true) →
    ∃ f3 f4 f5, forL ckT (gT 2 (gCons' (gN 4) (gCons' (gN 5) gNil'))) zib0 (enumP k (notesP ns)) [e0, some (.p (.int L)), e2, some (.p bf), e4, e5] S = .nx [e0, some (.p (.int L)), e2, f3, f4, f5] S
  | [], k, bf, e4, e5, _, _, _, _ => ⟨_, _, _, rfl⟩
  | q :: ns, k, bf, e4, e5, ho, hk, hs, hb => by
    obtain ⟨s1, s2⟩ := List.pairwise_cons.mp hs
    simp only [List.length_cons] at hk
    have st := init_step L q (ho q List.mem_cons_self) k (by omega) bf (by
      rcases hb with ⟨rfl, h⟩ | ⟨m, rfl, h⟩
      · exact .inl ⟨rfl, h q rfl⟩
      · exact .inr ⟨m, rfl, h q List.mem_cons_self⟩) e0 e2 S
    obtain ⟨f3, f4, f5, ih⟩ := init_loop L e0 e2 S ns (k + 1) (momP q.1) (some (.p (.int k))) (some (.p (noteP q))) (fun x hx => ho x (List.mem_cons_of_mem _ hx)) (by omega) s2 (.inr ⟨q.1, rfl, s1⟩)
    refine ⟨f3, f4, f5, ?_⟩
    show forL ckT _ zib0 (.tup [.int k, noteP q] :: enumP (k + 1) (notesP ns)) _ S = _
    rw [forL_nx (S1 := S) (env1 := [e0, some (.p (.int L)), e2, some (.p bf), some (.p (.int k)), some (.p (noteP q))]) rfl st]
    exact ih
theorem init_ok (L : Int) (ns : List Nt) (h : Ok L ns) (x : P) (hx : x = .lst (notesP ns)) (S : Sto) : mkF 43 F_Rhythm___init__ [.p (.int L), .p x] S = .ok (.p (rhyP L ns)) S := by
  have l1 := h.l1
  have l2 := h.l2
  obtain ⟨f3, f4, f5, el⟩ := init_loop L (some (.ref 0)) (some (.p x)) [.ins 43 [] []] ns 0 .non none none h.ok (by have := h.ln; omega) h.so (.inl ⟨rfl, fun q hq => by
    obtain ⟨z, r, rfl⟩ := h.hd
    cases hq
    rfl⟩)
  have hlen : ¬ ((notesP ns).length : Int) = 0 := by
    obtain ⟨z, r, rfl⟩ := h.hd
    simp [notesP]
    omega
  have ii := isint_ok L
  have t1 : t_isa_list_tuple (tgP x) = some true := by subst hx; rfl
  have ln : ∀ S, dLen S (.p x) = some (.p (.int (notesP ns).length)) := fun S => by subst hx; rfl
  have f0 : fldS 43 "own_length" [.ins 43 [] []] (.ref 0) (.p (.int L)) = some [.ins 43 ["own_length"] [.int L]] := rfl
  have f1 : fldS 43 "own_notes" [.ins 43 ["own_length"] [.int L]] (.ref 0) (.p (.tup (notesP ns))) = some [.ins 43 ["own_length", "own_notes"] [.int L, .tup (notesP ns)]] := rfl
  have dt : ∀ S, dTuple S (.p x) = some (.p (.tup (notesP ns))) := fun S => by subst hx; rfl
  have it : ∀ env S, iEnumP (cCons (cP x) cNil) env S = .ok (enumP 0 (notesP ns), ckT) S := fun env S => by subst hx; rfl
  refine mk_ok (S' := [.ins 43 ["own_length", "own_notes"] [.int L, .tup (notesP ns)]]) [.int L, x] rfl ?_ rfl
  rw [zi_eq]
  refine body_nx (e := [some (.ref 0), some (.p (.int L)), some (.p x), f3, f4, f5]) rfl ?_
  have hsd : startD 6 [.ref 0, .p (.int L), .p x] = [some (.ref 0), some (.p (.int L)), some (.p x), none, none, none] := rfl
  rw [hsd]
  have d0 : ∀ S, zi0 [some (.ref 0), some (.p (.int L)), some (.p x), none, none, none] S = .nx [some (.ref 0), some (.p (.int L)), some (.p x), none, none, none] S := fun S => by
    simp [zi0, ii, l1, l2]
  have d1 : ∀ S, zi1 [some (.ref 0), some (.p (.int L)), some (.p x), none, none, none] S = .nx [some (.ref 0), some (.p (.int L)), some (.p x), none, none, none] S := fun S => by
    generalize ((notesP ns).length : Int) = li at *
    simp [zi1, t1, ln, hlen]
  have d2 : ∀ S, zi2 [some (.ref 0), some (.p (.int L)), some (.p x), none, none, none] S = .nx [some (.ref 0), some (.p (.int L)), some (.p x), some (.p .non), none, none] S := fun S => rfl
  have d3 : zi6 [some (.ref 0), some (.p (.int L)), some (.p x), some (.p .non), none, none] [.ins 43 [] []] = .nx [some (.ref 0), some (.p (.int L)), some (.p x), f3, f4, f5] [.ins 43 [] []] := by
    have it' : iEnumP (cCons (cVar 2) cNil) [some (.ref 0), some (.p (.int L)), some (.p x), some (.p .non), none, none] [.ins 43 [] []] = .ok (enumP 0 (notesP ns), ckT) [.ins 43 [] []] := it [] _
    rw [zi6, m_for, it', m_toSI_ok _ _ _ rfl]
    exact el
  simp only [zib1, m_seq, d0, d1, d2, d3, m_then_nx]
  simp [zi7, zi8, f0, dt, f1]
/-! ### at -/
def leF (m : Mt) : P → Bool
  | .tup [.tup [.int i, .str z], _] => mle (i, z) m
  | _ => false
theorem fld_len (L : Int) (ns : List Nt) (S : Sto) : dFld "own_length" S (.p (rhyP L ns)) = some (.p (.int L)) := rfl
theorem fld_notes (L : Int) (ns : List Nt) (S : Sto) : dFld "own_notes" S (.p (rhyP L ns)) = some (.p (.tup (notesP ns))) := rfl
theorem cls_rhy (L : Int) (ns : List Nt) (S : Sto) : clsOf S (.p (rhyP L ns)) = some 43 := rfl
theorem src_notes (ns : List Nt) (S : Sto) : srcG S (.p (.tup (notesP ns))) = some (notesP ns, ckT) := rfl
theorem at_ok0 (L : Int) (ns : List Nt) (m : Mt) (hm : OkM L m) (hl : ns.length ≤ 200) : F_Rhythm_at [.p (rhyP L ns), .p (momP m)] [] = .ok (.p (.int ((cntN ns m : Int) - 1))) [] := by
  rw [za_eq]
  refine body_rt rfl ?_
  have mo := moment_ok L m hm
  have key := lc_filter (S := []) (i := 2) (t := cTB (cOp dLeD (cOp dIx (cVar 2) (cP (.int 0))) (cVar 1))) (env := [some (.p (rhyP L ns)), some (.p (momP m)), none]) (c := leF m) (by simp) (notesP ns) [] (by simp [notesP]; omega) (fun x hx => by
    obtain ⟨q, hq, rfl⟩ := List.mem_map.mp hx
    have x0 := nx0 q
    have le := d_le q.1 m
    have e : leF m (noteP q) = mle q.1 m := rfl
    rw [e]
    generalize noteP q = np at *
    generalize momP q.1 = mp at *
    generalize momP m = mb at *
    simp [x0, le])
  have ef : (notesP ns).filter (leF m) = notesP (upto m ns) := by
    unfold notesP upto
    rw [List.filter_map]
    rfl
  rw [ef, List.nil_append] at key
  have ln : ∀ S, dLen S (.p (.lst (notesP (upto m ns)))) = some (.p (.int (cntN ns m))) := fun S => by
    show some (Fe.D.p (.int ((notesP (upto m ns)).length : Nat))) = _
    simp [notesP, cntN]
  have f1 := fld_len L ns
  have f2 := fld_notes L ns
  have c1 := cls_rhy L ns
  have sr := src_notes ns
  have hsd : startD 3 [.p (rhyP L ns), .p (momP m)] = [some (.p (rhyP L ns)), some (.p (momP m)), none] := rfl
  rw [hsd]
  generalize rhyP L ns = rh at *
  generalize notesP (upto m ns) = up at *
  generalize notesP ns = al at *
  generalize momP m = mb at *
  generalize (cntN ns m : Int) = ci at *
  have sg : ∀ (i j : Int) (S : Sto), dSub S (.p (.int i)) (.p (.int j)) = some (.p (.int (i - j))) := fun _ _ _ => rfl
  simp [-m_len_lst, za0, za1, f1, f2, c1, mo, sr, wipeD, key, ln, sg]
theorem at_ok (L : Int) (ns : List Nt) (m : Mt) (hm : OkM L m) (hl : ns.length ≤ 200) (S : Sto) : pureF F_Rhythm_at [.p (rhyP L ns), .p (momP m)] S = .ok (.p (.int ((cntN ns m : Int) - 1))) S := pure_ok [rhyP L ns, momP m] rfl (at_ok0 L ns m hm hl)
/-- the sound at a moment -/
theorem snd_ix {L : Int} {ns : List Nt} (h : Ok L ns) (m : Mt) (h0 : 0 ≤ m.1) (S : Sto) : ∃ q : Nt, dIx S (.p (.tup (notesP ns))) (.p (.int ((cntN ns m : Int) - 1))) = some (.p (noteP q)) ∧ q.2 = sndA ns m := by
  have c := ok_cnt h m h0
  obtain ⟨q, h1, h2, _⟩ := at_get ns m h.so c
  refine ⟨q, ?_, h2⟩
  have hi : (cntN ns m : Int) - 1 = ((cntN ns m - 1 : Nat) : Int) := by omega
  rw [hi]
  have hl : cntN ns m - 1 < ns.length := (List.getElem?_eq_some_iff.mp h1).1
  show (atI (notesP ns) ((cntN ns m - 1 : Nat) : Int)).map Fe.D.p = _
  rw [atI_pos (by omega) (by simp [notesP]; omega), Int.toNat_natCast]
  unfold notesP
  rw [List.getElem?_map, h1]
  rfl
end Law

set_option Elab.async false
set_option linter.all false
set_option maxRecDepth 100000
set_option maxHeartbeats 4000000
namespace Law
open PySem PySem.Spec Fe L2
theorem lc_gen {g : CG} {t : CT} {fe : CE'} {env : DEnv} {S : Sto} {c : P → Bool} {f : P → P} : ∀ (ds acc : List P), acc.length + ds.length ≤ 60000 → (∀ x ∈ ds, ∃ env1, g (.p x) env S = some (env1, S) ∧ t env1 S = .ok (c x) S ∧ (c x = true → fe env1 S = .ok (.p (f x)) S)) → lcL ckT g t fe env ds acc S = .ok (.p (.lst (acc ++ (ds.filter c).map f))) S
  | [], acc, _, _ => by simp
  | d :: ds, acc, h, hf => by
    simp only [List.length_cons] at h
    obtain ⟨env1, h1, h2, h3⟩ := hf d List.mem_cons_self
    cases hc : c d with
    | true =>
      rw [hc] at h2
      rw [lcL_cons (S3 := S) (x := f d) (env1 := env1) h1 h2 (h3 hc) (Nat.lt_of_lt_of_le (by omega : acc.length < 60001) (small_sz 60001 (by decide)))]
      rw [lc_gen ds (acc ++ [f d]) (by simp; omega) fun x hx => hf x (List.mem_cons_of_mem _ hx)]
      simp [hc]
    | false =>
      rw [hc] at h2
      rw [lcL_skip (env1 := env1) h1 h2]
      rw [lc_gen ds acc (by omega) fun x hx => hf x (List.mem_cons_of_mem _ hx)]
      simp [hc]
theorem big240 : (240 : Nat) < 2 ^ 200 := Nat.lt_of_lt_of_le (by decide : 240 < 2 ^ 8) (Nat.pow_le_pow_right (by decide) (by decide))
theorem lay_snd (z : Str) (h : sndB z) : Lay (.str z) 10002 1 := by
  rcases h with rfl | rfl
  · exact lay_str (by decide +kernel) (by decide +kernel)
  · exact lay_str (by decide +kernel) (by decide +kernel)
theorem lay_note (L : Int) (hL : L ≤ 240) (q : Nt) (h : OkM L q.1 ∧ sndB q.2) : Lay (noteP q) 20006 2 := by
  obtain ⟨⟨h1, h2, h3, h4⟩, h5⟩ := h
  have b := big240
  have m : Lay (momP q.1) 10002 1 := lay_pair (w := 5000) (d := 0) (lay_int (by omega) (by decide)) (lay_str (bits_ascii h3) h4)
  exact lay_pair m (lay_snd _ h5)
theorem lay_notes (L : Int) (ns : List Nt) (h : Ok L ns) : Lays (notesP ns) ((notesP ns).length * (20006 + 1)) 2 := lays_all fun x hx => by
  obtain ⟨q, hq, rfl⟩ := List.mem_map.mp hx
  exact lay_note L h.l2 q (h.ok q hq)
def mkT (w : Str) (b : Bool) : P := .tup [.str w, .bl b]
def mkC : P → Bool
  | .tup [_, .bl b] => b
  | _ => false
def mkE : P → P
  | .tup [a, _] => a
  | _ => .non
theorem marks_ok (env : DEnv) (S : Sto) (L : List (Str × Bool)) (hl : L.length ≤ 100) : lcL ckT (gT 2 (gCons' (gN 4) (gCons' (gN 5) gNil'))) (cTr (cVar 5)) (cVar 4) [env.getD 0 none, env.getD 1 none, env.getD 2 none, env.getD 3 none, none, none] (L.map fun q => mkT q.1 q.2) [] S = .ok (.p (.lst ((L.filter (·.2)).map fun q => .str q.1))) S := by
  have := lc_gen (S := S) (g := gT 2 (gCons' (gN 4) (gCons' (gN 5) gNil'))) (t := cTr (cVar 5)) (fe := cVar 4) (c := mkC) (f := mkE) (env := [env.getD 0 none, env.getD 1 none, env.getD 2 none, env.getD 3 none, none, none]) (L.map fun q => mkT q.1 q.2) [] (by simp; omega) (fun x hx => by
    obtain ⟨q, hq, rfl⟩ := List.mem_map.mp hx
    exact ⟨[env.getD 0 none, env.getD 1 none, env.getD 2 none, env.getD 3 none, some (.p (.str q.1)), some (.p (.bl q.2))], rfl, rfl, fun _ => rfl⟩)
  rw [this, List.nil_append, List.filter_map, List.map_map]
  rfl
theorem told_num {fb : CE'} {env : DEnv} {S S' : Sto} (hn : NoFn env) (h : fb env S = .exc 12 [] [] S') : cLam 6 G_law_told fb env S = .ok (.p (.lst [.str "number"])) S' := by
  refine cLam_eq fun a c q σ => lam_rt ?_
  have hf : fb (capE (.fn a c q (env.map cap) σ)) S = .exc 12 [] [] S' := by rw [capE_nf hn]; exact h
  unfold G_law_told
  simp only [startD, m_seq]
  simp
  rw [try_exc (S1 := S') (c := 12) (ns := []) (vs := []) (e := [some (.fn a c q (env.map cap) σ), some (.p .non), none, none, none, none]) (by simp [m_act, hf]) rfl]
  have t1 : t_isa_BadRhythm_BadFigure (tgP (.exc 12 [] [])) = some false := rfl
  have t2 : t_isa_BadPoint (tgP (.exc 12 [] [])) = some false := rfl
  have t3 : t_isa_NoGrouping (tgP (.exc 12 [] [])) = some false := rfl
  have t4 : t_isa_BadNumber (tgP (.exc 12 [] [])) = some true := rfl
  have t5 : t_isa_BadRow (tgP (.exc 12 [] [])) = some false := rfl
  have t6 : t_isa_BadLoop (tgP (.exc 12 [] [])) = some false := rfl
  have t7 : t_isa_BadGroups (tgP (.exc 12 [] [])) = some false := rfl
  have t8 : t_isa_BadMetre (tgP (.exc 12 [] [])) = some false := rfl
  have i1 : Fe.isNon (.p (.exc 12 [] [])) = false := rfl
  have ad : ∀ (xs ys : List P) S, xs.length + ys.length ≤ 100 → dAdd S (.p (.lst xs)) (.p (.lst ys)) = some (.p (.lst (xs ++ ys))) := fun xs ys S hl => m_add_lst _ _ (Nat.le_trans hl (small_sz 100 (by decide)))
  have a1 := fun S => ad [mkT "number" true, mkT "row" false] [mkT "loop" false, mkT "groups" false] S (by decide)
  have a2 := fun S => ad [mkT "number" true, mkT "row" false, mkT "loop" false, mkT "groups" false] [mkT "metre" false, mkT "nothing" false, mkT "other" true] S (by decide)
  simp only [List.cons_append, List.nil_append, mkT] at a1 a2
  have lc := fun S => marks_ok [some (.fn a c q (env.map cap) σ), some (.p (.exc 12 [] [])), none, some (.p (.lst [mkT "number" true, mkT "row" false, mkT "loop" false, mkT "groups" false, mkT "metre" false, mkT "nothing" false, mkT "other" true]))] S [("number", true), ("row", false), ("loop", false), ("groups", false), ("metre", false), ("nothing", false), ("other", true)] (by decide)
  have ef : ((([("number", true), ("row", false), ("loop", false), ("groups", false), ("metre", false), ("nothing", false), ("other", true)] : List (Str × Bool)).filter (·.2)).map fun q => P.str q.1) = [.str "number", .str "other"] := rfl
  rw [ef] at lc
  simp only [List.map_cons, List.map_nil, mkT, List.getD_eq_getElem?_getD, List.getElem?_cons_zero, List.getElem?_cons_succ, Option.getD_some] at lc
  have x0 : ∀ S, dIx S (.p (.lst [.str "number", .str "other"])) (.p (.int 0)) = some (.p (.str "number")) := fun S => rfl
  have sr : ∀ xs S, srcG S (.p (.lst xs)) = some (xs, ckT) := fun xs S => rfl
  simp [-m_ix_lst, -m_dII, t1, t2, t3, t4, t5, t6, t7, t8, i1, m_lst_eq, mkLst, mkTup, pureDs, pureD, a1, a2, sr, wipeD, lc, x0]
/-- a for loop: what holds is counted -/
theorem for_cnt {b : CS} {g : CG} {ok : P → Prop} {I : Nat → DEnv → Sto → Prop} (m B : Nat) (hF : ∀ (x : P) (env : DEnv) (S : Sto) (j : Nat), ok x → j + m ≤ B → I j env S → ∃ env1 S1 env' S', g (.p x) env S = some (env1, S1) ∧ b env1 S1 = .nx env' S' ∧ I (j + m) env' S') :
    ∀ (ds : List P) (j : Nat) (env : DEnv) (S : Sto), (∀ x ∈ ds, ok x) → j + ds.length * m ≤ B → I j env S → ∃ env' S', forL ckT g b ds env S = .nx env' S' ∧ I (j + ds.length * m) env' S'
  | [], j, env, S, _, _, hI => ⟨env, S, rfl, by simpa using hI⟩
  | x :: ds, j, env, S, ho, hB, hI => by
    simp only [List.length_cons, Nat.succ_mul] at hB
    obtain ⟨env1, S1, env', S', h1, h2, h3⟩ := hF x env S j (ho x List.mem_cons_self) (by omega) hI
    obtain ⟨env2, S2, e, i⟩ := for_cnt m B hF ds (j + m) env' S' (fun y hy => ho y (List.mem_cons_of_mem _ hy)) (by omega) h3
    refine ⟨env2, S2, ?_, ?_⟩
    · rw [forL_nx h1 h2]; exact e
    · have e2 : j + (x :: ds).length * m = j + m + ds.length * m := by simp only [List.length_cons, Nat.succ_mul]; omega
      rw [e2]; exact i
theorem g2 (env : DEnv) (S : Sto) (x y : P) (i j : Nat) : gT 2 (gCons' (gN i) (gCons' (gN j) gNil')) (.p (.tup [x, y])) env S = some ((env.set i (some (.p x))).set j (some (.p y)), S) := rfl
theorem same_num (S : Sto) : dNe S (.p (.lst [.str "number"])) (.p (.lst [.str "number"])) = some (.p (.bl false)) :=
  (same_lay (lay_lst (lays_cons (w := 1202) (d := 1) (lay_str (by decide +kernel) (by decide +kernel)) (lays_nil (w := 0)))) (by decide)).2
end Law

set_option Elab.async false
set_option linter.all false
set_option maxRecDepth 100000
set_option maxHeartbeats 4000000
namespace Law
open PySem PySem.Spec Fe L2
/-! ### drawn digits -/
theorem digits_ok (n : Nat) (hn : n ≤ 500) (so : SO) (k : Nat) (hk : k ≤ 80000) (hsd : Sd k so) : ∃ (z : Str) (so' : SO), F_law_bits [.ref 0, .p (.int (n : Int))] [so] = .ok (.p (.str z)) [so'] ∧ bitsL z.cps.toList = true ∧ z.length ≤ 600 ∧ Sd (k + n + 1) so' := by
  obtain ⟨r, so1, b1, r0, r1, s1⟩ := sd_draw (S := [so]) (p := 0) hsd rfl ((n : Int) + 1)
  have b1 : borrowF F_law_draw [.ref 0, .p (.int ((n : Int) + 1))] [so] = .ok (.p (.int r)) [so1] := b1
  have hsd4 : startD 4 [.ref 0, .p (.int (n : Int))] = [some (.ref 0), some (.p (.int (n : Int))), none, none] := rfl
  by_cases hr : 0 < r
  · have key := lc_sd (S := [so1]) (p := 0) (i := 3) (m := 1) (B := 99000) (env := [some (.ref 0), some (.p (.int (n : Int))), some (.p (.int r)), none]) (fe := cCall (borrowF F_law_pick) [] (cCons (cVar 0) (cCons (cP (.str "01")) cNil))) (N := fun y => ∃ c : Nat, y = .str ⟨#[c]⟩ ∧ (c = 48 ∨ c = 49)) (fun x so k hk hsd => by
      obtain ⟨c, so', e, m, sd⟩ := sd_pickS (S := [so]) (p := 0) hsd rfl "01" (by decide) (by decide) (by omega)
      have e' : borrowF F_law_pick [.ref 0, .p (.str "01")] [so] = .ok (.p (.str ⟨#[c]⟩)) [so'] := e
      refine ⟨_, so', by simp [e'], ⟨c, rfl, ?_⟩, sd⟩
      have : ("01" : Str).cps.toList = [48, 49] := by decide +kernel
      rw [this] at m
      simpa using m) (rngP 0 (r - 1).toNat) [] so1 (k + 1) (by rw [rngP_len]; omega) s1 (by rw [rngP_len]; simp; omega)
    obtain ⟨ys, so4, e4, l4, n4, s4⟩ := key
    rw [rngP_len] at l4 s4
    simp only [List.set_cons_zero, List.nil_append] at e4
    obtain ⟨cs, rfl, hcs⟩ : ∃ cs : List Nat, ys = cs.map (fun c => P.str ⟨#[c]⟩) ∧ ∀ c ∈ cs, c = 48 ∨ c = 49 := by
      clear e4 l4
      induction ys with
      | nil => exact ⟨[], rfl, by simp⟩
      | cons y ys ih =>
        obtain ⟨cs, e, hc⟩ := ih fun y hy => n4 y (List.mem_cons_of_mem _ hy)
        obtain ⟨c, rfl, hc'⟩ := n4 y List.mem_cons_self
        exact ⟨c :: cs, by simp [e], fun d hd => (List.mem_cons.mp hd).elim (fun e => e ▸ hc') (hc d)⟩
    rw [List.length_map] at l4
    have ej := join_signs (cs ++ [49]) (by simp; omega)
    refine ⟨⟨(cs ++ [49]).toArray⟩, so4, ?_, ?_, ?_, s4.mono (by omega)⟩
    · rw [zb_eq]
      refine body_rt rfl ?_
      rw [hsd4]
      have hr2 : -(2 ^ 62) ≤ r - 1 ∧ r - 1 < 2 ^ 62 := by
        have e62 : (2 : Int) ^ 62 = 4611686018427387904 := by decide
        rw [e62]; omega
      have a1 := m_asI1 (r - 1) hr2
      have h1 : P.str "1" = P.str ⟨#[49]⟩ := rfl
      have ad : ∀ S, dAdd S (.p (.lst (cs.map fun c => P.str ⟨#[c]⟩))) (.p (.lst [.str "1"])) = some (.p (.lst ((cs ++ [49]).map fun c => P.str ⟨#[c]⟩))) := fun S => by
        rw [m_add_lst _ _ (Nat.le_trans (by simp; omega : (cs.map fun c => P.str ⟨#[c]⟩).length + [P.str "1"].length ≤ 1000) (small_sz 1000 (by decide))), List.map_append, h1]
        rfl
      have sg : ∀ (S : Sto), dSub S (.p (.int r)) (.p (.int 1)) = some (.p (.int (r - 1))) := fun _ => rfl
      clear s4 l4 hr2
      generalize r - 1 = r' at *
      generalize hys : (cs.map fun c => P.str ⟨#[c]⟩) = ys at *
      generalize hyz : ((cs ++ [49]).map fun c => P.str ⟨#[c]⟩) = yz at *
      generalize (⟨(cs ++ [49]).toArray⟩ : Str) = z at *
      simp [-m_dII, zbb0, zb0, zb1, b1, hr, sg, a1, wipeD, e4, m_lst_eq, mkLst, pureDs, pureD, ad, ej]
    · show bitsL (cs ++ [49]) = true
      unfold bitsL
      have : ((cs ++ [49]).all fun c => c == 48 || c == 49) = true := by
        rw [List.all_eq_true]
        intro c hc
        rcases List.mem_append.mp hc with hc | hc
        · rcases hcs c hc with rfl | rfl <;> rfl
        · simp at hc; subst hc; rfl
      rw [this]
      simp
    · show (cs ++ [49]).toArray.size ≤ 600
      simp; omega
  · refine ⟨"", so1, ?_, rfl, by decide, s1.mono (by omega)⟩
    rw [zb_eq]
    refine body_rt rfl ?_
    rw [hsd4]
    simp [-m_dII, zbb0, zb0, zb1, b1, hr]
/-! ### the moments drawn, in a dict -/
def keyM (m : Mt) : List Key := [.inl m.1, .inr m.2]
theorem keyM_inj {a b : Mt} (h : keyM a = keyM b) : a = b := by
  simp only [keyM, List.cons.injEq, Sum.inl.injEq, Sum.inr.injEq, and_true] at h
  exact Prod.ext h.1 h.2
theorem tkeys_moms : ∀ ms : List Mt, tkeysD (ms.map momP) = some (ms.map keyM)
  | [] => rfl
  | m :: ms => by
    have ih := tkeys_moms ms
    have e : keysD [.int m.1, .str m.2] = some (keyM m) := rfl
    show (match keysD [.int m.1, .str m.2], tkeysD (ms.map momP) with | some k, some ks => some (k :: ks) | _, _ => none) = _
    rw [e, ih]
    rfl
def addM (ms : List Mt) (m : Mt) : List Mt := if m ∈ ms then ms else ms ++ [m]
theorem put_moms (ms : List Mt) (vs : List P) (m : Mt) (v : P) : (dputP (ms.map keyM) (ms.map momP) vs (keyM m) (momP m) v).1 = (addM ms m).map momP := by
  have any : ((ms.map keyM).any fun q => decide (q = keyM m)) = decide (m ∈ ms) := by
    rw [Bool.eq_iff_iff, List.any_eq_true, decide_eq_true_iff]
    constructor
    · rintro ⟨q, hq, e⟩
      obtain ⟨x, hx, rfl⟩ := List.mem_map.mp hq
      rw [decide_eq_true_iff] at e
      rw [← keyM_inj e]; exact hx
    · intro h
      exact ⟨_, List.mem_map_of_mem h, by simp⟩
  unfold dputP addM
  rw [any]
  by_cases h : m ∈ ms
  · simp [h]
  · simp [h]
structure GoodM (L : Int) (ms : List Mt) : Prop where
  nd : ms.Nodup
  z : (((0 : Int), ("" : Str)) : Mt) ∈ ms
  ok : ∀ m ∈ ms, OkM L m
  sh : ∀ m ∈ ms, m.2.length ≤ 600
theorem good_add {L : Int} {ms : List Mt} (h : GoodM L ms) {m : Mt} (hm : OkM L m) (hs : m.2.length ≤ 600) : GoodM L (addM ms m) ∧ (addM ms m).length ≤ ms.length + 1 := by
  unfold addM
  split
  · exact ⟨h, by omega⟩
  · rename_i hn
    refine ⟨⟨?_, List.mem_append.mpr (.inl h.z), fun x hx => ?_, fun x hx => ?_⟩, by simp⟩
    · rw [List.nodup_append]
      exact ⟨h.nd, by simp, fun a ha b hb => by
        simp at hb; subst hb
        exact fun e => hn (e ▸ ha)⟩
    · rcases List.mem_append.mp hx with hx | hx
      · exact h.ok x hx
      · simp at hx; subst hx; exact hm
    · rcases List.mem_append.mp hx with hx | hx
      · exact h.sh x hx
      · simp at hx; subst hx; exact hs
theorem sort_moms (ms : List Mt) : (ms.map momP).mergeSort leP = (ms.mergeSort mle).map momP := by
  refine (List.map_mergeSort fun a _ b _ => ?_).symm
  show mle a b = !PySem.W.dataLt (.tuple [.int b.1, .str b.2]) (.tuple [.int a.1, .str a.2])
  rw [mom_lt]
  rfl
theorem sort_ok (ms : List Mt) (hl : ms.length ≤ 1000) : SrtOk (ms.map momP) := by
  have enc : ∀ m : Mt, encP (momP m) = .tuple [.int m.1, .str m.2] := fun _ => rfl
  refine ⟨fun x hx => ?_, fun d hd d' hd' => ?_, .inl fun d hd => ?_, by rw [List.length_map]; exact Nat.le_trans hl (small_sz 1000 (by decide))⟩
  · obtain ⟨m, _, rfl⟩ := List.mem_map.mp hx
    exact ⟨_, rfl, by simp [PyData.depth, PyData.depthAll]⟩
  · simp only [List.map_map, List.mem_map] at hd hd'
    obtain ⟨a, _, rfl⟩ := hd
    obtain ⟨b, _, rfl⟩ := hd'
    rfl
  · simp only [List.map_map, List.mem_map] at hd
    obtain ⟨a, _, rfl⟩ := hd
    exact ⟨_, _, rfl⟩
theorem mle_total (a b : Mt) : (mle a b || mle b a) = true := by
  rw [Bool.or_eq_true, mle_iff, mle_iff]
  rcases mlt_tri a b with h | h | h
  · exact .inl (.inl h)
  · exact .inl (.inr h)
  · exact .inr (.inl h)
theorem sorted_good {L : Int} {ms : List Mt} (h : GoodM L ms) : ∃ r, ms.mergeSort mle = ((0, "") : Mt) :: r ∧ (ms.mergeSort mle).Pairwise (fun a b => mlt a b = true) ∧ ∀ m ∈ ms.mergeSort mle, OkM L m := by
  have pm := List.mergeSort_perm ms mle
  have pw := List.pairwise_mergeSort (le := mle) (fun a b c => mle_trans) mle_total ms
  have ok : ∀ m ∈ ms.mergeSort mle, OkM L m := fun m hm => h.ok m (pm.mem_iff.mp hm)
  have nd : (ms.mergeSort mle).Nodup := pm.nodup_iff.mpr h.nd
  have hz : (((0 : Int), ("" : Str)) : Mt) ∈ ms.mergeSort mle := pm.mem_iff.mpr h.z
  generalize ms.mergeSort mle = l at *
  have srt : l.Pairwise (fun a b => mlt a b = true) := by
    refine (pw.and nd).imp ?_
    rintro a b ⟨h1, h2⟩
    rcases (mle_iff a b).mp h1 with q | q
    · exact q
    · exact absurd q h2
  cases l with
  | nil => simp at hz
  | cons a r =>
    have ha : a = ((0, "") : Mt) := by
      rcases List.mem_cons.mp hz with q | q
      · exact q.symm
      · have h1 := (List.pairwise_cons.mp srt).1 _ q
        have h2 := le_zero a (ok a List.mem_cons_self).lo
        have := lt_le h1 h2
        rw [mlt_irr] at this; cases this
    subst ha
    exact ⟨r, rfl, srt, ok⟩
/-- the sounds -/
theorem lc_sounds {env : DEnv} {dc : SO} (h0 : env[0]? = some (some (.ref 0))) (hl : 6 < env.length) : ∀ (ms : List Mt) (acc : List P) (so : SO) (k : Nat), k + ms.length ≤ 90000 → Sd k so → acc.length + ms.length ≤ 1000 → ∃ (ns : List Nt) (so' : SO), lcL ckT (gN 6) cYes (cTup (cCons (cVar 6) (cCons (cCall (borrowF F_law_pick) [] (cCons (cVar 0) (cCons (cLst (cCons (cP (.str "tone")) (cCons (cP (.str "tone")) (cCons (cP (.str "rest")) cNil)))) cNil))) cNil))) env (ms.map momP) acc [so, dc] = .ok (.p (.lst (acc ++ notesP ns))) [so', dc] ∧ ns.map (·.1) = ms ∧ (∀ q ∈ ns, sndB q.2) ∧ Sd (k + ms.length) so'
  | [], acc, so, k, _, hs, _ => ⟨[], so, by simp [notesP], rfl, by simp, by simpa using hs⟩
  | m :: ms, acc, so, k, hk, hs, ha => by
    simp only [List.length_cons] at hk ha
    obtain ⟨x, so1, e, mx, s1⟩ := sd_pick (S := [so, dc]) (p := 0) hs rfl [.str "tone", .str "tone", .str "rest"]
    have e : borrowF F_law_pick [.ref 0, .p (.lst [.str "tone", .str "tone", .str "rest"])] [so, dc] = .ok (.p x) [so1, dc] := e
    obtain ⟨z, rfl, hz⟩ : ∃ z, x = .str z ∧ sndB z := by
      simp only [List.mem_cons, List.not_mem_nil, or_false] at mx
      rcases mx with rfl | rfl | rfl
      · exact ⟨_, rfl, .inl rfl⟩
      · exact ⟨_, rfl, .inl rfl⟩
      · exact ⟨_, rfl, .inr rfl⟩
    obtain ⟨ns, so2, e2, n1, n2, s2⟩ := lc_sounds h0 hl ms (acc ++ [noteP (m, z)]) so1 (k + 1) (by omega) s1 (by simp; omega)
    refine ⟨(m, z) :: ns, so2, ?_, by simp [n1], fun q hq => ?_, ?_⟩
    · have v6 : ∀ S, cVar 6 (env.set 6 (some (.p (momP m)))) S = .ok (.p (momP m)) S := fun S => by rw [m_var 6 (.p (momP m))]; rw [List.getElem?_set_self hl]
      have v0 : ∀ S, cVar 0 (env.set 6 (some (.p (momP m)))) S = .ok (.ref 0) S := fun S => by rw [m_var 0 (.ref 0)]; rw [List.getElem?_set_ne (by decide)]; exact h0
      rw [List.map_cons, lcL_cons (S3 := [so1, dc]) (x := noteP (m, z)) (env1 := env.set 6 (some (.p (momP m)))) rfl rfl (by
        have hn : noteP (m, z) = .tup [momP m, .str z] := rfl
        rw [hn]
        generalize momP m = mp at *
        simp [v6, v0, m_lst_eq, mkLst, mkTup, pureDs, pureD, e]) (Nat.lt_of_lt_of_le (by omega : acc.length < 1001) (small_sz 1001 (by decide))), e2]
      simp [notesP]
    · rcases List.mem_cons.mp hq with rfl | hq
      · exact hz
      · exact n2 q hq
    · exact s2.mono (by simp only [List.length_cons]; omega)
end Law

set_option Elab.async false
set_option linter.all false
set_option maxRecDepth 100000
set_option maxHeartbeats 4000000
namespace Law
open PySem PySem.Spec Fe L2
theorem notes_step (L : Nat) (hL : L ≤ 240) (hL1 : 1 ≤ L) (most : Nat) (hm : most ≤ 6) (ms : List Mt) (h : GoodM L ms) (hl : ms.length ≤ 100) (vs : List P) (so : SO) (k : Nat) (hk : k ≤ 70000) (hsd : Sd k so) (e2 e5 e6 : Option Fe.D) :
    ∃ (ms' : List Mt) (vs' : List P) (so' : SO), znb0 [some (.ref 0), some (.p (.int (L : Int))), e2, some (.p (.int (most : Int))), some (.ref 1), e5, e6] [so, .dct (ms.map momP) vs] =
      .nx [some (.ref 0), some (.p (.int (L : Int))), e2, some (.p (.int (most : Int))), some (.ref 1), e5, e6] [so', .dct (ms'.map momP) vs'] ∧ GoodM L ms' ∧ ms'.length ≤ ms.length + 1 ∧ Sd (k + 10) so' := by
  obtain ⟨r, so1, b1, r0, r1, s1⟩ := sd_draw (S := [so, .dct (ms.map momP) vs]) (p := 0) hsd rfl (L : Int)
  have b1 : borrowF F_law_draw [.ref 0, .p (.int (L : Int))] [so, .dct (ms.map momP) vs] = .ok (.p (.int r)) [so1, .dct (ms.map momP) vs] := b1
  obtain ⟨z, so2, ez, bz, lz, s2⟩ := digits_ok most (by omega) so1 (k + 1) (by omega) s1
  have b2 : borrowF F_law_bits [.ref 0, .p (.int (most : Int))] [so1, .dct (ms.map momP) vs] = .ok (.p (.str z)) [so2, .dct (ms.map momP) vs] :=
    sd_borrow (S := [so1, .dct (ms.map momP) vs]) (p := 0) (k := k + 1) [.int (most : Int)] rfl s1 ez s2.live
  have hm' : OkM L (r, z) := ⟨r0, r1, bz, Nat.le_trans lz (by decide)⟩
  obtain ⟨g1, g2⟩ := good_add h hm' lz
  have sd : setDt [so2, .dct (ms.map momP) vs] (.ref 1) [.int r, .str z] (.p (.bl true)) = some [so2, .dct ((addM ms (r, z)).map momP) (dputP (ms.map keyM) (ms.map momP) vs (keyM (r, z)) (momP (r, z)) (.bl true)).2] := by
    have hk : keysD [.int r, .str z] = some (keyM (r, z)) := rfl
    have hne : ms.map momP ≠ [] := by
      have := h.z
      intro e
      rw [List.map_eq_nil_iff] at e
      subst e
      simp at this
    have hsz : (ms.map keyM).length < sizeLine := by
      rw [List.length_map]
      exact Nat.lt_of_lt_of_le (by omega : ms.length < 101) (small_sz 101 (by decide))
    have pm := put_moms ms vs (r, z) (.bl true)
    unfold setDt
    simp only [pureD, hk, List.getElem?_cons_succ, List.getElem?_cons_zero, tkeys_moms, hsz, hne, ne_eq, not_false_eq_true, and_self, if_true, List.set_cons_succ, List.set_cons_zero]
    rw [show P.tup [P.int r, .str z] = momP (r, z) from rfl, pm]
  obtain ⟨vs', hvs⟩ : ∃ vs', (dputP (ms.map keyM) (ms.map momP) vs (keyM (r, z)) (momP (r, z)) (.bl true)).2 = vs' := ⟨_, rfl⟩
  rw [hvs] at sd
  have h2 : (2 : Nat) ≤ sizeLine := small_sz 2 (by decide)
  refine ⟨addM ms (r, z), vs', so2, ?_, g1, g2, s2.mono (by omega)⟩
  generalize (addM ms (r, z)).map momP = ks' at *
  generalize ms.map momP = ks at *
  generalize (L : Int) = Li at *
  generalize (most : Int) = mi at *
  simp [znb0, zn1, gSetDt, okE, okA, b1, b2, pureDs, pureD, h2, sd]
theorem notes_ok (L : Nat) (hL : L ≤ 240) (hL1 : 1 ≤ L) (many most : Nat) (hmany : many ≤ 9) (hm : most ≤ 6) (so : SO) (k : Nat) (hk : k ≤ 60000) (hsd : Sd k so) :
    ∃ (ns : List Nt) (so' : SO) (S' : Sto), F_law_notes [.ref 0, .p (.int (L : Int)), .p (.int (many : Int)), .p (.int (most : Int))] [so] = .ok (.p (.lst (notesP ns))) (so' :: S') ∧ Ok L ns ∧ (∀ q ∈ ns, q.1.2.length ≤ 600) ∧ ns.length ≤ 10 ∧ Sd (k + 120) so' := by
  have e62 : (2 : Int) ^ 62 = 4611686018427387904 := by decide
  obtain ⟨r, so1, b1, r0, r1, s1⟩ := sd_draw (S := [so, .dct ([((0, "") : Mt)].map momP) [.bl true]]) (p := 0) hsd rfl ((many : Int) + 1)
  have b1 : borrowF F_law_draw [.ref 0, .p (.int ((many : Int) + 1))] [so, .dct ([((0, "") : Mt)].map momP) [.bl true]] = .ok (.p (.int r)) [so1, .dct ([((0, "") : Mt)].map momP) [.bl true]] := b1
  obtain ⟨n, rfl⟩ := Int.eq_ofNat_of_zero_le r0
  have g0 : GoodM (L : Int) [((0, "") : Mt)] := ⟨by simp, by simp, fun m hm => by
    simp at hm; subst hm
    exact okM_nil L 0 (by omega) (by omega), fun m hm => by
    simp at hm; subst hm
    exact (by decide : ("" : Str).length ≤ 600)⟩
  obtain ⟨env', S', el, f5, so2, ms, vs, rfl, rfl, gm, gl, s2⟩ := for_cnt (g := gN 5) (b := znb0) (ok := fun _ => True)
    (I := fun j env S => ∃ f5 so ms vs, env = [some (.ref 0), some (.p (.int (L : Int))), some (.p (.int (many : Int))), some (.p (.int (most : Int))), some (.ref 1), f5, none] ∧ S = [so, .dct (ms.map momP) vs] ∧ GoodM L ms ∧ 10 * ms.length ≤ 10 + j ∧ Sd (k + 1 + j) so) 10 200
    (fun x env S j _ hj hI => by
      obtain ⟨f5, so, ms, vs, rfl, rfl, gm, gl, sd⟩ := hI
      obtain ⟨ms', vs', so', e, gm', gl', sd'⟩ := notes_step L hL hL1 most hm ms gm (by omega) vs so (k + 1 + j) (by omega) sd (some (.p (.int (many : Int)))) (some (.p x)) none
      exact ⟨_, _, _, _, rfl, e, _, _, _, _, rfl, rfl, gm', by omega, sd'⟩) (rngP 0 n) 0 [some (.ref 0), some (.p (.int (L : Int))), some (.p (.int (many : Int))), some (.p (.int (most : Int))), some (.ref 1), none, none] [so1, .dct ([((0, "") : Mt)].map momP) [.bl true]]
    (fun _ _ => trivial) (by rw [rngP_len]; omega) ⟨_, _, _, _, rfl, rfl, g0, by simp, s1⟩
  rw [rngP_len] at gl s2
  obtain ⟨rr, hr, srt, okm⟩ := sorted_good gm
  have hlen : (ms.mergeSort mle).length = ms.length := (List.mergeSort_perm ms mle).length_eq
  obtain ⟨ns, so3, e3, n1, n2, s3⟩ := lc_sounds (env := [some (.ref 0), some (.p (.int (L : Int))), some (.p (.int (many : Int))), some (.p (.int (most : Int))), some (.ref 1), f5, none]) (dc := .dct (ms.map momP) vs) rfl (by simp) (ms.mergeSort mle) [] so2 (k + 1 + (0 + n * 10)) (by omega) s2 (by simp; omega)
  have nl : ns.length = ms.length := by rw [← hlen, ← n1, List.length_map]
  have hok : Ok L ns := by
    refine ⟨by omega, by omega, ?_, fun q hq => ⟨okm q.1 (by rw [← n1]; exact List.mem_map_of_mem hq), n2 q hq⟩, ?_, by omega⟩
    · rw [hr] at n1
      cases ns with
      | nil => simp at n1
      | cons q r =>
        simp only [List.map_cons, List.cons.injEq] at n1
        exact ⟨q.2, r, by rw [show q = (q.1, q.2) from rfl, n1.1]⟩
    · rw [← n1] at srt
      exact List.pairwise_map.mp srt
  refine ⟨ns, so3, [.dct (ms.map momP) vs], ?_, hok, fun q hq => gm.sh q.1 ((List.mergeSort_perm ms mle).mem_iff.mp (by rw [← n1]; exact List.mem_map_of_mem hq)), by omega, s3.mono (by omega)⟩
  simp only [List.nil_append] at e3
  rw [zn_eq]
  refine body_rt rfl ?_
  have hsd7 : startD 7 [.ref 0, .p (.int (L : Int)), .p (.int (many : Int)), .p (.int (most : Int))] = [some (.ref 0), some (.p (.int (L : Int))), some (.p (.int (many : Int))), some (.p (.int (most : Int))), none, none, none] := rfl
  rw [hsd7]
  have d0 : zn0 [some (.ref 0), some (.p (.int (L : Int))), some (.p (.int (many : Int))), some (.p (.int (most : Int))), none, none, none] [so] = .nx [some (.ref 0), some (.p (.int (L : Int))), some (.p (.int (many : Int))), some (.p (.int (most : Int))), some (.ref 1), none, none] [so, .dct ([((0, "") : Mt)].map momP) [.bl true]] := by
    have h2 : (2 : Nat) ≤ sizeLine := small_sz 2 (by decide)
    have kd : keysD [.int 0, .str ""] = some (keyM ((0, "") : Mt)) := rfl
    have e : cDispT [((cCons (cP (.int 0)) (cCons (cP (.str "")) cNil)), (cP (.bl true)))] [some (.ref 0), some (.p (.int (L : Int))), some (.p (.int (many : Int))), some (.p (.int (most : Int))), none, none, none] [so] = .ok (.ref 1) [so, .dct ([((0, "") : Mt)].map momP) [.bl true]] := by
      simp [cDispT, cPrs, pureDs, pureD, kd, h2, putT3, dputP, momP]
    rw [zn0, m_set, e]
    rfl
  have d2 : zn2 [some (.ref 0), some (.p (.int (L : Int))), some (.p (.int (many : Int))), some (.p (.int (most : Int))), some (.ref 1), none, none] [so, .dct ([((0, "") : Mt)].map momP) [.bl true]] = .nx [some (.ref 0), some (.p (.int (L : Int))), some (.p (.int (many : Int))), some (.p (.int (most : Int))), some (.ref 1), f5, none] [so2, .dct (ms.map momP) vs] := by
    have a1 : asI1 [.p (.int (n : Int))] = some (n : Int) := by
      apply m_asI1; rw [e62]; omega
    have it : iRange1 (cCons (cCall (borrowF F_law_draw) [] (cCons (cVar 0) (cCons (cOp dAdd (cVar 2) (cP (.int 1))) cNil))) cNil) [some (.ref 0), some (.p (.int (L : Int))), some (.p (.int (many : Int))), some (.p (.int (most : Int))), some (.ref 1), none, none] [so, .dct ([((0, "") : Mt)].map momP) [.bl true]] = .ok (rngP 0 n, ckT) [so1, .dct ([((0, "") : Mt)].map momP) [.bl true]] := by
      generalize [((0, "") : Mt)].map momP = k0 at *
      generalize (many : Int) = mi at *
      simp [iRange1, b1, a1]
    rw [zn2, m_for, it, m_toSI_ok _ _ _ rfl]
    exact el
  have so_ : dSorted [so2, .dct (ms.map momP) vs] (.ref 1) = some (.p (.lst ((ms.mergeSort mle).map momP))) := by
    rw [m_sorted (xs := ms.map momP) rfl (sort_ok ms (by omega)), sort_moms]
  have d3 : zn3 [some (.ref 0), some (.p (.int (L : Int))), some (.p (.int (many : Int))), some (.p (.int (most : Int))), some (.ref 1), f5, none] [so2, .dct (ms.map momP) vs] = .rt (.p (.lst (notesP ns))) [so3, .dct (ms.map momP) vs] := by
    have srl : ∀ xs S, srcG S (.p (.lst xs)) = some (xs, ckT) := fun xs S => rfl
    generalize (ms.mergeSort mle).map momP = sl at *
    generalize ms.map momP = km at *
    simp [zn3, so_, srl, wipeD, e3]
  simp only [znb1, m_seq, d0, d2, d3, m_then_nx]
end Law

set_option Elab.async false
set_option linter.all false
set_option maxRecDepth 100000
set_option maxHeartbeats 4000000
namespace Law
open PySem PySem.Spec Fe L2
/-! ### span -/
def bgL (ns : List Nt) : List Mt := ns.map (·.1)
def enL (L : Int) (ns : List Nt) : List Mt := (bgL ns).drop 1 ++ [((L, "") : Mt)]
theorem en_len (L : Int) (ns : List Nt) (h : 1 ≤ ns.length) : (enL L ns).length = ns.length := by
  simp [enL, bgL]; omega
theorem span_ok0 (L : Int) (ns : List Nt) (h : Ok L ns) (i : Nat) (hi : i < ns.length) : ∃ a b, (bgL ns)[i]? = some a ∧ (enL L ns)[i]? = some b ∧ F_Rhythm_span [.p (rhyP L ns), .p (.int (i : Int))] [] = .ok (.p (.tup [momP a, momP b])) [] := by
  have hln := h.ln
  have ii := isint_ok (i : Int)
  have f1 := fld_len L ns
  have f2 := fld_notes L ns
  have c1 := cls_rhy L ns
  have ln : ∀ S, dLen S (.p (.tup (notesP ns))) = some (.p (.int (ns.length : Nat))) := fun S => by
    show some (Fe.D.p (.int ((notesP ns).length : Nat))) = _
    simp [notesP]
  have ix : ∀ (j : Nat) (q : Nt), ns[j]? = some q → ∀ S, dIx S (.p (.tup (notesP ns))) (.p (.int (j : Int))) = some (.p (noteP q)) := fun j q hq S => by
    have hj : j < ns.length := (List.getElem?_eq_some_iff.mp hq).1
    show (atI (notesP ns) (j : Int)).map Fe.D.p = _
    rw [atI_pos (by omega) (by simp [notesP]; omega), Int.toNat_natCast]
    unfold notesP
    rw [List.getElem?_map, hq]
    rfl
  obtain ⟨q, hq⟩ : ∃ q, ns[i]? = some q := ⟨ns[i], List.getElem?_eq_getElem hi⟩
  have ix1 := ix i q hq
  have x1 := nx0 q
  have hsd : startD 3 [.p (rhyP L ns), .p (.int (i : Int))] = [some (.p (rhyP L ns)), some (.p (.int (i : Int))), none] := rfl
  have h0 : (0 : Int) ≤ i := Int.natCast_nonneg _
  have h1 : (i : Int) < (ns.length : Nat) := by omega
  have eb : (bgL ns)[i]? = some q.1 := by unfold bgL; rw [List.getElem?_map, hq]; rfl
  by_cases hl : i + 1 = ns.length
  · refine ⟨q.1, (L, ""), eb, ?_, ?_⟩
    · unfold enL
      rw [List.getElem?_append_right (by simp [bgL]; omega)]
      simp [bgL]
      rw [show i - (ns.length - 1) = 0 by omega]
      rfl
    · have hl2 : (i : Int) + 1 = (ns.length : Nat) := by omega
      have hm : momP ((L, "") : Mt) = .tup [.int L, .str ""] := rfl
      rw [hm, zv_eq]
      refine body_rt rfl ?_
      rw [hsd]
      generalize rhyP L ns = rh at *
      generalize notesP ns = al at *
      generalize noteP q = nq at *
      generalize momP q.1 = mq at *
      generalize ((ns.length : Nat) : Int) = li at *
      generalize (i : Int) = ki at *
      simp [-m_len_tup, -m_ix_tup, -m_dII, zvb0, zv0, zv1, zv2, zv3, ii, c1, f1, f2, ln, h0, h1, ix1, x1, hl2, mkTup, pureDs, pureD]
  · obtain ⟨q2, hq2⟩ : ∃ q, ns[i + 1]? = some q := ⟨ns[i + 1], List.getElem?_eq_getElem (by omega)⟩
    have ix2 := ix (i + 1) q2 hq2
    have x2 := nx0 q2
    refine ⟨q.1, q2.1, eb, ?_, ?_⟩
    · unfold enL
      rw [List.getElem?_append_left (by simp [bgL]; omega), List.getElem?_drop]
      unfold bgL
      rw [List.getElem?_map, show 1 + i = i + 1 by omega, hq2]
      rfl
    · have hl2 : ¬ (i : Int) + 1 = (ns.length : Nat) := by omega
      have ei : ((i + 1 : Nat) : Int) = (i : Int) + 1 := by omega
      rw [ei] at ix2
      rw [zv_eq]
      refine body_rt rfl ?_
      rw [hsd]
      generalize rhyP L ns = rh at *
      generalize notesP ns = al at *
      generalize noteP q = nq at *
      generalize momP q.1 = mq at *
      generalize noteP q2 = nq2 at *
      generalize momP q2.1 = mq2 at *
      generalize ((ns.length : Nat) : Int) = li at *
      generalize (i : Int) = ki at *
      simp [-m_len_tup, -m_ix_tup, -m_dII, zvb0, zv0, zv1, zv2, zv3, ii, c1, f1, f2, ln, h0, h1, ix1, x1, ix2, x2, hl2, mkTup, pureDs, pureD]
end Law

set_option Elab.async false
set_option linter.all false
set_option maxRecDepth 100000
set_option maxHeartbeats 4000000
namespace Law
open PySem PySem.Spec Fe L2
/-! ### the last beginning that is not behind a moment -/
theorem str_le (a b : Str) (S : Sto) : dLeD S (.p (.str a)) (.p (.str b)) = some (.p (.bl (!decide (b.cps.toList < a.cps.toList)))) := by
  have e : dLeD S (.p (.str a)) (.p (.str b)) = some (.p (.bl (!PySem.W.dataLt (.str b) (.str a)))) := rfl
  rw [e, PySem.W.dataLt_str]
theorem last_step (m q : Mt) (k : Nat) (x : P) (e0 : Option Fe.D) (S : Sto) :
    zlb0 [e0, some (.p (momP m)), some (.p x), some (.p (.int (k : Int))), some (.p (momP q))] S = .nx [e0, some (.p (momP m)), some (.p (if mle q m = true then .int (k : Int) else x)), some (.p (.int (k : Int))), some (.p (momP q))] S := by
  have a0 := mx0 m
  have a1 := mx1 m
  have b0 := mx0 q
  have b1 := mx1 q
  have sl := str_le q.2 m.2
  have hm : mle q m = (decide (q.1 < m.1) || (decide (q.1 = m.1) && !decide (m.2.cps.toList < q.2.cps.toList))) := by
    rw [Bool.eq_iff_iff]
    unfold mle
    rw [Bool.not_eq_true', ← Bool.not_eq_true, mlt_iff]
    simp only [Bool.or_eq_true, Bool.and_eq_true, decide_eq_true_eq, Bool.not_eq_true', decide_eq_false_iff_not]
    constructor
    · intro h
      by_cases h1 : q.1 < m.1
      · exact .inl h1
      · have h2 : ¬ m.1 < q.1 := fun z => h (.inl z)
        have h3 : q.1 = m.1 := by omega
        exact .inr ⟨h3, fun z => h (.inr ⟨h3.symm, z⟩)⟩
    · rintro (h | ⟨h, h'⟩) (z | ⟨z, z'⟩)
      · omega
      · omega
      · omega
      · exact h' z'
  rw [hm]
  generalize decide (m.2.cps.toList < q.2.cps.toList) = B at *
  generalize momP m = mm at *
  generalize momP q = mq at *
  generalize q.1 = i at *
  generalize m.1 = j at *
  generalize q.2 = z at *
  generalize m.2 = z' at *
  generalize (k : Int) = ki at *
  by_cases h1 : i < j
  · simp [zlb0, zl1, a0, b0, h1]
  · by_cases h2 : i = j
    · cases B <;> simp [zlb0, zl1, a0, a1, b0, b1, h1, h2, sl]
    · simp [zlb0, zl1, a0, b0, h1, h2]
theorem last_loop (m : Mt) (e0 : Option Fe.D) (S : Sto) : ∀ (ms : List Mt) (k : Nat) (x : P) (e3 e4 : Option Fe.D), ms.Pairwise (fun a b => mlt a b = true) → ∃ f3 f4, forL ckT (gT 2 (gCons' (gN 3) (gCons' (gN 4) gNil'))) zlb0 (enumP k (ms.map momP)) [e0, some (.p (momP m)), some (.p x), e3, e4] S =
    .nx [e0, some (.p (momP m)), some (.p (if (ms.filter fun q => mle q m).length = 0 then x else .int ((k : Int) + (ms.filter fun q => mle q m).length - 1))), f3, f4] S
  | [], k, x, e3, e4, _ => ⟨e3, e4, rfl⟩
  | q :: ms, k, x, e3, e4, hs => by
    obtain ⟨s1, s2⟩ := List.pairwise_cons.mp hs
    have st := last_step m q k x e0 S
    obtain ⟨f3, f4, ih⟩ := last_loop m e0 S ms (k + 1) (if mle q m = true then .int (k : Int) else x) (some (.p (.int (k : Int)))) (some (.p (momP q))) s2
    refine ⟨f3, f4, ?_⟩
    show forL ckT _ zlb0 (.tup [.int k, momP q] :: enumP (k + 1) (ms.map momP)) _ S = _
    rw [forL_nx (S1 := S) (env1 := [e0, some (.p (momP m)), some (.p x), some (.p (.int (k : Int))), some (.p (momP q))]) rfl st, ih]
    congr 4
    · rw [List.filter_cons]
      cases hq : mle q m with
      | true =>
        simp only [if_true, List.length_cons]
        by_cases h0 : (ms.filter fun q => mle q m).length = 0
        · rw [if_pos h0, if_neg (by omega), h0]
          congr 4
          omega
        · rw [if_neg h0, if_neg (by omega)]
          congr 4
          omega
      | false =>
        have : ms.filter (fun q => mle q m) = [] := by
          rw [List.filter_eq_nil_iff]
          intro y hy hym
          have b := (mle_not _ _).mp hq
          have := lt_le (mlt_trans b (s1 y hy)) hym
          rw [mlt_irr] at this; cases this
        rw [this]
        simp
theorem last_ok0 (L : Int) (ns : List Nt) (h : Ok L ns) (m : Mt) (h0 : 0 ≤ m.1) : F_law_last [.p (.lst ((bgL ns).map momP)), .p (momP m)] [] = .ok (.p (.int ((cntN ns m : Int) - 1))) [] := by
  have c := ok_cnt h m h0
  have hsrt : (bgL ns).Pairwise (fun a b => mlt a b = true) := List.pairwise_map.mpr h.so
  obtain ⟨f3, f4, el⟩ := last_loop m (some (.p (.lst ((bgL ns).map momP)))) [] (bgL ns) 0 (.int 0) none none hsrt
  have ec : ((bgL ns).filter fun q => mle q m).length = cntN ns m := by
    unfold cntN upto bgL
    rw [List.filter_map, List.length_map]
    rfl
  rw [ec, if_neg (by omega)] at el
  rw [zl_eq]
  refine body_rt rfl ?_
  have hsd : startD 5 [.p (.lst ((bgL ns).map momP)), .p (momP m)] = [some (.p (.lst ((bgL ns).map momP))), some (.p (momP m)), none, none, none] := rfl
  rw [hsd]
  have d0 : ∀ S, zl0 [some (.p (.lst ((bgL ns).map momP))), some (.p (momP m)), none, none, none] S = .nx [some (.p (.lst ((bgL ns).map momP))), some (.p (momP m)), some (.p (.int 0)), none, none] S := fun S => rfl
  have d2 : zl2 [some (.p (.lst ((bgL ns).map momP))), some (.p (momP m)), some (.p (.int 0)), none, none] [] = .nx [some (.p (.lst ((bgL ns).map momP))), some (.p (momP m)), some (.p (.int ((((0 : Nat) : Int) + (cntN ns m : Int) - 1)))), f3, f4] [] := by
    have it : iEnumP (cCons (cVar 0) cNil) [some (.p (.lst ((bgL ns).map momP))), some (.p (momP m)), some (.p (.int 0)), none, none] [] = .ok (enumP 0 ((bgL ns).map momP), ckT) [] := rfl
    rw [zl2, m_for, it, m_toSI_ok _ _ _ rfl]
    exact el
  simp only [zlb1, m_seq, d0, d2, m_then_nx]
  have e : ((0 : Nat) : Int) + (cntN ns m : Int) - 1 = (cntN ns m : Int) - 1 := by omega
  rw [e]
  rfl
theorem last_ok (L : Int) (ns : List Nt) (h : Ok L ns) (m : Mt) (h0 : 0 ≤ m.1) (S : Sto) : pureF F_law_last [.p (.lst ((bgL ns).map momP)), .p (momP m)] S = .ok (.p (.int ((cntN ns m : Int) - 1))) S :=
  pure_ok [.lst ((bgL ns).map momP), momP m] rfl (last_ok0 L ns h m h0)
/-! ### what is told of a point -/
theorem told_pt {fb : CE'} {env : DEnv} {S S' : Sto} {x : P} (hn : NoFn env) (h : fb env S = .exc 2 ["point"] [x] S') : cLam 6 G_law_told fb env S = .ok (.p (.lst [.str "point", x])) S' := by
  refine cLam_eq fun a c q σ => lam_rt ?_
  have hf : fb (capE (.fn a c q (env.map cap) σ)) S = .exc 2 ["point"] [x] S' := by rw [capE_nf hn]; exact h
  unfold G_law_told
  simp only [startD, m_seq]
  simp
  rw [try_exc (S1 := S') (c := 2) (ns := ["point"]) (vs := [x]) (e := [some (.fn a c q (env.map cap) σ), some (.p .non), none, none, none, none]) (by simp [m_act, hf]) rfl]
  have t1 : t_isa_BadRhythm_BadFigure (tgP (.exc 2 ["point"] [x])) = some false := rfl
  have t2 : t_isa_BadPoint (tgP (.exc 2 ["point"] [x])) = some true := rfl
  have t3 : dXf "point" t_xf_point (.p (.exc 2 ["point"] [x])) = some (.p x) := rfl
  simp [t1, t2, t3, m_lst_eq, mkLst, pureDs, pureD]
end Law

set_option Elab.async false
set_option linter.all false
set_option maxRecDepth 100000
set_option maxHeartbeats 4000000
namespace Law
open PySem PySem.Spec Fe L2
theorem add_str (a b : Str) (h : a.length + b.length ≤ 60000) (S : Sto) : dAdd S (.p (.str a)) (.p (.str b)) = some (.p (.str (a ++ b))) := by
  have : a.length + b.length ≤ sizeLine := Nat.le_trans h (small_sz _ (by decide))
  simp only [dAdd]
  rw [if_pos this]
theorem cut_init (z : Str) : cutS z none (some (-1)) = ⟨z.cps.toList.dropLast.toArray⟩ := by
  have hl : z.cps.toList.length = z.length := by simp [Str.length]
  unfold cutS
  have e1 : HT.sIx z.length 0 none = 0 := rfl
  have e2 : HT.sIx z.length z.length (some (-1)) = z.length - 1 := by
    show (if (-1 : Int) < 0 then (-1 + (z.length : Int)).toNat else min (-1 : Int).toNat z.length) = _
    rw [if_pos (by decide)]; omega
  rw [e1, e2]
  congr 2
  rw [List.drop_zero, List.dropLast_eq_take, hl]
  rfl
/-! ### a moment near a beginning -/
theorem app_cps (a b : Str) : (a ++ b).cps.toList = a.cps.toList ++ b.cps.toList := by
  show (a.cps ++ b.cps).toList = _
  simp
theorem rep_text (z : Str) (c : Nat) (hz : z.cps.toList = [c]) (n : Int) (h0 : 0 ≤ n) (h1 : n ≤ 100) : ∃ y : Str, (∀ S, dMulT S (.p (.str z)) (.p (.int n)) = some (.p (.str y))) ∧ y.cps.toList = List.replicate n.toNat c := by
  have lz : z.length = 1 := by
    have := congrArg List.length hz
    simpa [Str.length] using this
  refine ⟨Txt.mul z n, fun S => ?_, ?_⟩
  · show (if n ≤ 1000000 ∧ -1000000 ≤ n ∧ z.length * n.toNat ≤ 16000000 then some (D.p (.str (Txt.mul z n))) else none) = _
    rw [if_pos (by rw [lz]; omega)]
  · rw [mul_cps, hz]
    induction n.toNat with
    | zero => rfl
    | succ k ih => rw [List.replicate_succ, List.flatten_cons, ih]; rfl
theorem bits_all {l : List Nat} (h : bitsL l = true) : ∀ c ∈ l, c = 48 ∨ c = 49 := by
  unfold bitsL at h
  simp only [Bool.and_eq_true, List.all_eq_true, Bool.or_eq_true, beq_iff_eq] at h
  exact fun c hc => h.1 c hc
theorem bits_one (l : List Nat) (h : ∀ c ∈ l, c = 48 ∨ c = 49) : bitsL (l ++ [49]) = true := by
  unfold bitsL
  have : ((l ++ [49]).all fun c => c == 48 || c == 49) = true := by
    rw [List.all_eq_true]
    intro c hc
    rcases List.mem_append.mp hc with hc | hc
    · rcases h c hc with rfl | rfl <;> rfl
    · simp at hc; subst hc; rfl
  rw [this]
  simp
theorem len_cps (z : Str) : z.length = z.cps.toList.length := by simp [Str.length]
theorem near_ok (L : Nat) (hL : L ≤ 240) (m : Mt) (hm : OkM L m) (hs : m.2.length ≤ 600) (so : SO) (k : Nat) (hk : k ≤ 70000) (hsd : Sd k so) :
    ∃ (m' : Mt) (so' : SO), F_law_near [.ref 0, .p (momP m), .p (.int (L : Int))] [so] = .ok (.p (momP m')) [so'] ∧ OkM L m' ∧ Sd (k + 10) so' := by
  have l1 : (1 : Int) ≤ L := by have := hm.lo; have := hm.hi; omega
  obtain ⟨r, so1, b1, r0, r1, s1⟩ := sd_draw (S := [so]) (p := 0) hsd rfl 4
  have b1 : borrowF F_law_draw [.ref 0, .p (.int 4)] [so] = .ok (.p (.int r)) [so1] := b1
  have gt : ∀ env S, gT 2 (gCons' (gN 3) (gCons' (gN 4) gNil')) (.p (momP m)) env S = some ((env.set 3 (some (.p (.int m.1)))).set 4 (some (.p (.str m.2))), S) := fun env S => rfl
  have hsd6 : startD 6 [.ref 0, .p (momP m), .p (.int (L : Int))] = [some (.ref 0), some (.p (momP m)), some (.p (.int (L : Int))), none, none, none] := rfl
  have all := bits_all hm.bi
  have lm := len_cps m.2
  by_cases c0 : r = 0
  · subst c0
    refine ⟨m, so1, ?_, hm, s1.mono (by omega)⟩
    rw [zy_eq]
    refine body_rt rfl ?_
    rw [hsd6]
    generalize momP m = mp at *
    simp [zyb0, zy0, zy1, zy2, gt, b1]
  by_cases c1 : r = 1
  · subst c1
    obtain ⟨r2, so2, b2, r20, r21, s2⟩ := sd_draw (S := [so1]) (p := 0) s1 rfl 5
    have b2 : borrowF F_law_draw [.ref 0, .p (.int 5)] [so1] = .ok (.p (.int r2)) [so2] := b2
    obtain ⟨y, hy, ey⟩ := rep_text "0" 48 (by decide +kernel) r2 r20 (by omega)
    have ly := len_cps y
    rw [ey, List.length_replicate] at ly
    have e1 : ("1" : Str).cps.toList = [49] := by decide +kernel
    have a1 := add_str m.2 y (by omega)
    have l2 : (m.2 ++ y).length = m.2.length + y.length := by rw [len_cps, app_cps, List.length_append, ← len_cps, ← len_cps]
    have a2 := add_str (m.2 ++ y) "1" (by rw [l2]; have : ("1" : Str).length = 1 := rfl; omega)
    refine ⟨(m.1, m.2 ++ y ++ "1"), so2, ?_, ⟨hm.lo, hm.hi, ?_, ?_⟩, s2.mono (by omega)⟩
    · rw [zy_eq]
      refine body_rt rfl ?_
      rw [hsd6]
      have hr : momP (m.1, m.2 ++ y ++ "1") = .tup [.int m.1, .str (m.2 ++ y ++ "1")] := rfl
      rw [hr]
      generalize momP m = mp at *
      generalize m.2 ++ y ++ "1" = w at *
      generalize m.2 ++ y = w' at *
      generalize m.2 = z at *
      generalize m.1 = i at *
      simp [-m_dII, zyb0, zy0, zy1, zy2, zy3, gt, b1, b2, hy, a1, a2, mkTup, pureDs, pureD]
    · show bitsL (m.2 ++ y ++ "1").cps.toList = true
      rw [app_cps, app_cps, e1, ey]
      refine bits_one _ fun c hc => ?_
      rcases List.mem_append.mp hc with hc | hc
      · exact all c hc
      · exact .inl (List.eq_of_mem_replicate hc)
    · show (m.2 ++ y ++ "1").length ≤ 5000
      rw [len_cps, app_cps, List.length_append, ← len_cps, l2, e1]
      simp; omega
  by_cases c2 : r = 2 ∧ m.2 ≠ ""
  · obtain ⟨rfl, hne⟩ := c2
    obtain ⟨r2, so2, b2, r20, r21, s2⟩ := sd_draw (S := [so1]) (p := 0) s1 rfl 4
    have b2 : borrowF F_law_draw [.ref 0, .p (.int 4)] [so1] = .ok (.p (.int r2)) [so2] := b2
    obtain ⟨y, hy, ey⟩ := rep_text "1" 49 (by decide +kernel) (1 + r2) (by omega) (by omega)
    have ly := len_cps y
    rw [ey, List.length_replicate] at ly
    have e0 : ("0" : Str).cps.toList = [48] := by decide +kernel
    obtain ⟨u, hu⟩ : ∃ u : Str, u = cutS m.2 none (some (-1)) := ⟨_, rfl⟩
    have eu : u.cps.toList = m.2.cps.toList.dropLast := by rw [hu, cut_init]
    have lu := len_cps u
    rw [eu, List.length_dropLast] at lu
    have a1 := add_str u "0" (by have : ("0" : Str).length = 1 := rfl; omega)
    have l2 : (u ++ "0").length = u.length + 1 := by rw [len_cps, app_cps, List.length_append, ← len_cps, e0]; rfl
    have a2 := add_str (u ++ "0") y (by rw [l2]; omega)
    have sl : ∀ S, dSl S (.p (.str m.2)) none (some (-1)) = some (.p (.str u)) := fun S => by
      rw [hu]
      show (if m.2.length ≤ sizeLine then some (D.p (.str (cutS m.2 none (some (-1))))) else none) = _
      rw [if_pos (Nat.le_trans (by omega : m.2.length ≤ 50000) (small_sz 50000 (by decide)))]
    refine ⟨(m.1, u ++ "0" ++ y), so2, ?_, ⟨hm.lo, hm.hi, ?_, ?_⟩, s2.mono (by omega)⟩
    · rw [zy_eq]
      refine body_rt rfl ?_
      rw [hsd6]
      have hr : momP (m.1, u ++ "0" ++ y) = .tup [.int m.1, .str (u ++ "0" ++ y)] := rfl
      rw [hr]
      clear hu eu
      generalize momP m = mp at *
      generalize u ++ "0" ++ y = w at *
      generalize u ++ "0" = w' at *
      generalize m.2 = z at *
      generalize m.1 = i at *
      simp [-m_dII, zyb0, zy0, zy1, zy2, zy3, zy4, gt, b1, b2, hy, hne, oSome, asI, dNeg, sl, a1, a2, mkTup, pureDs, pureD]
    · show bitsL (u ++ "0" ++ y).cps.toList = true
      rw [app_cps, app_cps, e0, ey, eu]
      obtain ⟨j, hj⟩ : ∃ j, (1 + r2).toNat = j + 1 := ⟨r2.toNat, by omega⟩
      rw [hj, List.replicate_succ', ← List.append_assoc]
      refine bits_one _ fun c hc => ?_
      rcases List.mem_append.mp hc with hc | hc
      · rcases List.mem_append.mp hc with hc | hc
        · exact all c (List.dropLast_subset _ hc)
        · simp at hc; exact .inl hc
      · exact .inr (List.eq_of_mem_replicate hc)
    · show (u ++ "0" ++ y).length ≤ 5000
      rw [len_cps, app_cps, List.length_append, ← len_cps, l2, ey, List.length_replicate]
      omega
  · obtain ⟨r2, so2, b2, r20, r21, s2⟩ := sd_draw (S := [so1]) (p := 0) s1 rfl (L : Int)
    have b2 : borrowF F_law_draw [.ref 0, .p (.int (L : Int))] [so1] = .ok (.p (.int r2)) [so2] := b2
    obtain ⟨z, so3, ez, bz, lz, s3⟩ := digits_ok 6 (by decide) so2 (k + 1 + 1) (by omega) s2
    have b3 : borrowF F_law_bits [.ref 0, .p (.int 6)] [so2] = .ok (.p (.str z)) [so3] := sd_borrow (S := [so2]) (p := 0) (k := k + 1 + 1) [.int 6] rfl s2 ez s3.live
    refine ⟨(r2, z), so3, ?_, ⟨r20, r21, bz, Nat.le_trans lz (by decide)⟩, s3.mono (by omega)⟩
    rw [zy_eq]
    refine body_rt rfl ?_
    rw [hsd6]
    have hr : momP (r2, z) = .tup [.int r2, .str z] := rfl
    rw [hr]
    generalize momP m = mp at *
    generalize m.2 = z' at *
    generalize m.1 = i at *
    generalize (L : Int) = Li at *
    by_cases c3 : r = 2
    · subst c3
      have hz : z' = "" := Decidable.byContradiction fun h => c2 ⟨rfl, h⟩
      simp [-m_dII, zyb0, zy0, zy1, zy2, zy3, zy4, zy5, gt, b1, b2, b3, hz, mkTup, pureDs, pureD]
    · simp [-m_dII, zyb0, zy0, zy1, zy2, zy3, zy4, zy5, gt, b1, b2, b3, c0, c1, c3, mkTup, pureDs, pureD]
end Law

set_option Elab.async false
set_option linter.all false
set_option maxRecDepth 100000
set_option maxHeartbeats 4000000
namespace Law
open PySem PySem.Spec Fe L2
/-! ### values that are no moments -/
/-- a pair of an integer and a text: is it a moment -/
def momB (L i : Int) (z : Str) : Bool := decide (0 ≤ i) && (decide (i < L) && ((z.cps.toList.all fun c => c == 48 || c == 49) && !(z.cps.toList.getLast? == some 48)))
theorem momB_ok0 (L i : Int) (z : Str) (hz : z.length ≤ 5000) : F_is_moment [.p (.tup [.int i, .str z]), .p (.int L)] [] = .ok (.p (.bl (momB L i z))) [] := by
  refine body_rt rfl ?_
  have key := lc_pure (env := [some (.p (.tup [.int i, .str z])), some (.p (.int L)), some (.p (.int i)), some (.p (.str z)), none]) (S := []) (i := 4) (fe := cOp dIn (cVar 4) (cP (.str "01"))) (f := sgF) (signs z) [] (by
      have : (signs z).length = z.length := by simp [signs, Str.length]
      simp; omega) (fun x hx => by
      simp only [signs, List.mem_map] at hx
      obtain ⟨c, _, rfl⟩ := hx
      simp [sign_in, sgF])
  have ha : dAll [] (.p (.lst ((signs z).map sgF))) = some (.p (.bl (z.cps.toList.all fun c => c == 48 || c == 49))) := by
    rw [sgF_map]
    simp only [dAll, asL, Option.bind_some, asBools_gen, Option.map_some, List.all_map]
    rfl
  simp only [List.nil_append] at key
  have tx : ∀ S, iTxt (cVar 3) [some (.p (.tup [.int i, .str z])), some (.p (.int L)), some (.p (.int i)), some (.p (.str z)), none] S = .ok (signs z, ckT) S := fun S => rfl
  have h0 : decide (cutS z (some (-1)) none = ("0" : Str)) = (z.cps.toList.getLast? == some 48) := by
    have := last_zero z []
    rw [m_eq_str] at this
    simpa using this
  have t1 : t_isa_tuple (tgP (.tup [.int i, .str z])) = some true := rfl
  have t2 : t_isa_str (tgP (.str z)) = some true := rfl
  have ln : ∀ S, dLen S (.p (.tup [.int i, .str z])) = some (.p (.int 2)) := fun S => rfl
  have i0 : ∀ S, dIx S (.p (.tup [.int i, .str z])) (.p (.int 0)) = some (.p (.int i)) := fun S => rfl
  have i1 : ∀ S, dIx S (.p (.tup [.int i, .str z])) (.p (.int 1)) = some (.p (.str z)) := fun S => rfl
  have ii := isint_ok i
  have gt : ∀ env S, gT 2 (gCons' (gN 2) (gCons' (gN 3) gNil')) (.p (.tup [.int i, .str z])) env S = some ((env.set 2 (some (.p (.int i)))).set 3 (some (.p (.str z))), S) := fun env S => rfl
  have sl : ∀ S, dSl S (.p (.str z)) (some (-1)) none = some (.p (.str (cutS z (some (-1)) none))) := fun S => by
    show (if z.length ≤ sizeLine then some (D.p (.str (cutS z (some (-1)) none))) else none) = _
    rw [if_pos (Nat.le_trans (by omega : z.length ≤ 50000) (small_sz 50000 (by decide)))]
  generalize hmp : P.tup [.int i, .str z] = mp at *
  have hsd : startD 5 [.p mp, .p (.int L)] = [some (.p mp), some (.p (.int L)), none, none, none] := rfl
  rw [hsd]
  unfold momB
  rw [← h0]
  generalize (z.cps.toList.all fun c => c == 48 || c == 49) = A at *
  by_cases h1 : 0 ≤ i
  · by_cases h2 : i < L
    · cases A
      · simp [-m_dII, -m_len_tup, -m_ix_tup, t1, t2, ln, i0, i1, ii, gt, h1, h2, tx, wipeD, key, ha]
      · by_cases h3 : cutS z (some (-1)) none = ("0" : Str) <;>
          simp [-m_dII, -m_len_tup, -m_ix_tup, t1, t2, ln, i0, i1, ii, gt, h1, h2, tx, wipeD, key, ha, sl, dNeg, oSome, asI, h3]
    · simp [-m_dII, -m_len_tup, -m_ix_tup, t1, t2, ln, i0, i1, ii, gt, h1, h2]
  · simp [-m_dII, -m_len_tup, -m_ix_tup, t1, t2, ln, i0, i1, ii, gt, h1]
end Law

set_option Elab.async false
set_option linter.all false
set_option maxRecDepth 100000
set_option maxHeartbeats 4000000
namespace Law
open PySem PySem.Spec Fe L2
theorem at_bad (L : Int) (ns : List Nt) (x : P) (hb : F_is_moment [.p x, .p (.int L)] [] = .ok (.p (.bl false)) []) (S : Sto) : pureF F_Rhythm_at [.p (rhyP L ns), .p x] S = .exc 2 ["point"] [x] S := by
  have key : F_Rhythm_at [.p (rhyP L ns), .p x] [] = .exc 2 ["point"] [x] [] := by
    have mo : ∀ S, pureF F_is_moment [.p x, .p (.int L)] S = .ok (.p (.bl false)) S := fun S => pure_ok [x, .int L] rfl hb
    have f1 := fld_len L ns
    have c1 := cls_rhy L ns
    rw [za_eq]
    refine body_exc (e := [some (.p (rhyP L ns)), some (.p x), none]) rfl ?_
    have hsd : startD 3 [.p (rhyP L ns), .p x] = [some (.p (rhyP L ns)), some (.p x), none] := rfl
    rw [hsd]
    generalize rhyP L ns = rh at *
    simp [za0, za1, c1, f1, mo, sRaiseX, pureD]
  exact pure_exc [rhyP L ns, x] rfl key
def oddA (L : Int) : List P := [.non, .tup [.int L, .str ""], .tup [.int 0, .str "0"], .tup [.int (-1), .str ""], .str "0", .tup [.int 0], .tup [.bl false, .str ""], .lst [.int 0, .str ""], .tup [.int 0, .str "12"], .tup [.int (L + 3), .str "1"], .int 0]
def oddB : List P := [.tup [.int 0, .non], .tup [.int 0, .str "", .str ""], .dct [] [], .tup [.int 0, .str "10"]]
theorem isint_no (x : P) (h : t_isa_int (tgP x) = some false) (S : Sto) : pureF F_is_integer [.p x] S = .ok (.p (.bl false)) S := by
  refine pure_ok (S' := []) [x] rfl (body_rt rfl ?_)
  have hsd : startD 1 [.p x] = [some (.p x)] := rfl
  rw [hsd]
  simp [h]
theorem notup (L : Int) (x : P) (h : t_isa_tuple (tgP x) = some false) : F_is_moment [.p x, .p (.int L)] [] = .ok (.p (.bl false)) [] := by
  refine body_rt rfl ?_
  have hsd : startD 5 [.p x, .p (.int L)] = [some (.p x), some (.p (.int L)), none, none, none] := rfl
  rw [hsd]
  simp [h]
theorem odd_ok (L : Int) (hL : 1 ≤ L) : ∀ x ∈ oddA L ++ oddB, F_is_moment [.p x, .p (.int L)] [] = .ok (.p (.bl false)) [] := by
  intro x hx
  have mb : ∀ i z, z.length ≤ 5000 → momB L i z = false → F_is_moment [.p (.tup [.int i, .str z]), .p (.int L)] [] = .ok (.p (.bl false)) [] := fun i z hz h => by
    rw [← h]; exact momB_ok0 L i z hz
  have ln : ∀ (xs : List P) S, dLen S (.p (.tup xs)) = some (.p (.int xs.length)) := fun xs S => rfl
  have tt : ∀ xs : List P, t_isa_tuple (tgP (.tup xs)) = some true := fun _ => rfl
  simp only [oddA, oddB, List.cons_append, List.nil_append, List.mem_cons, List.not_mem_nil, or_false] at hx
  rcases hx with rfl | rfl | rfl | rfl | rfl | rfl | rfl | rfl | rfl | rfl | rfl | rfl | rfl | rfl | rfl
  · exact notup L _ rfl
  · exact mb L "" (by decide) (by
      unfold momB
      have : ¬ L < L := by omega
      simp [this])
  · exact mb 0 "0" (by decide +kernel) (by
      unfold momB
      rw [show (!(("0" : Str).cps.toList.getLast? == some 48)) = false by decide +kernel]
      simp)
  · exact mb (-1) "" (by decide) (by unfold momB; simp)
  · exact notup L _ rfl
  · refine body_rt rfl ?_
    have hsd : startD 5 [.p (.tup [.int 0]), .p (.int L)] = [some (.p (.tup [.int 0])), some (.p (.int L)), none, none, none] := rfl
    rw [hsd]
    simp [tt]
  · refine body_rt rfl ?_
    have hsd : startD 5 [.p (.tup [.bl false, .str ""]), .p (.int L)] = [some (.p (.tup [.bl false, .str ""])), some (.p (.int L)), none, none, none] := rfl
    have ib : ∀ S, pureF F_is_integer [.p (.bl false)] S = .ok (.p (.bl false)) S := fun S => pure_ok (S' := []) [.bl false] rfl rfl
    have x0 : ∀ S, dIx S (.p (.tup [.bl false, .str ""])) (.p (.int 0)) = some (.p (.bl false)) := fun S => rfl
    rw [hsd]
    simp [-m_ix_tup, tt, x0, ib]
  · exact notup L _ rfl
  · exact mb 0 "12" (by decide +kernel) (by
      unfold momB
      rw [show (("12" : Str).cps.toList.all fun c => c == 48 || c == 49) = false by decide +kernel]
      simp)
  · exact mb (L + 3) "1" (by decide +kernel) (by
      unfold momB
      have : ¬ L + 3 < L := by omega
      simp [this])
  · exact notup L _ rfl
  · refine body_rt rfl ?_
    have hsd : startD 5 [.p (.tup [.int 0, .non]), .p (.int L)] = [some (.p (.tup [.int 0, .non])), some (.p (.int L)), none, none, none] := rfl
    have i0 := isint_ok 0
    have x0 : ∀ S, dIx S (.p (.tup [.int 0, .non])) (.p (.int 0)) = some (.p (.int 0)) := fun S => rfl
    have x1 : ∀ S, dIx S (.p (.tup [.int 0, .non])) (.p (.int 1)) = some (.p .non) := fun S => rfl
    have t2 : t_isa_str (tgP .non) = some false := rfl
    rw [hsd]
    simp [-m_ix_tup, tt, x0, x1, i0, t2]
  · refine body_rt rfl ?_
    have hsd : startD 5 [.p (.tup [.int 0, .str "", .str ""]), .p (.int L)] = [some (.p (.tup [.int 0, .str "", .str ""])), some (.p (.int L)), none, none, none] := rfl
    rw [hsd]
    simp [tt]
  · exact notup L _ rfl
  · exact mb 0 "10" (by decide +kernel) (by
      unfold momB
      rw [show (!(("10" : Str).cps.toList.getLast? == some 48)) = false by decide +kernel]
      simp)
end Law

set_option Elab.async false
set_option linter.all false
set_option maxRecDepth 100000
set_option maxHeartbeats 4000000
namespace Law
open PySem PySem.Spec Fe L2
/-! ### all spans -/
def spL (L : Int) (ns : List Nt) : List P := zipP ((bgL ns).map momP) ((enL L ns).map momP)
theorem spL_at (L : Int) (ns : List Nt) (i : Nat) (a b : Mt) (ha : (bgL ns)[i]? = some a) (hb : (enL L ns)[i]? = some b) : (spL L ns)[i]? = some (.tup [momP a, momP b]) := by
  unfold spL
  have key : ∀ (xs ys : List P) (j : Nat) (x y : P), xs[j]? = some x → ys[j]? = some y → (zipP xs ys)[j]? = some (.tup [x, y]) := by
    intro xs
    induction xs with
    | nil => intro ys j x y h _; simp at h
    | cons u xs ih =>
      intro ys j x y h1 h2
      cases ys with
      | nil => simp at h2
      | cons w ys =>
        cases j with
        | zero => simp at h1 h2; subst h1 h2; rfl
        | succ j => simp only [zipP, List.getElem?_cons_succ] at h1 h2 ⊢; exact ih ys j x y h1 h2
  exact key _ _ i _ _ (by rw [List.getElem?_map, ha]; rfl) (by rw [List.getElem?_map, hb]; rfl)
theorem spL_len (L : Int) (ns : List Nt) (h : 1 ≤ ns.length) : (spL L ns).length = ns.length := by
  unfold spL
  rw [zipP_len, List.length_map, List.length_map, en_len L ns h]
  simp [bgL]
def spF (sp : List P) : P → P
  | .int k => (sp[k.toNat]?).getD .non
  | _ => .non
theorem spF_map (sp : List P) : (rngP 0 sp.length).map (spF sp) = sp := by
  unfold rngP
  rw [List.map_map]
  apply List.ext_getElem?
  intro i
  rw [List.getElem?_map]
  by_cases hi : i < sp.length
  · rw [List.getElem?_range hi, List.getElem?_eq_getElem hi]
    simp only [Option.map_some, Function.comp, spF]
    rw [show ((0 : Int) + (i : Nat)).toNat = i by omega, List.getElem?_eq_getElem hi]
    rfl
  · rw [List.getElem?_eq_none (by simpa using hi), List.getElem?_eq_none (by omega)]
    rfl
theorem span_bad (L : Int) (ns : List Nt) (hl : ns.length ≤ 200) (x : P) (hx : t_isa_int (tgP x) = some false ∨ (∃ b, x = .bl b) ∨ ∃ i, x = .int i ∧ (i < 0 ∨ (ns.length : Int) ≤ i)) (S : Sto) : pureF F_Rhythm_span [.p (rhyP L ns), .p x] S = .exc 12 [] [] S := by
  have key : F_Rhythm_span [.p (rhyP L ns), .p x] [] = .exc 12 [] [] [] := by
    rw [zv_eq]
    refine body_exc (e := [some (.p (rhyP L ns)), some (.p x), none]) rfl ?_
    have f2 := fld_notes L ns
    have c1 := cls_rhy L ns
    have ln : ∀ S, dLen S (.p (.tup (notesP ns))) = some (.p (.int (ns.length : Nat))) := fun S => by
      show some (Fe.D.p (.int ((notesP ns).length : Nat))) = _
      simp [notesP]
    have hsd : startD 3 [.p (rhyP L ns), .p x] = [some (.p (rhyP L ns)), some (.p x), none] := rfl
    rw [hsd]
    generalize rhyP L ns = rh at *
    generalize notesP ns = al at *
    rcases hx with hx | ⟨b, rfl⟩ | ⟨i, rfl, hi⟩
    · have ix := isint_no x hx
      simp [zvb0, zv0, ix]
    · have ix : ∀ S, pureF F_is_integer [.p (.bl b)] S = .ok (.p (.bl false)) S := fun S => pure_ok (S' := []) [.bl b] rfl rfl
      simp [zvb0, zv0, ix]
    · have ix := isint_ok i
      generalize ((ns.length : Nat) : Int) = li at *
      by_cases h0 : 0 ≤ i
      · have h1 : ¬ i < li := by omega
        simp [-m_len_tup, zvb0, zv0, ix, c1, f2, ln, h0, h1]
      · simp [-m_len_tup, zvb0, zv0, ix, h0]
  exact pure_exc [rhyP L ns, x] rfl key
theorem lay_mom (m : Mt) (h0 : 0 ≤ m.1) (h1 : m.1 ≤ 240) (h2 : bitsL m.2.cps.toList = true) (h3 : m.2.length ≤ 5000) : Lay (momP m) 10002 1 := by
  have b := big240
  exact lay_pair (w := 5000) (d := 0) (lay_int (by omega) (by decide)) (lay_str (bits_ascii h2) h3)
end Law

set_option Elab.async false
set_option linter.all false
set_option maxRecDepth 100000
set_option maxHeartbeats 4000000
namespace Law
open PySem PySem.Spec Fe L2
theorem ok_moms {L : Int} {ns : List Nt} (h : Ok L ns) : ∀ m ∈ bgL ns, OkM L m := by
  intro m hm
  obtain ⟨q, hq, rfl⟩ := List.mem_map.mp hm
  exact (h.ok q hq).1
theorem lay_span {L : Int} {ns : List Nt} (h : Ok L ns) (i : Nat) (a b : Mt) (ha : (bgL ns)[i]? = some a) (hb : (enL L ns)[i]? = some b) : Lay (.tup [momP a, momP b]) 20006 2 := by
  have l2 := h.l2
  have l1 := h.l1
  have la : ∀ m, OkM L m → Lay (momP m) 10002 1 := fun m hm => lay_mom m hm.lo (by have := hm.hi; omega) hm.bi hm.sz
  have hA := la a (ok_moms h a (List.mem_of_getElem? ha))
  have hB : Lay (momP b) 10002 1 := by
    have := List.mem_of_getElem? hb
    unfold enL at this
    rcases List.mem_append.mp this with q | q
    · exact la b (ok_moms h b (List.mem_of_mem_drop q))
    · simp at q; subst q
      exact lay_mom (L, "") (by simp only; omega) l2 rfl (by decide : ("" : Str).length ≤ 5000)
  exact lay_pair hA hB
theorem spans_same {L : Int} {ns : List Nt} (h : Ok L ns) (S : Sto) : dNe S (.p (.lst (spL L ns))) (.p (.lst (spL L ns))) = some (.p (.bl false)) := by
  have c : 1 ≤ ns.length := by obtain ⟨z, r, rfl⟩ := h.hd; simp
  refine (same_lay (lay_lst (lays_all (w := 20006) (d := 2) fun x hx => ?_)) (by decide)).2
  obtain ⟨i, hi⟩ := List.mem_iff_getElem?.mp hx
  have hlt : i < ns.length := by rw [← spL_len L ns c]; exact (List.getElem?_eq_some_iff.mp hi).1
  obtain ⟨a, b, ha, hb, _⟩ := span_ok0 L ns h i hlt
  have := spL_at L ns i a b ha hb
  rw [hi] at this
  cases this
  exact lay_span h i a b ha hb
def fstF : P → P
  | .tup [m, _] => m
  | _ => .non
theorem fst_map (ns : List Nt) : (notesP ns).map fstF = (bgL ns).map momP := by
  unfold notesP bgL
  rw [List.map_map, List.map_map]
  rfl
/-- one of the moments asked -/
theorem turn_ok (L : Nat) (ns : List Nt) (h : Ok L ns) (hsh : ∀ q ∈ ns, q.1.2.length ≤ 600) (hl : ns.length ≤ 50) (S0 : Sto) (p : Nat) (hp : p < S0.length) (so : SO) (k : Nat) (hk : k ≤ 60000) (hsd : Sd k so) (e0 e1 e2 e5 e8 e9 e10 e11 e12 e13 : Option Fe.D) :
    ∃ (f8 : P) (so' : SO), wb0 [e0, e1, e2, some (.ref p), some (.p (.int (L : Int))), e5, some (.p (rhyP L ns)), some (.p (.lst ((bgL ns).map momP))), e8, e9, e10, e11, e12, e13] (S0.set p so) =
      .nx [e0, e1, e2, some (.ref p), some (.p (.int (L : Int))), e5, some (.p (rhyP L ns)), some (.p (.lst ((bgL ns).map momP))), some (.p f8), e9, e10, e11, e12, e13] (S0.set p so') ∧ Sd (k + 20) so' := by
  have l2 := h.l2
  have c : 1 ≤ ns.length := by obtain ⟨z, r, rfl⟩ := h.hd; simp
  obtain ⟨x, so1, b1, mx, s1⟩ := sd_pick (S := S0.set p so) (p := p) hsd (sd_at so hp) ((bgL ns).map momP) (by simp [bgL]; omega) (by simp [bgL]; omega)
  rw [List.set_set] at b1
  have b1 : borrowF F_law_pick [.ref p, .p (.lst ((bgL ns).map momP))] (S0.set p so) = .ok (.p x) (S0.set p so1) := b1
  obtain ⟨m, hm, rfl⟩ := List.mem_map.mp mx
  have om := ok_moms h m hm
  have osz : m.2.length ≤ 600 := by
    obtain ⟨q, hq, rfl⟩ := List.mem_map.mp hm
    exact hsh q hq
  obtain ⟨m', so2, e2', om', s2⟩ := near_ok L (by omega) m om osz so1 (k + 1) (by omega) s1
  have b2 : borrowF F_law_near [.ref p, .p (momP m), .p (.int (L : Int))] (S0.set p so1) = .ok (.p (momP m')) (S0.set p so2) := by
    have := borrow_ok (S := S0.set p so1) [momP m, .int (L : Int)] rfl (sd_at so1 hp) s1.live e2' rfl s2.live
    rw [List.set_set] at this
    exact this
  have at1 := at_ok L ns m' om' h.ln
  have la := last_ok L ns h m' om'.lo
  have c1 := cls_rhy L ns
  have nf1 : ∀ S, noFld "at" S (.p (rhyP L ns)) = true := fun S => rfl
  refine ⟨momP m', so2, ?_, s2.mono (by omega)⟩
  generalize rhyP L ns = rh at *
  generalize (bgL ns).map momP = bl at *
  generalize momP m' = mp' at *
  generalize momP m = mp at *
  generalize (cntN ns m' : Int) - 1 = ci at *
  generalize (L : Int) = Li at *
  generalize S0.set p so2 = T2 at *
  generalize S0.set p so1 = T1 at *
  generalize S0.set p so = T0 at *
  simp [wb0, w7, w8, b1, b2, c1, nf1, at1, la, cMethK]
end Law

set_option Elab.async false
set_option linter.all false
set_option maxRecDepth 100000
set_option maxHeartbeats 4000000
namespace Law
open PySem PySem.Spec Fe L2
theorem NoFn.get14 (env : DEnv) (h : env.length = 14) : ∃ e0 e1 e2 e3 e4 e5 e6 e7 e8 e9 e10 e11 e12 e13, env = [e0, e1, e2, e3, e4, e5, e6, e7, e8, e9, e10, e11, e12, e13] := by
  match env, h with
  | [e0, e1, e2, e3, e4, e5, e6, e7, e8, e9, e10, e11, e12, e13], _ => exact ⟨e0, e1, e2, e3, e4, e5, e6, e7, e8, e9, e10, e11, e12, e13, rfl⟩
/-- the checks of spans -/
theorem w5_ok (L : Nat) (ns : List Nt) (h : Ok L ns) (S : Sto) (e0 e1 e2 e3 e4 e8 e9 e11 e12 e13 : Option Fe.D) :
    w5 [e0, e1, e2, e3, e4, some (.p (.lst (notesP ns))), some (.p (rhyP L ns)), some (.p (.lst ((bgL ns).map momP))), e8, e9, some (.p (.lst ((enL L ns).map momP))), e11, e12, e13] S =
      .nx [e0, e1, e2, e3, e4, some (.p (.lst (notesP ns))), some (.p (rhyP L ns)), some (.p (.lst ((bgL ns).map momP))), e8, e9, some (.p (.lst ((enL L ns).map momP))), e11, e12, e13] S := by
  have hln := h.ln
  have c : 1 ≤ ns.length := by obtain ⟨z, r, rfl⟩ := h.hd; simp
  have e62 : (2 : Int) ^ 62 = 4611686018427387904 := by decide
  have c1 := cls_rhy L ns
  have nf1 : ∀ S, noFld "span" S (.p (rhyP L ns)) = true := fun S => rfl
  have sl := spL_len L ns c
  have lc := lc_pure (S := S) (i := 11) (f := spF (spL L ns)) (fe := cMeth 43 "span" (pureF F_Rhythm_span) [] (cVar 6) (cCons (cVar 11) cNil)) (env := [e0, e1, e2, e3, e4, some (.p (.lst (notesP ns))), some (.p (rhyP L ns)), some (.p (.lst ((bgL ns).map momP))), e8, e9, some (.p (.lst ((enL L ns).map momP))), none, e12, e13]) (rngP 0 (spL L ns).length) [] (by rw [rngP_len, sl]; simp; omega) (fun x hx => by
    simp only [rngP, List.mem_map, List.mem_range] at hx
    obtain ⟨i, hi, rfl⟩ := hx
    rw [sl] at hi
    obtain ⟨a, b, ha, hb, e⟩ := span_ok0 L ns h i hi
    have sp : ∀ S, pureF F_Rhythm_span [.p (rhyP L ns), .p (.int (i : Int))] S = .ok (.p (.tup [momP a, momP b])) S := fun S => pure_ok [rhyP L ns, .int (i : Int)] rfl e
    rw [show (0 : Int) + (i : Nat) = (i : Int) by omega]
    have ef : spF (spL L ns) (.int (i : Int)) = .tup [momP a, momP b] := by
      simp only [spF, Int.toNat_natCast]
      rw [spL_at L ns i a b ha hb]
      rfl
    rw [ef]
    generalize P.tup [momP a, momP b] = ab at *
    generalize rhyP L ns = rh at *
    generalize (i : Int) = ii at *
    simp [c1, nf1, sp])
  rw [spF_map, List.nil_append, sl] at lc
  have ss := spans_same h
  have ez : zipP ((bgL ns).map momP) ((enL L ns).map momP) = spL L ns := rfl
  have ln : ∀ S, dLen S (.p (.lst (notesP ns))) = some (.p (.int (ns.length : Nat))) := fun S => by
    show some (Fe.D.p (.int ((notesP ns).length : Nat))) = _
    simp [notesP]
  have a1 : asI1 [.p (.int ((ns.length : Nat) : Int))] = some ((ns.length : Nat) : Int) := by
    apply m_asI1; rw [e62]; omega
  have er : rngP 0 (((ns.length : Nat) : Int)).toNat = rngP 0 ns.length := rfl
  generalize spL L ns = sp at *
  generalize rngP 0 ns.length = rl at *
  generalize rhyP L ns = rh at *
  generalize notesP ns = al at *
  generalize (bgL ns).map momP = bl at *
  generalize (enL L ns).map momP = el at *
  generalize ((ns.length : Nat) : Int) = li at *
  simp [-m_len_lst, w5, ln, a1, er, wipeD, lc, ez, ss]
theorem w6_ok (L : Nat) (ns : List Nt) (h : Ok L ns) (S : Sto) (e0 e1 e2 e3 e4 e5 e8 e9 e11 e12 e13 : Option Fe.D) :
    w6 [e0, e1, e2, e3, e4, e5, some (.p (rhyP L ns)), some (.p (.lst ((bgL ns).map momP))), e8, e9, some (.p (.lst ((enL L ns).map momP))), e11, e12, e13] S =
      .nx [e0, e1, e2, e3, e4, e5, some (.p (rhyP L ns)), some (.p (.lst ((bgL ns).map momP))), e8, e9, some (.p (.lst ((enL L ns).map momP))), e11, e12, e13] S := by
  have c : 1 ≤ ns.length := by obtain ⟨z, r, rfl⟩ := h.hd; simp
  obtain ⟨a, b, ha, hb, e⟩ := span_ok0 L ns h 0 (by omega)
  have sp : ∀ S, pureF F_Rhythm_span [.p (rhyP L ns), .p (.int 0)] S = .ok (.p (.tup [momP a, momP b])) S := fun S => pure_ok [rhyP L ns, .int 0] rfl e
  have ss := fun S => (same_lay (S := S) (lay_span h 0 a b ha hb) (by decide)).2
  have c1 := cls_rhy L ns
  have nf1 : ∀ S, noFld "span" S (.p (rhyP L ns)) = true := fun S => rfl
  have ia : ∀ S, dIx S (.p (.lst ((bgL ns).map momP))) (.p (.int 0)) = some (.p (momP a)) := fun S => by
    obtain ⟨r, hr⟩ : ∃ r, bgL ns = a :: r := by
      cases hq : bgL ns with
      | nil => rw [hq] at ha; cases ha
      | cons x r => rw [hq] at ha; cases ha; exact ⟨r, rfl⟩
    rw [hr]
    exact m_ix_head _ _
  have ib : ∀ S, dIx S (.p (.lst ((enL L ns).map momP))) (.p (.int 0)) = some (.p (momP b)) := fun S => by
    obtain ⟨r, hr⟩ : ∃ r, enL L ns = b :: r := by
      cases hq : enL L ns with
      | nil => rw [hq] at hb; cases hb
      | cons x r => rw [hq] at hb; cases hb; exact ⟨r, rfl⟩
    rw [hr]
    exact m_ix_head _ _
  generalize rhyP L ns = rh at *
  generalize momP a = ma at *
  generalize momP b = mb at *
  generalize (bgL ns).map momP = bl at *
  generalize (enL L ns).map momP = el at *
  simp [-m_ix_lst, w6, cMethK, c1, nf1, sp, ia, ib, mkTup, pureDs, pureD, ss]
end Law

set_option Elab.async false
set_option linter.all false
set_option maxRecDepth 100000
set_option maxHeartbeats 4000000
namespace Law
open PySem PySem.Spec Fe L2
/-- a value that is no moment -/
theorem w12_ok (L : Nat) (ns : List Nt) (h : Ok L ns) (x : P) (hx : x ∈ oddA L ++ oddB) (S : Sto) (e0 e1 e2 e3 e4 e5 e7 e8 e9 e10 e11 e12 : Option Fe.D) (nf : NoFn [e0, e1, e2, e3, e4, e5, some (.p (rhyP L ns)), e7, e8, e9, e10, e11, e12, some (.p x)]) :
    w12 [e0, e1, e2, e3, e4, e5, some (.p (rhyP L ns)), e7, e8, e9, e10, e11, e12, some (.p x)] S = .nx [e0, e1, e2, e3, e4, e5, some (.p (rhyP L ns)), e7, e8, e9, e10, e11, e12, some (.p x)] S := by
  have ab := at_bad L ns x (odd_ok L h.l1 x hx)
  have c1 := cls_rhy L ns
  have nf1 : ∀ S, noFld "at" S (.p (rhyP L ns)) = true := fun S => rfl
  have td := told_pt (fb := cMeth 43 "at" (pureF F_Rhythm_at) [] (cVar 6) (cCons (cVar 13) cNil)) nf (S := S) (S' := S) (x := x) (by
    generalize rhyP L ns = rh at *
    simp [c1, nf1, ab])
  have l2 := h.l2
  have l1 := h.l1
  have li : ∀ i : Int, -10 ≤ i → i ≤ 300 → Lay (.int i) 700 0 := fun i h1 h2 => lay_int (by have : (400 : Nat) < 2 ^ 200 := Nat.lt_of_lt_of_le (by decide : 400 < 2 ^ 9) (Nat.pow_le_pow_right (by decide) (by decide)); omega) (by decide)
  have ls : ∀ z : Str, z.cps.toList.all (· < 0x110000) = true → z.length ≤ 700 → Lay (.str z) 700 0 := fun z h1 h2 => lay_str h1 h2
  have same : ∀ y, Lay y 3000 1 → neKey (.p (.lst [.str "point", y])) = none → ∀ S, dNeL S (.p (.lst [.str "point", y])) (.p (.lst [.str "point", y])) = some (.p (.bl false)) := fun y hy hn S => by
    unfold dNeL
    rw [hn]
    exact (same_lay (lay_lst (lays_cons (w := 3000) (d := 1) ((ls "point" (by decide +kernel) (by decide +kernel)).mono (by decide) (by decide)) (lays_cons (w := 3000) hy (lays_nil (w := 0))))) (by decide)).2
  have pr : ∀ a b, Lay a 700 0 → Lay b 700 0 → Lay (.tup [a, b]) 3000 1 := fun a b ha hb => (lay_pair ha hb).mono (by decide) (by decide)
  have e0' := ls "" (by decide +kernel) (by decide +kernel)
  have key : ∀ S, dNeL S (.p (.lst [.str "point", x])) (.p (.lst [.str "point", x])) = some (.p (.bl false)) := by
    simp only [oddA, oddB, List.cons_append, List.nil_append, List.mem_cons, List.not_mem_nil, or_false] at hx
    rcases hx with rfl | rfl | rfl | rfl | rfl | rfl | rfl | rfl | rfl | rfl | rfl | rfl | rfl | rfl | rfl
    · exact same _ lay_non rfl
    · exact same _ (pr _ _ (li _ (by omega) (by omega)) e0') rfl
    · exact same _ (pr _ _ (li _ (by omega) (by omega)) (ls "0" (by decide +kernel) (by decide +kernel))) rfl
    · exact same _ (pr _ _ (li _ (by omega) (by omega)) e0') rfl
    · exact same _ ((ls "0" (by decide +kernel) (by decide +kernel)).mono (by decide) (by decide)) rfl
    · exact same _ ((lay_tup (lays_cons (li 0 (by omega) (by omega)) (lays_nil (w := 0)))).mono (by decide) (by decide)) rfl
    · exact same _ (pr _ _ lay_bl e0') rfl
    · exact same _ ((lay_lst (lays_cons (li 0 (by omega) (by omega)) (lays_cons e0' (lays_nil (w := 0))))).mono (by decide) (by decide)) rfl
    · exact same _ (pr _ _ (li _ (by omega) (by omega)) (ls "12" (by decide +kernel) (by decide +kernel))) rfl
    · exact same _ (pr _ _ (li _ (by omega) (by omega)) (ls "1" (by decide +kernel) (by decide +kernel))) rfl
    · exact same _ ((li 0 (by omega) (by omega)).mono (by decide) (by decide)) rfl
    · exact same _ (pr _ _ (li _ (by omega) (by omega)) lay_non) rfl
    · exact same _ ((lay_tup (lays_cons (li 0 (by omega) (by omega)) (lays_cons e0' (lays_cons e0' (lays_nil (w := 0)))))).mono (by decide) (by decide)) rfl
    · intro S
      show (if ("point" : Str) = "point" then some (D.p (.bl false)) else none) = _
      rw [if_pos rfl]
    · exact same _ (pr _ _ (li _ (by omega) (by omega)) (ls "10" (by decide +kernel) (by decide +kernel))) rfl
  generalize rhyP L ns = rh at *
  simp [w12, td, m_lst_eq, mkLst, pureDs, pureD, key]
/-- the indices that are none -/
theorem w13_ok (L : Nat) (ns : List Nt) (h : Ok L ns) (x : P) (hx : t_isa_int (tgP x) = some false ∨ (∃ b, x = .bl b) ∨ ∃ i, x = .int i ∧ (i < 0 ∨ (ns.length : Int) ≤ i)) (S : Sto) (e0 e1 e2 e3 e4 e5 e7 e8 e9 e10 e11 e12 : Option Fe.D) (nf : NoFn [e0, e1, e2, e3, e4, e5, some (.p (rhyP L ns)), e7, e8, e9, e10, e11, e12, some (.p x)]) :
    w13 [e0, e1, e2, e3, e4, e5, some (.p (rhyP L ns)), e7, e8, e9, e10, e11, e12, some (.p x)] S = .nx [e0, e1, e2, e3, e4, e5, some (.p (rhyP L ns)), e7, e8, e9, e10, e11, e12, some (.p x)] S := by
  have sb := span_bad L ns h.ln x hx
  have c1 := cls_rhy L ns
  have nf1 : ∀ S, noFld "span" S (.p (rhyP L ns)) = true := fun S => rfl
  have td := told_num (fb := cMeth 43 "span" (pureF F_Rhythm_span) [] (cVar 6) (cCons (cVar 13) cNil)) nf (S := S) (S' := S) (by
    generalize rhyP L ns = rh at *
    simp [c1, nf1, sb])
  have sn := same_num
  generalize rhyP L ns = rh at *
  simp [w13, td, m_lst_eq, mkLst, pureDs, pureD, sn]
end Law

set_option Elab.async false
set_option linter.all false
set_option maxRecDepth 100000
set_option maxHeartbeats 4000000
namespace Law
open PySem PySem.Spec Fe L2
theorem wb2_ok (k : Nat) (cell : Int) (env : DEnv) (S : Sto) (hk : (k : Int) < 10) (hI : env.length = 14 ∧ NoFn env) : ∃ env' S', wb2 ((env.set 1 (some (.p (.int k)))).set 2 (some (.p (.int cell)))) S = .nx env' S' ∧ (env'.length = 14 ∧ NoFn env') := by
  obtain ⟨e0, e1, e2, e3, e4, e5, e6, e7, e8, e9, e10, e11, e12, e13, rfl⟩ := NoFn.get14 env hI.1
  have nf := hI.2
  simp only [nofn_cons, nofn_nil] at nf
  obtain ⟨n0, n1, n2, n3, n4, n5, n6, n7, n8, n9, n10, n11, n12, n13, _⟩ := nf
  show ∃ env' S', wb2 [e0, some (.p (.int k)), some (.p (.int cell)), e3, e4, e5, e6, e7, e8, e9, e10, e11, e12, e13] S = _ ∧ _
  obtain ⟨a, b, hb⟩ := begin_ok cell k (by omega) (by omega)
  have hfr : freshF F_law_begin [.p (.int cell), .p (.int k)] S = .ok (.ref S.length) (S ++ [st3 a b 0]) := fresh_ok [.int cell, .int k] rfl hb rfl rfl
  have s0 : Sd 0 (st3 a b 0) := ⟨a, b, 0, rfl, Int.le_refl _, Int.le_refl _⟩
  have gS : ∀ so : SO, (S ++ [so])[S.length]? = some so := fun so => by simp
  have sS : ∀ so so' : SO, (S ++ [so]).set S.length so' = S ++ [so'] := fun so so' => by simp
  obtain ⟨r1, so1, b1, r10, r11, s1⟩ := sd_draw (S := S ++ [st3 a b 0]) (p := S.length) s0 (gS _) 8
  rw [sS] at b1
  have b1 : borrowF F_law_draw [.ref S.length, .p (.int 8)] (S ++ [st3 a b 0]) = .ok (.p (.int r1)) (S ++ [so1]) := b1
  obtain ⟨L0, rfl⟩ := Int.eq_ofNat_of_zero_le r10
  obtain ⟨L, hL⟩ : ∃ L, L = L0 + 1 := ⟨_, rfl⟩
  obtain ⟨ns, so2, T2, e2', hok, hsh, nl, s2⟩ := notes_ok L (by omega) (by omega) 9 4 (by decide) (by decide) so1 1 (by omega) s1
  have b2 : borrowF F_law_notes [.ref S.length, .p (.int (L : Int)), .p (.int 9), .p (.int 4)] (S ++ [so1]) = .ok (.p (.lst (notesP ns))) (S ++ [so2]) := by
    have := borrow_ok (S := S ++ [so1]) [.int (L : Int), .int 9, .int 4] rfl (gS _) s1.live e2' rfl s2.live
    rw [sS] at this
    exact this
  have mk1 := init_ok L ns hok _ rfl
  have eL : (1 : Int) + (L0 : Int) = (L : Int) := by omega
  have hc : 1 ≤ ns.length := by obtain ⟨z, r, rfl⟩ := hok.hd; simp
  -- the moments asked
  obtain ⟨env', S', el, f8, f11, so3, ⟨m8, m11⟩, rfl, rfl, s3⟩ := for_cnt (g := gN 11) (b := wb0) (ok := fun _ => True)
    (I := fun j env T => ∃ f8 f11 so, (NF f8 ∧ NF f11) ∧ env = [e0, some (.p (.int k)), some (.p (.int cell)), some (.ref S.length), some (.p (.int (L : Int))), some (.p (.lst (notesP ns))), some (.p (rhyP L ns)), some (.p (.lst ((bgL ns).map momP))), f8, e9, some (.p (.lst ((enL L ns).map momP))), f11, e12, e13] ∧ T = S ++ [so] ∧ Sd j so) 20 20000
    (fun x env T j _ hj hI => by
      obtain ⟨f8, f11, so, ⟨m8, m11⟩, rfl, rfl, sd⟩ := hI
      obtain ⟨g8, so', e, sd'⟩ := turn_ok L ns hok hsh (by omega) (S ++ [so]) S.length (by simp) so j (by omega) sd e0 (some (.p (.int k))) (some (.p (.int cell))) (some (.p (.lst (notesP ns)))) f8 e9 (some (.p (.lst ((enL L ns).map momP)))) (some (.p x)) e12 e13
      rw [sS, sS] at e
      exact ⟨_, _, _, _, rfl, e, _, _, _, ⟨nf_p _, nf_p _⟩, rfl, rfl, sd'⟩) (rngP 0 12) 121 [e0, some (.p (.int k)), some (.p (.int cell)), some (.ref S.length), some (.p (.int (L : Int))), some (.p (.lst (notesP ns))), some (.p (rhyP L ns)), some (.p (.lst ((bgL ns).map momP))), e8, e9, some (.p (.lst ((enL L ns).map momP))), e11, e12, e13] (S ++ [so2])
    (fun _ _ => trivial) (by rw [rngP_len]; decide) ⟨_, _, _, ⟨n8, n11⟩, rfl, rfl, s2⟩
  rw [rngP_len] at s3
  obtain ⟨x, so4, b4, mx, s4⟩ := sd_pick (S := S ++ [so3]) (p := S.length) s3 (gS _) (oddA L ++ oddB) (by simp [oddA, oddB]) (by simp [oddA, oddB])
  rw [sS] at b4
  have b4 : borrowF F_law_pick [.ref S.length, .p (.lst (oddA L ++ oddB))] (S ++ [so3]) = .ok (.p x) (S ++ [so4]) := b4
  have d12 := w12_ok L ns hok x mx (S ++ [so4]) e0 (some (.p (.int k))) (some (.p (.int cell))) (some (.ref S.length)) (some (.p (.int (L : Int)))) (some (.p (.lst (notesP ns)))) (some (.p (.lst ((bgL ns).map momP)))) f8 e9 (some (.p (.lst ((enL L ns).map momP)))) f11 (some (.p (.lst (oddA L)))) (by simp [n0, m8, n9, m11])
  -- the indices
  obtain ⟨env2, T2', el2, f13, m13, rfl, rfl⟩ := for_cnt (g := gN 13) (b := wb1) (ok := fun x => t_isa_int (tgP x) = some false ∨ (∃ b, x = .bl b) ∨ ∃ i, x = .int i ∧ (i < 0 ∨ (ns.length : Int) ≤ i))
    (I := fun _ env T => ∃ f13, NF f13 ∧ env = [e0, some (.p (.int k)), some (.p (.int cell)), some (.ref S.length), some (.p (.int (L : Int))), some (.p (.lst (notesP ns))), some (.p (rhyP L ns)), some (.p (.lst ((bgL ns).map momP))), f8, e9, some (.p (.lst ((enL L ns).map momP))), f11, some (.p (.lst (oddA L))), f13] ∧ T = S ++ [so4]) 0 10
    (fun x env T j hx hj hI => by
      obtain ⟨f13, m13, rfl, rfl⟩ := hI
      have d13 := w13_ok L ns hok x hx (S ++ [so4]) e0 (some (.p (.int k))) (some (.p (.int cell))) (some (.ref S.length)) (some (.p (.int (L : Int)))) (some (.p (.lst (notesP ns)))) (some (.p (.lst ((bgL ns).map momP)))) f8 e9 (some (.p (.lst ((enL L ns).map momP)))) f11 (some (.p (.lst (oddA L)))) (by simp [n0, m8, n9, m11])
      exact ⟨_, _, _, _, rfl, d13, _, nf_p _, rfl, rfl⟩) [.non, .bl true, .int (-1), .int ((ns.length : Nat) : Int), .str "0", .lst [.int 0], .int (10 ^ 30)] 0 [e0, some (.p (.int k)), some (.p (.int cell)), some (.ref S.length), some (.p (.int (L : Int))), some (.p (.lst (notesP ns))), some (.p (rhyP L ns)), some (.p (.lst ((bgL ns).map momP))), f8, e9, some (.p (.lst ((enL L ns).map momP))), f11, some (.p (.lst (oddA L))), some (.p x)] (S ++ [so4])
    (fun x hx => by
      simp only [List.mem_cons, List.not_mem_nil, or_false] at hx
      rcases hx with rfl | rfl | rfl | rfl | rfl | rfl | rfl
      · exact .inl rfl
      · exact .inr (.inl ⟨_, rfl⟩)
      · exact .inr (.inr ⟨_, rfl, .inl (by decide)⟩)
      · exact .inr (.inr ⟨_, rfl, .inr (Int.le_refl _)⟩)
      · exact .inl rfl
      · exact .inl rfl
      · exact .inr (.inr ⟨_, rfl, .inr (by
          have : (ns.length : Int) ≤ 10 := by omega
          exact Int.le_trans this (by decide))⟩)) (by simp) ⟨_, nf_p _, rfl, rfl⟩
  refine ⟨[e0, some (.p (.int k)), some (.p (.int cell)), some (.ref S.length), some (.p (.int (L : Int))), some (.p (.lst (notesP ns))), some (.p (rhyP L ns)), some (.p (.lst ((bgL ns).map momP))), f8, e9, some (.p (.lst ((enL L ns).map momP))), f11, some (.p (.lst (oddA L))), f13], S ++ [so4], ?_, rfl, by simp [n0, m8, n9, m11, m13]⟩
  have d0 : w0 [e0, some (.p (.int k)), some (.p (.int cell)), e3, e4, e5, e6, e7, e8, e9, e10, e11, e12, e13] S = .nx [e0, some (.p (.int k)), some (.p (.int cell)), some (.ref S.length), e4, e5, e6, e7, e8, e9, e10, e11, e12, e13] (S ++ [st3 a b 0]) := by
    simp [w0, hfr]
  have d1 : w1 [e0, some (.p (.int k)), some (.p (.int cell)), some (.ref S.length), e4, e5, e6, e7, e8, e9, e10, e11, e12, e13] (S ++ [st3 a b 0]) = .nx [e0, some (.p (.int k)), some (.p (.int cell)), some (.ref S.length), some (.p (.int (L : Int))), e5, e6, e7, e8, e9, e10, e11, e12, e13] (S ++ [so1]) := by
    rw [← eL]
    generalize (L0 : Int) = l0 at *
    simp [w1, b1]
  have d2 : w2 [e0, some (.p (.int k)), some (.p (.int cell)), some (.ref S.length), some (.p (.int (L : Int))), e5, e6, e7, e8, e9, e10, e11, e12, e13] (S ++ [so1]) = .nx [e0, some (.p (.int k)), some (.p (.int cell)), some (.ref S.length), some (.p (.int (L : Int))), some (.p (.lst (notesP ns))), e6, e7, e8, e9, e10, e11, e12, e13] (S ++ [so2]) := by
    simp [w2, b2]
  have d3 : w3 [e0, some (.p (.int k)), some (.p (.int cell)), some (.ref S.length), some (.p (.int (L : Int))), some (.p (.lst (notesP ns))), e6, e7, e8, e9, e10, e11, e12, e13] (S ++ [so2]) = .nx [e0, some (.p (.int k)), some (.p (.int cell)), some (.ref S.length), some (.p (.int (L : Int))), some (.p (.lst (notesP ns))), some (.p (rhyP L ns)), some (.p (.lst ((bgL ns).map momP))), e8, e9, e10, e11, e12, e13] (S ++ [so2]) := by
    have lc := lc_pureG (S := S ++ [so2]) (g := gT 2 (gCons' (gN 8) (gCons' (gN 9) gNil'))) (fe := cVar 8) (f := fstF) (env := [e0, some (.p (.int k)), some (.p (.int cell)), some (.ref S.length), some (.p (.int (L : Int))), some (.p (.lst (notesP ns))), e6, e7, none, none, e10, e11, e12, e13]) (notesP ns) [] (by simp [notesP]; omega) (fun x hx => by
      obtain ⟨q, hq, rfl⟩ := List.mem_map.mp hx
      exact ⟨_, rfl, rfl⟩)
    rw [fst_map, List.nil_append] at lc
    have srl : ∀ xs S, srcG S (.p (.lst xs)) = some (xs, ckT) := fun xs S => rfl
    generalize rhyP L ns = rh at *
    generalize notesP ns = al at *
    generalize (bgL ns).map momP = bl at *
    generalize (L : Int) = Li at *
    simp [w3, mk1, srl, wipeD, lc, mkTup, pureDs, pureD, g2]
  have d4 : w4 [e0, some (.p (.int k)), some (.p (.int cell)), some (.ref S.length), some (.p (.int (L : Int))), some (.p (.lst (notesP ns))), some (.p (rhyP L ns)), some (.p (.lst ((bgL ns).map momP))), e8, e9, e10, e11, e12, e13] (S ++ [so2]) = .nx [e0, some (.p (.int k)), some (.p (.int cell)), some (.ref S.length), some (.p (.int (L : Int))), some (.p (.lst (notesP ns))), some (.p (rhyP L ns)), some (.p (.lst ((bgL ns).map momP))), e8, e9, some (.p (.lst ((enL L ns).map momP))), e11, e12, e13] (S ++ [so2]) := by
    have sl : ∀ S, dSl S (.p (.lst ((bgL ns).map momP))) (some 1) none = some (.p (.lst (((bgL ns).drop 1).map momP))) := fun S => by
      obtain ⟨m, r, hr⟩ : ∃ m r, bgL ns = m :: r := by
        cases hq : bgL ns with
        | nil => simp [bgL] at hq; subst hq; simp at hc
        | cons m r => exact ⟨m, r, rfl⟩
      rw [hr]
      show some (Fe.D.p (.lst (cutP (momP m :: r.map momP) (some 1) none))) = _
      rw [cut_tail]
      rfl
    have ad : ∀ S, dAdd S (.p (.lst (((bgL ns).drop 1).map momP))) (.p (.lst [.tup [.int (L : Int), .str ""]])) = some (.p (.lst ((enL L ns).map momP))) := fun S => by
      rw [m_add_lst _ _ (Nat.le_trans (by simp [bgL]; omega : (((bgL ns).drop 1).map momP).length + [P.tup [.int (L : Int), .str ""]].length ≤ 1000) (small_sz 1000 (by decide)))]
      unfold enL
      rw [List.map_append]
      rfl
    generalize rhyP L ns = rh at *
    generalize notesP ns = al at *
    generalize (enL L ns).map momP = en at *
    generalize ((bgL ns).drop 1).map momP = dr at *
    generalize (bgL ns).map momP = bl at *
    generalize (L : Int) = Li at *
    simp [-m_dSl_lst, w4, sl, m_lst_eq, mkLst, mkTup, pureDs, pureD, ad]
  have d9 : w9 [e0, some (.p (.int k)), some (.p (.int cell)), some (.ref S.length), some (.p (.int (L : Int))), some (.p (.lst (notesP ns))), some (.p (rhyP L ns)), some (.p (.lst ((bgL ns).map momP))), e8, e9, some (.p (.lst ((enL L ns).map momP))), e11, e12, e13] (S ++ [so2]) = .nx [e0, some (.p (.int k)), some (.p (.int cell)), some (.ref S.length), some (.p (.int (L : Int))), some (.p (.lst (notesP ns))), some (.p (rhyP L ns)), some (.p (.lst ((bgL ns).map momP))), f8, e9, some (.p (.lst ((enL L ns).map momP))), f11, e12, e13] (S ++ [so3]) := by
    have it : ∀ env T, iRange1 (cCons (cP (.int 12)) cNil) env T = .ok (rngP 0 12, ckT) T := fun env T => by
      simp [iRange1, m_asI1 12 (by decide)]
    rw [w9, m_for, it, m_toSI_ok _ _ _ rfl]
    exact el
  have d10 : w10 [e0, some (.p (.int k)), some (.p (.int cell)), some (.ref S.length), some (.p (.int (L : Int))), some (.p (.lst (notesP ns))), some (.p (rhyP L ns)), some (.p (.lst ((bgL ns).map momP))), f8, e9, some (.p (.lst ((enL L ns).map momP))), f11, e12, e13] (S ++ [so3]) = .nx [e0, some (.p (.int k)), some (.p (.int cell)), some (.ref S.length), some (.p (.int (L : Int))), some (.p (.lst (notesP ns))), some (.p (rhyP L ns)), some (.p (.lst ((bgL ns).map momP))), f8, e9, some (.p (.lst ((enL L ns).map momP))), f11, some (.p (.lst (oddA L))), e13] (S ++ [so3]) := by
    unfold oddA
    generalize rhyP L ns = rh at *
    generalize (L : Int) = Li at *
    simp [w10, m_lst_eq, mkLst, mkTup, pureDs, pureD, dNeg]
  have d11 : w11 [e0, some (.p (.int k)), some (.p (.int cell)), some (.ref S.length), some (.p (.int (L : Int))), some (.p (.lst (notesP ns))), some (.p (rhyP L ns)), some (.p (.lst ((bgL ns).map momP))), f8, e9, some (.p (.lst ((enL L ns).map momP))), f11, some (.p (.lst (oddA L))), e13] (S ++ [so3]) = .nx [e0, some (.p (.int k)), some (.p (.int cell)), some (.ref S.length), some (.p (.int (L : Int))), some (.p (.lst (notesP ns))), some (.p (rhyP L ns)), some (.p (.lst ((bgL ns).map momP))), f8, e9, some (.p (.lst ((enL L ns).map momP))), f11, some (.p (.lst (oddA L))), some (.p x)] (S ++ [so4]) := by
    have ad : ∀ S, dAdd S (.p (.lst (oddA L))) (.p (.lst [.tup [.int 0, .non], .tup [.int 0, .str "", .str ""], .dct [] [], .tup [.int 0, .str "10"]])) = some (.p (.lst (oddA L ++ oddB))) := fun S => by
      rw [m_add_lst _ _ (Nat.le_trans (by simp [oddA] : (oddA L).length + [P.tup [.int 0, .non], .tup [.int 0, .str "", .str ""], .dct [] [], .tup [.int 0, .str "10"]].length ≤ 1000) (small_sz 1000 (by decide)))]
      rfl
    have d0' : ∀ env T, cD0 env T = .ok (.p (.dct [] [])) T := fun _ _ => rfl
    generalize rhyP L ns = rh at *
    generalize oddA L ++ oddB = ob at *
    generalize oddA L = oa at *
    simp [w11, d0', m_lst_eq, mkLst, mkTup, pureDs, pureD, ad, b4]
  have d14 : w14 [e0, some (.p (.int k)), some (.p (.int cell)), some (.ref S.length), some (.p (.int (L : Int))), some (.p (.lst (notesP ns))), some (.p (rhyP L ns)), some (.p (.lst ((bgL ns).map momP))), f8, e9, some (.p (.lst ((enL L ns).map momP))), f11, some (.p (.lst (oddA L))), some (.p x)] (S ++ [so4]) = .nx [e0, some (.p (.int k)), some (.p (.int cell)), some (.ref S.length), some (.p (.int (L : Int))), some (.p (.lst (notesP ns))), some (.p (rhyP L ns)), some (.p (.lst ((bgL ns).map momP))), f8, e9, some (.p (.lst ((enL L ns).map momP))), f11, some (.p (.lst (oddA L))), f13] (S ++ [so4]) := by
    have cp : cPowB 10 30 = true := by decide +kernel
    have ln : ∀ S, dLen S (.p (.lst (notesP ns))) = some (.p (.int (ns.length : Nat))) := fun S => by
      show some (Fe.D.p (.int ((notesP ns).length : Nat))) = _
      simp [notesP]
    have it : iSeq (cLst (cCons (cP .non) (cCons (cP (.bl true)) (cCons (cUn dNeg (cP (.int 1))) (cCons (cApp (on1 dLen) (cCons (cVar 5) cNil)) (cCons (cP (.str "0")) (cCons (cLst (cCons (cP (.int 0)) cNil)) (cCons (cOp dPow (cP (.int 10)) (cP (.int 30))) cNil)))))))) [e0, some (.p (.int k)), some (.p (.int cell)), some (.ref S.length), some (.p (.int (L : Int))), some (.p (.lst (notesP ns))), some (.p (rhyP L ns)), some (.p (.lst ((bgL ns).map momP))), f8, e9, some (.p (.lst ((enL L ns).map momP))), f11, some (.p (.lst (oddA L))), some (.p x)] (S ++ [so4]) = .ok ([.non, .bl true, .int (-1), .int ((ns.length : Nat) : Int), .str "0", .lst [.int 0], .int (10 ^ 30)], ckT) (S ++ [so4]) := by
      have srl : ∀ xs S, srcG S (.p (.lst xs)) = some (xs, ckT) := fun xs S => rfl
      generalize rhyP L ns = rh at *
      generalize notesP ns = al at *
      generalize ((ns.length : Nat) : Int) = li at *
      simp [-m_len_lst, m_lst_eq, mkLst, mkTup, pureDs, pureD, dNeg, ln, cp, srl]
    rw [w14, m_for, it, m_toSI_ok _ _ _ rfl]
    exact el2
  simp only [wb2, m_seq, d0, d1, d2, d3, d4, m_then_nx]
  rw [w5_ok L ns hok, m_then_nx, m_seq, w6_ok L ns hok, m_then_nx]
  simp only [m_seq, d9, d10, d11, d12, d14, m_then_nx]
theorem law_true : ∀ ns : List Int, ns.length ≤ 63 → (∀ z ∈ ns, PySem.Builtin.Int.intBits z ≤ 1048576) → SaysTrue (F_law [scriptD ns] []) := by
  intro ns _ _
  rw [w_eq]
  exact law_says (m := 10) (b := wb2) (tail := w16) (I := fun env => env.length = 14 ∧ NoFn env) (by decide) ⟨rfl, by simp [startD, scriptD]⟩ (fun k cell env S hk hI => wb2_ok k cell env S hk hI) fun env S _ => ⟨S, by simp [w16]⟩
end Law

open PySem PySem.W PyProof.Rows
set_option maxHeartbeats 0 in
theorem PySem.Challenge.cw_barscribe_k59_notes_at_moments_holds : PySem.Challenge.rw_barscribe_k59_notes_at_moments.Holds := by
  w_on; o_law; k_head; (case hw => w_witness2)
  k_fill
  refine Fe.walk_ofT (l := PySem.Challenge.rw_barscribe_k59_notes_at_moments) (n := 63) (k := 7) (x := "_law_script") (Fd := Law.F_law) (mks := ["law"]) rfl (by decide) rfl ⟨rfl, by decide, by decide⟩ ?Rec (fun w h Y => by first | exact PySem.W.kIn_of Y | exact PySem.W.km_in_of Y) ?F Law.law_true
  case Rec => first | rfl | decide +kernel
  case F =>
    intro w mg fa h KX G hmg
    refine' Law.all_mk KX G hmg ?hc0 ?hc1 ?hc2 ?hc12 ?hc13 ?hc14 ?hc15 ?hc16 ?hc17 ?hc18 ?hc43 ?ha0 ?hl0 ?hd0 ?hk0 ?ha1 ?hl1 ?hd1 ?hk1 ?ha2 ?hl2 ?hd2 ?hk2 ?ha3 ?hl3 ?hd3 ?hk3 ?ha4 ?hl4 ?hd4 ?hk4 ?ha5 ?hl5 ?hd5 ?hk5 ?ha6 ?hl6 ?hd6 ?hk6 ?ha7 ?hl7 ?hd7 ?hk7 ?ha8 ?hl8 ?hd8 ?hk8 ?ha9 ?hl9 ?hd9 ?hk9 ?ha10 ?hl10 ?hd10 ?hk10 ?ha11 ?hl11 ?hd11 ?hk11 ?ha12 ?hl12 ?hd12 ?hk12 ?ha13 ?hl13 ?hd13 ?hk13 ?ha14 ?hl14 ?hd14 ?hk14 ?ha15 ?hl15 ?hd15 ?hk15 ?ha16 ?hl16 ?hcc16 ?hch16 ?hco16 ?hd16 ?hk16 ?hz_all ?hz_bool ?hz_enumerate ?hz_int ?hz_isinstance ?hz_len ?hz_list ?hz_max ?hz_range ?hz_sorted ?hz_str ?hz_tuple ?hz_zip ?hg_SOUNDS ?hl_SOUNDS ?hv_SOUNDS ?hs_SOUNDS ?hg_MOST_NOTES ?hg_MOST_PULSES ?pg_Rhythm ?hd_Rhythm ?po_Rhythm ?sa_Rhythm ?na_Rhythm_own_length ?na_Rhythm_own_notes ?mk_Rhythm ?fn9 ?kc2_Rhythm ?fn14 ?fn10 ?x_BadNumber ?kc_BadNumber ?sb_BadNumber ?ty_BadNumber ?bx_sp ?bx_rd ?bx_fc ?xl_BadPoint ?xsa_BadPoint ?kc_BadPoint ?sb_BadPoint ?ty_BadPoint ?xno_BadPoint ?xti_BadPoint ?xl_BadRhythm ?xsa_BadRhythm ?kc_BadRhythm ?sb_BadRhythm ?ty_BadRhythm ?xno_BadRhythm ?xti_BadRhythm ?xga_BadRhythm ?xgg_BadRhythm ?xhd_BadRhythm ?xga_BadPoint ?xgg_BadPoint ?xhd_BadPoint ?hin ?hit ?ia_Rhythm ?im_Rhythm ?ec_BadPoint ?eg_BadPoint ?ek_BadPoint ?ia_BadPoint ?im_BadPoint ?ec_BadNumber ?eg_BadNumber ?ek_BadNumber ?ia_BadNumber ?im_BadNumber ?ec_BadRhythm ?eg_BadRhythm ?ek_BadRhythm ?ia_BadRhythm ?im_BadRhythm ?kl_BadFigure ?kt_BadFigure ?kl_BadGroups ?kt_BadGroups ?kl_BadLoop ?kt_BadLoop ?kl_BadMetre ?kt_BadMetre ?kl_BadNumber ?kt_BadNumber ?kl_BadPoint ?kt_BadPoint ?kl_BadRhythm ?kt_BadRhythm ?kl_BadRow ?kt_BadRow ?kl_NoGrouping ?kt_NoGrouping ?sb_Rhythm_bool ?sb_BadPoint_bool ?sb_BadNumber_bool ?sb_BadRhythm_bool ?sb_Rhythm_int ?sb_BadPoint_int ?sb_BadNumber_int ?sb_BadRhythm_int ?sb_Rhythm_str ?sb_BadPoint_str ?sb_BadNumber_str ?sb_BadRhythm_str ?sb_Rhythm_tuple ?sb_BadPoint_tuple ?sb_BadNumber_tuple ?sb_BadRhythm_tuple ?sb_Rhythm_list ?sb_BadPoint_list ?sb_BadNumber_list ?sb_BadRhythm_list ?su_non_BadFigure ?su_non_BadRhythm ?su_bl_BadFigure ?su_bl_BadRhythm ?su_int_BadFigure ?su_int_BadRhythm ?su_str_BadFigure ?su_str_BadRhythm ?su_tup_BadFigure ?su_tup_BadRhythm ?su_lst_BadFigure ?su_lst_BadRhythm ?su_dct_BadFigure ?su_dct_BadRhythm ?su_Rhythm_BadFigure ?ne_Rhythm_BadFigure ?su_Rhythm_BadRhythm ?ne_Rhythm_BadRhythm ?su_BadPoint_BadFigure ?ne_BadPoint_BadFigure ?su_BadPoint_BadRhythm ?ne_BadPoint_BadRhythm ?su_BadNumber_BadFigure ?ne_BadNumber_BadFigure ?su_BadNumber_BadRhythm ?ne_BadNumber_BadRhythm ?su_BadRhythm_BadFigure ?ne_BadRhythm_BadFigure ?su_non_BadPoint ?su_bl_BadPoint ?su_int_BadPoint ?su_str_BadPoint ?su_tup_BadPoint ?su_lst_BadPoint ?su_dct_BadPoint ?su_Rhythm_BadPoint ?ne_Rhythm_BadPoint ?su_BadNumber_BadPoint ?ne_BadNumber_BadPoint ?su_BadRhythm_BadPoint ?ne_BadRhythm_BadPoint ?su_non_NoGrouping ?su_bl_NoGrouping ?su_int_NoGrouping ?su_str_NoGrouping ?su_tup_NoGrouping ?su_lst_NoGrouping ?su_dct_NoGrouping ?su_Rhythm_NoGrouping ?ne_Rhythm_NoGrouping ?su_BadPoint_NoGrouping ?ne_BadPoint_NoGrouping ?su_BadNumber_NoGrouping ?ne_BadNumber_NoGrouping ?su_BadRhythm_NoGrouping ?ne_BadRhythm_NoGrouping ?su_non_BadNumber ?su_bl_BadNumber ?su_int_BadNumber ?su_str_BadNumber ?su_tup_BadNumber ?su_lst_BadNumber ?su_dct_BadNumber ?su_Rhythm_BadNumber ?ne_Rhythm_BadNumber ?su_BadPoint_BadNumber ?ne_BadPoint_BadNumber ?su_BadRhythm_BadNumber ?ne_BadRhythm_BadNumber ?su_non_BadRow ?su_bl_BadRow ?su_int_BadRow ?su_str_BadRow ?su_tup_BadRow ?su_lst_BadRow ?su_dct_BadRow ?su_Rhythm_BadRow ?ne_Rhythm_BadRow ?su_BadPoint_BadRow ?ne_BadPoint_BadRow ?su_BadNumber_BadRow ?ne_BadNumber_BadRow ?su_BadRhythm_BadRow ?ne_BadRhythm_BadRow ?su_non_BadLoop ?su_bl_BadLoop ?su_int_BadLoop ?su_str_BadLoop ?su_tup_BadLoop ?su_lst_BadLoop ?su_dct_BadLoop ?su_Rhythm_BadLoop ?ne_Rhythm_BadLoop ?su_BadPoint_BadLoop ?ne_BadPoint_BadLoop ?su_BadNumber_BadLoop ?ne_BadNumber_BadLoop ?su_BadRhythm_BadLoop ?ne_BadRhythm_BadLoop ?su_non_BadGroups ?su_bl_BadGroups ?su_int_BadGroups ?su_str_BadGroups ?su_tup_BadGroups ?su_lst_BadGroups ?su_dct_BadGroups ?su_Rhythm_BadGroups ?ne_Rhythm_BadGroups ?su_BadPoint_BadGroups ?ne_BadPoint_BadGroups ?su_BadNumber_BadGroups ?ne_BadNumber_BadGroups ?su_BadRhythm_BadGroups ?ne_BadRhythm_BadGroups ?su_non_BadMetre ?su_bl_BadMetre ?su_int_BadMetre ?su_str_BadMetre ?su_tup_BadMetre ?su_lst_BadMetre ?su_dct_BadMetre ?su_Rhythm_BadMetre ?ne_Rhythm_BadMetre ?su_BadPoint_BadMetre ?ne_BadPoint_BadMetre ?su_BadNumber_BadMetre ?ne_BadNumber_BadMetre ?su_BadRhythm_BadMetre ?ne_BadRhythm_BadMetre ?xb_RhythmError ?xc_RhythmError ?xt_RhythmError ?xs_BadPoint_RhythmError ?xs_BadNumber_RhythmError ?xs_BadRhythm_RhythmError
    (case hc0 => k_is)
    (case hc1 => k_is)
    (case hc2 => k_is)
    (case hc12 => k_is)
    (case hc13 => k_is)
    (case hc14 => k_is)
    (case hc15 => k_is)
    (case hc16 => k_is)
    (case hc17 => k_is)
    (case hc18 => k_is)
    (case hc43 => k_is)
    (case ha0 => k_is)
    (case hl0 => k_is)
    (case hd0 => k_is)
    (case hk0 => k_is)
    (case ha1 => k_is)
    (case hl1 => k_is)
    (case hd1 => k_is)
    (case hk1 => k_is)
    (case ha2 => k_is)
    (case hl2 => k_is)
    (case hd2 => k_is)
    (case hk2 => k_is)
    (case ha3 => k_is)
    (case hl3 => k_is)
    (case hd3 => k_is)
    (case hk3 => k_is)
    (case ha4 => k_is)
    (case hl4 => k_is)
    (case hd4 => k_is)
    (case hk4 => k_is)
    (case ha5 => k_is)
    (case hl5 => k_is)
    (case hd5 => k_is)
    (case hk5 => k_is)
    (case ha6 => k_is)
    (case hl6 => k_is)
    (case hd6 => k_is)
    (case hk6 => k_is)
    (case ha7 => k_is)
    (case hl7 => k_is)
    (case hd7 => k_is)
    (case hk7 => k_is)
    (case ha8 => k_is)
    (case hl8 => k_is)
    (case hd8 => k_is)
    (case hk8 => k_is)
    (case ha9 => k_is)
    (case hl9 => k_is)
    (case hd9 => k_is)
    (case hk9 => k_is)
    (case ha10 => k_is)
    (case hl10 => k_is)
    (case hd10 => k_is)
    (case hk10 => k_is)
    (case ha11 => k_is)
    (case hl11 => k_is)
    (case hd11 => k_is)
    (case hk11 => k_is)
    (case ha12 => k_is)
    (case hl12 => k_is)
    (case hd12 => k_is)
    (case hk12 => k_is)
    (case ha13 => k_is)
    (case hl13 => k_is)
    (case hd13 => k_is)
    (case hk13 => k_is)
    (case ha14 => k_is)
    (case hl14 => k_is)
    (case hd14 => k_is)
    (case hk14 => k_is)
    (case ha15 => k_is)
    (case hl15 => k_is)
    (case hd15 => k_is)
    (case hk15 => k_is)
    (case ha16 => k_is)
    (case hl16 => k_is)
    (case hcc16 => rfl)
    (case hch16 => kernel_rfl)
    (case hco16 => kernel_rfl)
    (case hd16 => k_is)
    (case hk16 => k_is)
    (case hz_all => k_is)
    (case hz_bool => k_is)
    (case hz_enumerate => k_is)
    (case hz_int => k_is)
    (case hz_isinstance => k_is)
    (case hz_len => k_is)
    (case hz_list => k_is)
    (case hz_max => k_is)
    (case hz_range => k_is)
    (case hz_sorted => k_is)
    (case hz_str => k_is)
    (case hz_tuple => k_is)
    (case hz_zip => k_is)
    (case hg_SOUNDS => k_is)
    (case hl_SOUNDS => k_is)
    (case hv_SOUNDS => exact .cons ⟨_, rfl⟩ (.cons ⟨_, rfl⟩ (.nil)))
    (case hs_SOUNDS => exact Fe.small_sz _ (by decide))
    (case hg_MOST_NOTES => k_is)
    (case hg_MOST_PULSES => k_is)
    (case pg_Rhythm => k_is)
    (case hd_Rhythm => k_is)
    (case po_Rhythm => k_is)
    (case sa_Rhythm => k_is)
    (case na_Rhythm_own_length => k_is)
    (case na_Rhythm_own_notes => k_is)
    (case mk_Rhythm => k_is)
    (case fn9 => k_is)
    (case kc2_Rhythm => k_is)
    (case fn14 => k_is)
    (case fn10 => k_is)
    (case x_BadNumber => k_exc)
    (case kc_BadNumber => k_is)
    (case sb_BadNumber => k_is)
    (case ty_BadNumber => k_is)
    (case bx_sp => k_is)
    (case bx_rd => k_is)
    (case bx_fc => k_is)
    (case xl_BadPoint => k_is)
    (case xsa_BadPoint => k_is)
    (case kc_BadPoint => k_is)
    (case sb_BadPoint => k_is)
    (case ty_BadPoint => k_is)
    (case xno_BadPoint => k_is)
    (case xti_BadPoint => k_is)
    (case xl_BadRhythm => k_is)
    (case xsa_BadRhythm => k_is)
    (case kc_BadRhythm => k_is)
    (case sb_BadRhythm => k_is)
    (case ty_BadRhythm => k_is)
    (case xno_BadRhythm => k_is)
    (case xti_BadRhythm => k_is)
    (case xga_BadRhythm => k_is)
    (case xgg_BadRhythm => k_is)
    (case xhd_BadRhythm => k_is)
    (case xga_BadPoint => k_is)
    (case xgg_BadPoint => k_is)
    (case xhd_BadPoint => k_is)
    (case hin => k_is)
    (case hit => k_is)
    (case ia_Rhythm => k_is)
    (case im_Rhythm => k_is)
    (case ec_BadPoint => first | k_is | rfl | decide +kernel)
    (case eg_BadPoint => k_is)
    (case ek_BadPoint => k_is)
    (case ia_BadPoint => k_is)
    (case im_BadPoint => k_is)
    (case ec_BadNumber => first | k_is | rfl | decide +kernel)
    (case eg_BadNumber => k_is)
    (case ek_BadNumber => k_is)
    (case ia_BadNumber => k_is)
    (case im_BadNumber => k_is)
    (case ec_BadRhythm => first | k_is | rfl | decide +kernel)
    (case eg_BadRhythm => k_is)
    (case ek_BadRhythm => k_is)
    (case ia_BadRhythm => k_is)
    (case im_BadRhythm => k_is)
    (case kl_BadFigure => first | k_is | rfl | decide +kernel)
    (case kt_BadFigure => k_is)
    (case kl_BadGroups => first | k_is | rfl | decide +kernel)
    (case kt_BadGroups => k_is)
    (case kl_BadLoop => first | k_is | rfl | decide +kernel)
    (case kt_BadLoop => k_is)
    (case kl_BadMetre => first | k_is | rfl | decide +kernel)
    (case kt_BadMetre => k_is)
    (case kl_BadNumber => first | k_is | rfl | decide +kernel)
    (case kt_BadNumber => k_is)
    (case kl_BadPoint => first | k_is | rfl | decide +kernel)
    (case kt_BadPoint => k_is)
    (case kl_BadRhythm => first | k_is | rfl | decide +kernel)
    (case kt_BadRhythm => k_is)
    (case kl_BadRow => first | k_is | rfl | decide +kernel)
    (case kt_BadRow => k_is)
    (case kl_NoGrouping => first | k_is | rfl | decide +kernel)
    (case kt_NoGrouping => k_is)
    (case sb_Rhythm_bool => k_is)
    (case sb_BadPoint_bool => k_is)
    (case sb_BadNumber_bool => k_is)
    (case sb_BadRhythm_bool => k_is)
    (case sb_Rhythm_int => k_is)
    (case sb_BadPoint_int => k_is)
    (case sb_BadNumber_int => k_is)
    (case sb_BadRhythm_int => k_is)
    (case sb_Rhythm_str => k_is)
    (case sb_BadPoint_str => k_is)
    (case sb_BadNumber_str => k_is)
    (case sb_BadRhythm_str => k_is)
    (case sb_Rhythm_tuple => k_is)
    (case sb_BadPoint_tuple => k_is)
    (case sb_BadNumber_tuple => k_is)
    (case sb_BadRhythm_tuple => k_is)
    (case sb_Rhythm_list => k_is)
    (case sb_BadPoint_list => k_is)
    (case sb_BadNumber_list => k_is)
    (case sb_BadRhythm_list => k_is)
    (case su_non_BadFigure => k_is)
    (case su_non_BadRhythm => k_is)
    (case su_bl_BadFigure => k_is)
    (case su_bl_BadRhythm => k_is)
    (case su_int_BadFigure => k_is)
    (case su_int_BadRhythm => k_is)
    (case su_str_BadFigure => k_is)
    (case su_str_BadRhythm => k_is)
    (case su_tup_BadFigure => k_is)
    (case su_tup_BadRhythm => k_is)
    (case su_lst_BadFigure => k_is)
    (case su_lst_BadRhythm => k_is)
    (case su_dct_BadFigure => k_is)
    (case su_dct_BadRhythm => k_is)
    (case su_Rhythm_BadFigure => k_is)
    (case ne_Rhythm_BadFigure => decide)
    (case su_Rhythm_BadRhythm => k_is)
    (case ne_Rhythm_BadRhythm => decide)
    (case su_BadPoint_BadFigure => k_is)
    (case ne_BadPoint_BadFigure => decide)
    (case su_BadPoint_BadRhythm => k_is)
    (case ne_BadPoint_BadRhythm => decide)
    (case su_BadNumber_BadFigure => k_is)
    (case ne_BadNumber_BadFigure => decide)
    (case su_BadNumber_BadRhythm => k_is)
    (case ne_BadNumber_BadRhythm => decide)
    (case su_BadRhythm_BadFigure => k_is)
    (case ne_BadRhythm_BadFigure => decide)
    (case su_non_BadPoint => k_is)
    (case su_bl_BadPoint => k_is)
    (case su_int_BadPoint => k_is)
    (case su_str_BadPoint => k_is)
    (case su_tup_BadPoint => k_is)
    (case su_lst_BadPoint => k_is)
    (case su_dct_BadPoint => k_is)
    (case su_Rhythm_BadPoint => k_is)
    (case ne_Rhythm_BadPoint => decide)
    (case su_BadNumber_BadPoint => k_is)
    (case ne_BadNumber_BadPoint => decide)
    (case su_BadRhythm_BadPoint => k_is)
    (case ne_BadRhythm_BadPoint => decide)
    (case su_non_NoGrouping => k_is)
    (case su_bl_NoGrouping => k_is)
    (case su_int_NoGrouping => k_is)
    (case su_str_NoGrouping => k_is)
    (case su_tup_NoGrouping => k_is)
    (case su_lst_NoGrouping => k_is)
    (case su_dct_NoGrouping => k_is)
    (case su_Rhythm_NoGrouping => k_is)
    (case ne_Rhythm_NoGrouping => decide)
    (case su_BadPoint_NoGrouping => k_is)
    (case ne_BadPoint_NoGrouping => decide)
    (case su_BadNumber_NoGrouping => k_is)
    (case ne_BadNumber_NoGrouping => decide)
    (case su_BadRhythm_NoGrouping => k_is)
    (case ne_BadRhythm_NoGrouping => decide)
    (case su_non_BadNumber => k_is)
    (case su_bl_BadNumber => k_is)
    (case su_int_BadNumber => k_is)
    (case su_str_BadNumber => k_is)
    (case su_tup_BadNumber => k_is)
    (case su_lst_BadNumber => k_is)
    (case su_dct_BadNumber => k_is)
    (case su_Rhythm_BadNumber => k_is)
    (case ne_Rhythm_BadNumber => decide)
    (case su_BadPoint_BadNumber => k_is)
    (case ne_BadPoint_BadNumber => decide)
    (case su_BadRhythm_BadNumber => k_is)
    (case ne_BadRhythm_BadNumber => decide)
    (case su_non_BadRow => k_is)
    (case su_bl_BadRow => k_is)
    (case su_int_BadRow => k_is)
    (case su_str_BadRow => k_is)
    (case su_tup_BadRow => k_is)
    (case su_lst_BadRow => k_is)
    (case su_dct_BadRow => k_is)
    (case su_Rhythm_BadRow => k_is)
    (case ne_Rhythm_BadRow => decide)
    (case su_BadPoint_BadRow => k_is)
    (case ne_BadPoint_BadRow => decide)
    (case su_BadNumber_BadRow => k_is)
    (case ne_BadNumber_BadRow => decide)
    (case su_BadRhythm_BadRow => k_is)
    (case ne_BadRhythm_BadRow => decide)
    (case su_non_BadLoop => k_is)
    (case su_bl_BadLoop => k_is)
    (case su_int_BadLoop => k_is)
    (case su_str_BadLoop => k_is)
    (case su_tup_BadLoop => k_is)
    (case su_lst_BadLoop => k_is)
    (case su_dct_BadLoop => k_is)
    (case su_Rhythm_BadLoop => k_is)
    (case ne_Rhythm_BadLoop => decide)
    (case su_BadPoint_BadLoop => k_is)
    (case ne_BadPoint_BadLoop => decide)
    (case su_BadNumber_BadLoop => k_is)
    (case ne_BadNumber_BadLoop => decide)
    (case su_BadRhythm_BadLoop => k_is)
    (case ne_BadRhythm_BadLoop => decide)
    (case su_non_BadGroups => k_is)
    (case su_bl_BadGroups => k_is)
    (case su_int_BadGroups => k_is)
    (case su_str_BadGroups => k_is)
    (case su_tup_BadGroups => k_is)
    (case su_lst_BadGroups => k_is)
    (case su_dct_BadGroups => k_is)
    (case su_Rhythm_BadGroups => k_is)
    (case ne_Rhythm_BadGroups => decide)
    (case su_BadPoint_BadGroups => k_is)
    (case ne_BadPoint_BadGroups => decide)
    (case su_BadNumber_BadGroups => k_is)
    (case ne_BadNumber_BadGroups => decide)
    (case su_BadRhythm_BadGroups => k_is)
    (case ne_BadRhythm_BadGroups => decide)
    (case su_non_BadMetre => k_is)
    (case su_bl_BadMetre => k_is)
    (case su_int_BadMetre => k_is)
    (case su_str_BadMetre => k_is)
    (case su_tup_BadMetre => k_is)
    (case su_lst_BadMetre => k_is)
    (case su_dct_BadMetre => k_is)
    (case su_Rhythm_BadMetre => k_is)
    (case ne_Rhythm_BadMetre => decide)
    (case su_BadPoint_BadMetre => k_is)
    (case ne_BadPoint_BadMetre => decide)
    (case su_BadNumber_BadMetre => k_is)
    (case ne_BadNumber_BadMetre => decide)
    (case su_BadRhythm_BadMetre => k_is)
    (case ne_BadRhythm_BadMetre => decide)
    (case xb_RhythmError => k_is)
    (case xc_RhythmError => first | k_is | rfl | decide +kernel)
    (case xt_RhythmError => k_is)
    (case xs_BadPoint_RhythmError => k_is)
    (case xs_BadNumber_RhythmError => k_is)
    (case xs_BadRhythm_RhythmError => k_is)
