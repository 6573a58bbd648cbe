import PyProof.Rows.All
import Wide.All
import OpenK.AllK
import Wide.FinOn
import HandS.ForMost
import HandS.ForExc
import HandS.Wide
import HandS.IsInst
import HandS.TupAny
import HandS.TupMul
import HandS.Style
import HandS.Exc
import HandS.TryOnly
import HandS.WordsExc
import KE.GoesEnum
import HandS.Iter
import HandS.Conv
import HandS.Rev
import HandS.More
import HandS.Comp
import HandS.RaiseMore
import HandS.TupLen
import HandS.Text
import HandS.ExcInit
import HandS.ExcField
import HandS.ExcOwn
import HandS.ExcIs
import HandS.ClsMeth
import HandS.TryMany
import HandS.Defaults
import KE.KDictPairs
import KE.KDictKeyed
import HandS.Words
import HandS.Head0
import HandS.Head1
import HandS.Head2
import HandS.HeadEnd
import HandS.HeadHook1
import HandS.HeadHook2
import PySem.Challenge.RW_partmill_k94_whole_rests_of_one_number
set_option linter.all false
set_option Elab.async false
set_option maxRecDepth 100000
set_option maxHeartbeats 8000000
namespace Fx
open PySem PySem.Spec PyProof.Rows L2

/-- plain data; ref n: the n-th object of the store -/
inductive Dat where
  | non | bl (b : Bool) | int (i : Int) | str (x : Str)
  | tup (xs : List Dat) | lst (xs : List Dat) | dct (t : Bool) (ks vs : List Dat) | obj (c : String) (ns : List Str) (vs : List Dat)
  | scr (xs : List Int) | ref (n : Nat)
  deriving Inhabited

mutual
def Dat.eqb : Dat → Dat → Bool
  | .non, .non => true
  | .bl a, .bl b => a == b
  | .int a, .int b => decide (a = b)
  | .str a, .str b => decide (a = b)
  | .tup a, .tup b => Dat.eqbL a b
  | .lst a, .lst b => Dat.eqbL a b
  | .dct t a b, .dct t' a' b' => t == t' && (Dat.eqbL a a' && Dat.eqbL b b')
  | .obj t a b, .obj t' a' b' => decide (t = t') && (decide (a = a') && Dat.eqbL b b')
  | .scr a, .scr b => decide (a = b)
  | .ref a, .ref b => decide (a = b)
  | _, _ => false
def Dat.eqbL : List Dat → List Dat → Bool
  | [], [] => true
  | a :: r, b :: s => Dat.eqb a b && Dat.eqbL r s
  | _, _ => false
end
mutual
theorem Dat.eqb_iff : ∀ a b : Dat, Dat.eqb a b = true ↔ a = b
  | .non, b => by cases b <;> simp [Dat.eqb]
  | .bl x, b => by cases b <;> simp [Dat.eqb]
  | .int x, b => by cases b <;> simp [Dat.eqb]
  | .str x, b => by cases b <;> simp [Dat.eqb]
  | .tup x, b => by cases b <;> simp [Dat.eqb, Dat.eqbL_iff x]
  | .lst x, b => by cases b <;> simp [Dat.eqb, Dat.eqbL_iff x]
  | .dct t x y, b => by cases b <;> simp [Dat.eqb, Dat.eqbL_iff x, Dat.eqbL_iff y]
  | .obj t x y, b => by cases b <;> simp [Dat.eqb, Dat.eqbL_iff y]
  | .scr x, b => by cases b <;> simp [Dat.eqb]
  | .ref x, b => by cases b <;> simp [Dat.eqb]
theorem Dat.eqbL_iff : ∀ a b : List Dat, Dat.eqbL a b = true ↔ a = b
  | [], b => by cases b <;> simp [Dat.eqbL]
  | x :: r, b => by cases b <;> simp [Dat.eqbL, Dat.eqb_iff x, Dat.eqbL_iff r]
end
instance : DecidableEq Dat := fun a b => decidable_of_iff _ (Dat.eqb_iff a b)
/-- the tuples of the written part that code reads (by law) -/
def ktAll : List (List Dat) := []

/-- an object of the store -/
inductive Ob where
  | gone
  | lst (xs : List Dat)
  | dct (t : Bool) (kvs : List (Dat × Dat))
  | ins (c : String) (fs : List (Str × Dat))
  deriving DecidableEq, Inhabited
abbrev Sto := List Ob

mutual
def Dat.lt (n : Nat) : Dat → Bool
  | .tup xs => Dat.ltL n xs
  | .lst xs => Dat.ltL n xs
  | .dct _ ks vs => Dat.ltL n ks && Dat.ltL n vs
  | .obj _ _ vs => Dat.ltL n vs
  | .ref m => decide (m < n)
  | .non => true
  | .bl _ => true
  | .int _ => true
  | .str _ => true
  | .scr _ => true
def Dat.ltL (n : Nat) : List Dat → Bool
  | [] => true
  | d :: ds => Dat.lt n d && Dat.ltL n ds
end
theorem Dat.ltL_all (n : Nat) : ∀ ds : List Dat, Dat.ltL n ds = ds.all (Dat.lt n)
  | [] => by simp [Dat.ltL]
  | d :: ds => by simp [Dat.ltL, Dat.ltL_all n ds]
def Ob.lt (n : Nat) : Ob → Bool
  | .gone => true
  | .lst xs => Dat.ltL n xs
  | .dct _ kvs => kvs.all fun p => Dat.lt n p.1 && Dat.lt n p.2
  | .ins _ fs => fs.all fun p => Dat.lt n p.2

/-- an exception: its class, its fields -/
structure Ex where
  cls : String
  fs : List (Str × Dat)
  deriving DecidableEq, Inhabited

/-- what comes of running something -/
inductive Res (α : Type) where
  | ok (a : α) (S : Sto)
  | exc (e : Ex) (S : Sto)
  | stuck
  deriving Inhabited
instance {α : Type} [DecidableEq α] : DecidableEq (Res α)
  | .ok a S, .ok b T => if h : a = b ∧ S = T then isTrue (by rw [h.1, h.2]) else isFalse (fun e => by cases e; exact h ⟨rfl, rfl⟩)
  | .exc a S, .exc b T => if h : a = b ∧ S = T then isTrue (by rw [h.1, h.2]) else isFalse (fun e => by cases e; exact h ⟨rfl, rfl⟩)
  | .stuck, .stuck => isTrue rfl
  | .ok _ _, .exc _ _ => isFalse (fun e => nomatch e)
  | .ok _ _, .stuck => isFalse (fun e => nomatch e)
  | .exc _ _, .ok _ _ => isFalse (fun e => nomatch e)
  | .exc _ _, .stuck => isFalse (fun e => nomatch e)
  | .stuck, .ok _ _ => isFalse (fun e => nomatch e)
  | .stuck, .exc _ _ => isFalse (fun e => nomatch e)
def Res.bind {α β : Type} (r : Res α) (k : α → Sto → Res β) : Res β :=
  match r with
  | .ok a S => k a S
  | .exc e S => .exc e S
  | .stuck => .stuck
@[simp] theorem Res.bind_ok {α β : Type} (a : α) (S : Sto) (k : α → Sto → Res β) : (Res.ok a S).bind k = k a S := id rfl
@[simp] theorem Res.bind_exc {α β : Type} (e : Ex) (S : Sto) (k : α → Sto → Res β) : (Res.exc e S : Res α).bind k = .exc e S := id rfl
@[simp] theorem Res.bind_stuck {α β : Type} (k : α → Sto → Res β) : (Res.stuck : Res α).bind k = .stuck := id rfl
def Res.guard {α : Type} (b : Bool) (r : Res α) : Res α := if b then r else .stuck

/-- the slots -/
abbrev Sl := List (Option Dat)
abbrev EF := Sl → Sto → Res Dat
abbrev BF := Sl → Sto → Res Bool
abbrev AF := Sl → Sto → Res (List Dat)
abbrev Fn := List Dat → Sto → Res Dat

/-- what is fixed: the written part, the classes' addresses -/
structure Gc where
  K : PySem.W.Frag
  cl : String → Addr
  xp : Option (Nat × Addr × Value × Option Addr × Ex)

/-- a tuple of the written part -/
def KT (K : PySem.W.Frag) (a : Addr) (xs : List V) : Prop :=
  ∃ (o : Obj) (its : Array Value) (n : Nat), K.lookup a = some o ∧ o.cls = .type "tuple" ∧ o.data = .seq its n ∧ its.size ≤ sizeLine ∧ Vals xs its.toList
def KL (K : PySem.W.Frag) (a : Addr) (xs : List V) : Prop :=
  ∃ (o : Obj) (its : Array Value) (n : Nat), K.lookup a = some o ∧ o.cls = .type "list" ∧ o.dict = none ∧ o.data = .seq its n ∧ its.size ≤ sizeLine ∧ Vals xs its.toList

def dkey : Dat → Option Key
  | .int i => some (.inl i)
  | .str x => some (.inr x)
  | _ => none
def dkeys : List Dat → Option (List Key)
  | [] => some []
  | d :: r => match dkey d, dkeys r with
    | some k, some ks => some (k :: ks)
    | _, _ => none
def tkey : Dat → Option (List Key)
  | .tup xs => dkeys xs
  | _ => none
def tkeys : List Dat → Option (List (List Key))
  | [] => some []
  | d :: r => match tkey d, tkeys r with
    | some k, some ks => some (k :: ks)
    | _, _ => none

section
variable (G : Gc) (F as : List Addr) (H : Hp)
mutual
def Rep : Dat → V → Prop
  | .non, v => v = .non
  | .bl b, v => v = .bl b
  | .int i, v => v = .int i
  | .str x, v => v = .str x
  | .tup xs, v => ∃ a vs, v = .ref a ∧ ((a ∈ F ∧ H a = some (.tup vs)) ∨ (KT G.K a vs ∧ xs ∈ ktAll)) ∧ RepL xs vs
  | .lst xs, v => ∃ a vs, v = .ref a ∧ (a ∈ F ∧ H a = some (.lst vs)) ∧ RepL xs vs
  | .dct t ks xs, v => ∃ a, v = .ref a ∧ a ∈ F ∧
      ((t = false ∧ ∃ kv : List (Key × V), Rd H a (.dK kv) ∧ dkeys ks = some (kv.map (·.1)) ∧ RepL xs (kv.map (·.2))) ∨
       (t = true ∧ ∃ kv : List (List Key × V), Rd H a (.dT kv) ∧ tkeys ks = some (kv.map (·.1)) ∧ RepL xs (kv.map (·.2))))
  | .obj c ns xs, v => ∃ a dx fs, v = .ref a ∧ (a ∈ F ∧ H a = some (.ins (G.cl c) dx fs)) ∧ fs.map (·.1) = ns ∧ RepL xs (fs.map (·.2))
  | .scr xs, v => ∃ a, v = .ref a ∧ ((a ∈ F ∧ Rd H a (.lst (xs.map V.int))) ∨ KL G.K a (xs.map V.int))
  | .ref n, v => ∃ a, v = .ref a ∧ as[n]? = some a
def RepL : List Dat → List V → Prop
  | [], vs => vs = []
  | d :: ds, vs => ∃ v vs', vs = v :: vs' ∧ Rep d v ∧ RepL ds vs'
end
end

/-- it lives: it may be changed -/
def Live (as : List Addr) (S : Sto) (a : Addr) : Prop := ∃ (n : Nat) (o : Ob), as[n]? = some a ∧ S[n]? = some o ∧ o ≠ .gone

/-- an object of the store as it stands -/
def RepO (G : Gc) (F as : List Addr) (H : Hp) (a : Addr) : Ob → Prop
  | .gone => True
  | .lst xs => ∃ vs, H a = some (.lst vs) ∧ RepL G F as H xs vs
  | .dct t kvs =>
      (t = false ∧ ∃ kv : List (Key × V), H a = some (.dK kv) ∧ dkeys (kvs.map (·.1)) = some (kv.map (·.1)) ∧ RepL G F as H (kvs.map (·.2)) (kv.map (·.2))) ∨
      (t = true ∧ ∃ kv : List (List Key × V), H a = some (.dT kv) ∧ tkeys (kvs.map (·.1)) = some (kv.map (·.1)) ∧ RepL G F as H (kvs.map (·.2)) (kv.map (·.2)))
  | .ins c fs => ∃ dx fs', H a = some (.ins (G.cl c) dx fs') ∧ fs'.map (·.1) = fs.map (·.1) ∧ RepL G F as H (fs.map (·.2)) (fs'.map (·.2))

/-- the store stands in the heap -/
structure HR (G : Gc) (F as : List Addr) (S : Sto) (H : Hp) : Prop where
  len : as.length = S.length
  nd : as.Nodup
  there : ∀ a ∈ as, H a ≠ none
  thereF : ∀ a ∈ F, H a ≠ none
  apart : ∀ a, Live as S a → a ∉ F
  obs : ∀ (n : Nat) (a : Addr) (o : Ob), as[n]? = some a → S[n]? = some o → RepO G F as H a o

/-- from one moment to a later one -/
structure Nxt (G : Gc) (F as : List Addr) (S : Sto) (H : Hp) (F' as' : List Addr) (S' : Sto) (H' : Hp) : Prop where
  hr : HR G F' as' S' H'
  pre : ∃ r, as' = as ++ r
  fsub : ∀ a ∈ F, a ∈ F'
  keep : ∀ b o, H b = some o → ¬ Live as S b → H' b = some o
  newF : ∀ a ∈ F', a ∈ F ∨ Live as S a ∨ H a = none
  newL : ∀ a, Live as' S' a → Live as S a ∨ H a = none
  newA : ∀ a ∈ as', a ∈ as ∨ H a = none
  some_ : ∀ b, H b ≠ none → H' b ≠ none

/-- an exception that flies -/
def ExR (G : Gc) (F as : List Addr) (H : Hp) (e : Ex) (c : Value) (dx : Option Addr) : Prop :=
  c = .ref (G.cl e.cls) ∧ ((e.fs = [] ∧ dx = none) ∨ (∃ d fs, dx = some d ∧ d ∈ F ∧ H d = some (.xd fs) ∧ e.fs ≠ [] ∧ fs.map (·.1) = e.fs.map (·.1) ∧ RepL G F as H (e.fs.map (·.2)) (fs.map (·.2))))
/-- the slots stand; the slot of a caught exception is empty here -/
def SR (G : Gc) (F as : List Addr) (H : Hp) (σd : Sl) (σ : L2.St) : Prop :=
  σ.length = σd.length ∧ (∀ (i : Nat) (d : Dat), σd[i]? = some (some d) → ∃ v, σ[i]? = some (some v) ∧ Rep G F as H d v) ∧
    ∀ i a c dx e, G.xp = some (i, a, c, dx, e) → σd[i]? = some none → σ[i]? = some (some (.ref a)) ∧ ExR G F as H e c dx

section
variable {G : Gc} {F as : List Addr} {H : Hp}
theorem RepL.paired : ∀ {ds : List Dat} {vs : List V}, RepL G F as H ds vs → Paired (Rep G F as H) ds vs
  | [], vs, h => by simp only [RepL] at h; subst h; exact .nil
  | d :: ds, vs, h => by
    simp only [RepL] at h
    obtain ⟨v, vs', rfl, h1, h2⟩ := h
    exact .cons h1 (RepL.paired h2)
theorem RepL.of_paired : ∀ {ds : List Dat} {vs : List V}, Paired (Rep G F as H) ds vs → RepL G F as H ds vs
  | _, _, .nil => by simp only [RepL]
  | _, _, .cons h t => by simp only [RepL]; exact ⟨_, _, rfl, h, RepL.of_paired t⟩
theorem RepL.iff {ds : List Dat} {vs : List V} : RepL G F as H ds vs ↔ Paired (Rep G F as H) ds vs := ⟨RepL.paired, RepL.of_paired⟩
theorem RepL.length {ds : List Dat} {vs : List V} (h : RepL G F as H ds vs) : ds.length = vs.length := Paired.length h.paired
theorem RepL.nil : RepL G F as H [] [] := by simp only [RepL]
theorem RepL.cons {d : Dat} {v : V} {ds : List Dat} {vs : List V} (h : Rep G F as H d v) (t : RepL G F as H ds vs) : RepL G F as H (d :: ds) (v :: vs) := by simp only [RepL]; exact ⟨_, _, rfl, h, t⟩
theorem RepL.append : ∀ {ds es : List Dat} {vs ws : List V}, RepL G F as H ds vs → RepL G F as H es ws → RepL G F as H (ds ++ es) (vs ++ ws)
  | [], _, _, _, h, t => by simp only [RepL] at h; subst h; exact t
  | d :: ds, _, _, _, h, t => by
    simp only [RepL] at h
    obtain ⟨v, vs', rfl, h1, h2⟩ := h
    exact .cons h1 (RepL.append h2 t)
theorem RepL.get : ∀ {ds : List Dat} {vs : List V} {i : Nat} {d : Dat}, RepL G F as H ds vs → ds[i]? = some d → ∃ v, vs[i]? = some v ∧ Rep G F as H d v
  | [], _, _, _, _, e => by simp at e
  | x :: ds, _, 0, d, h, e => by
    simp only [RepL] at h
    obtain ⟨v, vs', rfl, h1, h2⟩ := h
    simp at e; subst e
    exact ⟨v, rfl, h1⟩
  | x :: ds, _, i + 1, d, h, e => by
    simp only [RepL] at h
    obtain ⟨v, vs', rfl, h1, h2⟩ := h
    exact RepL.get (i := i) h2 (by simpa using e)
theorem RepL.set {d : Dat} {v : V} (r : Rep G F as H d v) : ∀ {ds : List Dat} {vs : List V} (i : Nat), RepL G F as H ds vs → RepL G F as H (ds.set i d) (vs.set i v)
  | [], _, _, h => by simp only [RepL] at h; subst h; exact .nil
  | x :: ds, _, 0, h => by
    simp only [RepL] at h
    obtain ⟨w, vs', rfl, h1, h2⟩ := h
    exact .cons r h2
  | x :: ds, _, i + 1, h => by
    simp only [RepL] at h
    obtain ⟨w, vs', rfl, h1, h2⟩ := h
    exact .cons h1 (RepL.set r i h2)
theorem RepL.take : ∀ {ds : List Dat} {vs : List V} (n : Nat), RepL G F as H ds vs → RepL G F as H (ds.take n) (vs.take n)
  | _, _, 0, _ => .nil
  | [], _, n + 1, h => by simp only [RepL] at h; subst h; exact .nil
  | x :: ds, _, n + 1, h => by
    simp only [RepL] at h
    obtain ⟨w, vs', rfl, h1, h2⟩ := h
    exact .cons h1 (RepL.take n h2)
theorem RepL.drop : ∀ {ds : List Dat} {vs : List V} (n : Nat), RepL G F as H ds vs → RepL G F as H (ds.drop n) (vs.drop n)
  | _, _, 0, h => h
  | [], _, n + 1, h => by simp only [RepL] at h; subst h; exact .nil
  | x :: ds, _, n + 1, h => by
    simp only [RepL] at h
    obtain ⟨w, vs', rfl, h1, h2⟩ := h
    exact RepL.drop n h2
theorem RepL.reverse : ∀ {ds : List Dat} {vs : List V}, RepL G F as H ds vs → RepL G F as H ds.reverse vs.reverse
  | [], _, h => by simp only [RepL] at h; subst h; exact .nil
  | x :: ds, _, h => by
    simp only [RepL] at h
    obtain ⟨w, vs', rfl, h1, h2⟩ := h
    rw [List.reverse_cons, List.reverse_cons]
    exact (RepL.reverse h2).append (.cons h1 .nil)
theorem RepL.ints : ∀ (xs : List Int), RepL G F as H (xs.map Dat.int) (xs.map V.int)
  | [] => .nil
  | x :: r => .cons (by simp only [Rep]) (RepL.ints r)
end

section
variable {G : Gc} {F F' as as' : List Addr} {H H' : Hp}
/-- what keeps what stands there -/
structure Kp (F as F' as' : List Addr) (H H' : Hp) : Prop where
  f : ∀ a ∈ F, a ∈ F'
  same : ∀ a ∈ F, ∀ o, H a = some o → H' a = some o
  pre : ∀ (n : Nat) (a : Addr), as[n]? = some a → as'[n]? = some a
mutual
theorem Rep.kp (k : Kp F as F' as' H H') : ∀ (d : Dat) (v : V), Rep G F as H d v → Rep G F' as' H' d v
  | .non, v, h => by simp only [Rep] at h ⊢; exact h
  | .bl _, v, h => by simp only [Rep] at h ⊢; exact h
  | .int _, v, h => by simp only [Rep] at h ⊢; exact h
  | .str _, v, h => by simp only [Rep] at h ⊢; exact h
  | .tup xs, v, h => by
    simp only [Rep] at h ⊢
    obtain ⟨a, vs, e, h1, h2⟩ := h
    exact ⟨a, vs, e, h1.imp (fun ⟨x, y⟩ => ⟨k.f a x, k.same a x _ y⟩) id, RepL.kp k xs vs h2⟩
  | .lst xs, v, h => by
    simp only [Rep] at h ⊢
    obtain ⟨a, vs, e, ⟨x, y⟩, h2⟩ := h
    exact ⟨a, vs, e, ⟨k.f a x, k.same a x _ y⟩, RepL.kp k xs vs h2⟩
  | .dct t ks xs, v, h => by
    simp only [Rep] at h ⊢
    obtain ⟨a, e, x, h2⟩ := h
    refine ⟨a, e, k.f a x, ?_⟩
    rcases h2 with ⟨e1, kv, rd, e2, r⟩ | ⟨e1, kv, rd, e2, r⟩
    · refine .inl ⟨e1, kv, ?_, e2, RepL.kp k xs _ r⟩
      rcases rd with z | ⟨o, z⟩
      · exact .inl (k.same a x _ z)
      · exact .inr ⟨o, k.same a x _ z⟩
    · refine .inr ⟨e1, kv, ?_, e2, RepL.kp k xs _ r⟩
      rcases rd with z | ⟨o, z⟩
      · exact .inl (k.same a x _ z)
      · exact .inr ⟨o, k.same a x _ z⟩
  | .obj c ns xs, v, h => by
    simp only [Rep] at h ⊢
    obtain ⟨a, dx, fs, e, ⟨x, y⟩, h2, h3⟩ := h
    exact ⟨a, dx, fs, e, ⟨k.f a x, k.same a x _ y⟩, h2, RepL.kp k xs _ h3⟩
  | .scr xs, v, h => by
    simp only [Rep] at h ⊢
    obtain ⟨a, e, h1⟩ := h
    refine ⟨a, e, h1.imp (fun ⟨x, y⟩ => ⟨k.f a x, ?_⟩) id⟩
    rcases y with z | ⟨o, z⟩
    · exact .inl (k.same a x _ z)
    · exact .inr ⟨o, k.same a x _ z⟩
  | .ref n, v, h => by
    simp only [Rep] at h ⊢
    obtain ⟨a, e, h1⟩ := h
    exact ⟨a, e, k.pre n a h1⟩
theorem RepL.kp (k : Kp F as F' as' H H') : ∀ (ds : List Dat) (vs : List V), RepL G F as H ds vs → RepL G F' as' H' ds vs
  | [], vs, h => by simp only [RepL] at h ⊢; exact h
  | d :: ds, vs, h => by
    simp only [RepL] at h ⊢
    obtain ⟨v, vs', e, h1, h2⟩ := h
    exact ⟨v, vs', e, Rep.kp k d v h1, RepL.kp k ds vs' h2⟩
end
theorem RepO.kp (k : Kp F as F' as' H H') {a : Addr} {o : Ob} (same : ∀ u, H a = some u → H' a = some u) (h : RepO G F as H a o) : RepO G F' as' H' a o := by
  cases o with
  | gone => trivial
  | lst xs =>
    obtain ⟨vs, e, r⟩ := h
    exact ⟨vs, same _ e, RepL.kp k _ _ r⟩
  | dct t kvs =>
    rcases h with ⟨e1, kv, e2, e3, r⟩ | ⟨e1, kv, e2, e3, r⟩
    · exact .inl ⟨e1, kv, same _ e2, e3, RepL.kp k _ _ r⟩
    · exact .inr ⟨e1, kv, same _ e2, e3, RepL.kp k _ _ r⟩
  | ins c fs =>
    obtain ⟨dx, fs', e, e2, r⟩ := h
    exact ⟨dx, fs', same _ e, e2, RepL.kp k _ _ r⟩
theorem ExR.kp {e : Ex} {c : Value} {dx : Option Addr} (k : Kp F as F' as' H H') (h : ExR G F as H e c dx) : ExR G F' as' H' e c dx :=
  ⟨h.1, h.2.imp id fun ⟨d, fs, h1, h2, h3, h4, h5, h6⟩ => ⟨d, fs, h1, k.f d h2, k.same d h2 _ h3, h4, h5, RepL.kp k _ _ h6⟩⟩
theorem SR.kp {σd : Sl} {σ : L2.St} (k : Kp F as F' as' H H') (h : SR G F as H σd σ) : SR G F' as' H' σd σ :=
  ⟨h.1, fun i d e => let ⟨v, e1, r⟩ := h.2.1 i d e; ⟨v, e1, Rep.kp k d v r⟩, fun i a c dx e x1 x2 => let ⟨y1, y2⟩ := h.2.2 i a c dx e x1 x2; ⟨y1, y2.kp k⟩⟩
end

section
variable {G : Gc} {F F' F'' as as' as'' : List Addr} {S S' S'' : Sto} {H H' H'' : Hp}
theorem HR.notLive (h : HR G F as S H) {a : Addr} (ha : a ∈ F) : ¬ Live as S a := fun l => h.apart a l ha
theorem Nxt.kp (h : HR G F as S H) (n : Nxt G F as S H F' as' S' H') : Kp F as F' as' H H' where
  f := n.fsub
  same := fun a ha o e => n.keep a o e (h.notLive ha)
  pre := fun i a e => by
    obtain ⟨r, rfl⟩ := n.pre
    have := (List.getElem?_eq_some_iff.mp e).1
    rw [List.getElem?_append_left this]; exact e
theorem Nxt.refl (h : HR G F as S H) : Nxt G F as S H F as S H := ⟨h, ⟨[], by simp⟩, fun _ x => x, fun _ _ x _ => x, fun _ x => .inl x, fun _ x => .inl x, fun _ x => .inl x, fun _ x => x⟩
theorem Nxt.trans (a : Nxt G F as S H F' as' S' H') (b : Nxt G F' as' S' H' F'' as'' S'' H'') : Nxt G F as S H F'' as'' S'' H'' where
  hr := b.hr
  pre := by
    obtain ⟨r, rfl⟩ := a.pre
    obtain ⟨r', rfl⟩ := b.pre
    exact ⟨r ++ r', by simp⟩
  fsub := fun x hx => b.fsub x (a.fsub x hx)
  keep := fun x o e hl => b.keep x o (a.keep x o e hl) fun l => by
    rcases a.newL x l with z | z
    · exact hl z
    · rw [e] at z; cases z
  newF := fun x hx => by
    have key : H' x = none → H x = none := fun z => by
      cases q : H x with
      | none => rfl
      | some o => exact absurd z (a.some_ x (by rw [q]; exact fun h => nomatch h))
    rcases b.newF x hx with z | z | z
    · exact a.newF x z
    · exact .inr (a.newL x z)
    · exact .inr (.inr (key z))
  newL := fun x hx => by
    have key : H' x = none → H x = none := fun z => by
      cases q : H x with
      | none => rfl
      | some o => exact absurd z (a.some_ x (by rw [q]; exact fun h => nomatch h))
    rcases b.newL x hx with z | z
    · exact a.newL x z
    · exact .inr (key z)
  newA := fun x hx => by
    have key : H' x = none → H x = none := fun z => by
      cases q : H x with
      | none => rfl
      | some o => exact absurd z (a.some_ x (by rw [q]; exact fun h => nomatch h))
    rcases b.newA x hx with z | z
    · exact a.newA x z
    · exact .inr (key z)
  some_ := fun x hx => b.some_ x (a.some_ x hx)
theorem SR.nxt {σd : Sl} {σ : L2.St} (hr : HR G F as S H) (n : Nxt G F as S H F' as' S' H') (h : SR G F as H σd σ) : SR G F' as' H' σd σ := h.kp (n.kp hr)
theorem Rep.nxt {d : Dat} {v : V} (hr : HR G F as S H) (n : Nxt G F as S H F' as' S' H') (h : Rep G F as H d v) : Rep G F' as' H' d v := Rep.kp (n.kp hr) d v h
theorem RepL.nxt {ds : List Dat} {vs : List V} (hr : HR G F as S H) (n : Nxt G F as S H F' as' S' H') (h : RepL G F as H ds vs) : RepL G F' as' H' ds vs := RepL.kp (n.kp hr) ds vs h

/-- a new frozen object is laid at p -/
theorem Nxt.laid (hr : HR G F as S H) {p : Addr} (hp : H p = none) (o : HO) : Nxt G F as S H (p :: F) as S (upd H p o) := by
  have ne : ∀ {b u}, H b = some u → b ≠ p := fun {b u} e => ne_of_none e hp
  have nel : ∀ b, Live as S b → b ≠ p := fun b ⟨n, u, e, _, _⟩ z => hr.there b (List.mem_of_getElem? e) (z ▸ hp)
  have keep : ∀ b u, H b = some u → upd H p o b = some u := fun b u e => by rw [upd_ne (ne e)]; exact e
  have k : Kp F as (p :: F) as H (upd H p o) := ⟨fun a h => List.mem_cons_of_mem _ h, fun a _ u e => keep a u e, fun _ _ e => e⟩
  refine ⟨⟨hr.len, hr.nd, fun a ha => ?_, fun a ha => ?_, fun a l => ?_, fun n a u e1 e2 => (hr.obs n a u e1 e2).kp k fun u e => keep a u e⟩, ⟨[], by simp⟩, fun a h => List.mem_cons_of_mem _ h, fun b u e _ => keep b u e, fun a ha => ?_, fun a l => .inl l, fun a h => .inl h, fun b hb => ?_⟩
  · by_cases z : a = p
    · rw [z, upd_same]; exact fun h => nomatch h
    · rw [upd_ne z]; exact hr.there a ha
  · by_cases z : a = p
    · rw [z, upd_same]; exact fun h => nomatch h
    · rw [upd_ne z]; exact hr.thereF a ((List.mem_cons.mp ha).resolve_left z)
  · intro h
    exact (List.mem_cons.mp h).elim (nel a l) (hr.apart a l)
  · exact (List.mem_cons.mp ha).elim (fun z => .inr (.inr (z ▸ hp))) .inl
  · by_cases z : b = p
    · rw [z, upd_same]; exact fun h => nomatch h
    · rw [upd_ne z]; exact hb

theorem Live.append {as : List Addr} {S : Sto} {p a : Addr} {o : Ob} (hl : as.length = S.length) (h : Live (as ++ [p]) (S ++ [o]) a) : Live as S a ∨ a = p := by
  obtain ⟨n, u, e1, e2, e3⟩ := h
  by_cases hn : n < as.length
  · rw [List.getElem?_append_left hn] at e1
    rw [List.getElem?_append_left (hl ▸ hn)] at e2
    exact .inl ⟨n, u, e1, e2, e3⟩
  · have hn' : as.length ≤ n := Nat.le_of_not_lt hn
    rw [List.getElem?_append_right hn'] at e1
    obtain ⟨h1, h2⟩ := List.getElem?_eq_some_iff.mp e1
    simp at h1
    exact .inr (by rw [← h2]; simp)
/-- a new live object is laid at p -/
theorem Nxt.made (hr : HR G F as S H) {p : Addr} (hp : H p = none) (u : HO) (o : Ob) (ok : ∀ H', (∀ b x, H b = some x → H' b = some x) → H' p = some u → RepO G F (as ++ [p]) H' p o) :
    Nxt G F as S H F (as ++ [p]) (S ++ [o]) (upd H p u) := by
  have ne : ∀ {b u}, H b = some u → b ≠ p := fun {b u} e => ne_of_none e hp
  have nea : ∀ b ∈ as, b ≠ p := fun b hb z => hr.there b hb (z ▸ hp)
  have keep : ∀ b x, H b = some x → upd H p u b = some x := fun b x e => by rw [upd_ne (ne e)]; exact e
  have k : Kp F as F (as ++ [p]) H (upd H p u) := ⟨fun a h => h, fun a _ x e => keep a x e, fun n a e => by
    rw [List.getElem?_append_left (List.getElem?_eq_some_iff.mp e).1]; exact e⟩
  have thr : ∀ a, H a ≠ none → upd H p u a ≠ none := fun a ha => by
    by_cases z : a = p
    · rw [z, upd_same]; exact fun h => nomatch h
    · rw [upd_ne z]; exact ha
  refine ⟨⟨by simp [hr.len], ?_, fun a ha => ?_, fun a ha => thr a (hr.thereF a ha), fun a l hF => ?_, fun n a x e1 e2 => ?_⟩, ⟨[p], rfl⟩, fun a h => h, fun b x e _ => keep b x e, fun a ha => .inl ha, fun a l => ?_, fun a h => (List.mem_append.mp h).imp id (fun z => by rw [List.mem_singleton.mp z]; exact hp), thr⟩
  · refine List.nodup_append.mpr ⟨hr.nd, by simp, fun a ha b hb => ?_⟩
    have : b = p := by simpa using hb
    rw [this]; exact nea a ha
  · rcases List.mem_append.mp ha with h | h
    · exact thr a (hr.there a h)
    · have : a = p := by simpa using h
      rw [this, upd_same]; exact fun h => nomatch h
  · rcases Live.append hr.len l with h | h
    · exact hr.apart a h hF
    · exact hr.thereF a hF (h ▸ hp)
  · by_cases hn : n < as.length
    · rw [List.getElem?_append_left hn] at e1
      rw [List.getElem?_append_left (hr.len ▸ hn)] at e2
      exact (hr.obs n a x e1 e2).kp k fun y e => keep a y e
    · have hn' : as.length ≤ n := Nat.le_of_not_lt hn
      rw [List.getElem?_append_right hn'] at e1
      rw [List.getElem?_append_right (hr.len ▸ hn')] at e2
      obtain ⟨h1, h2⟩ := List.getElem?_eq_some_iff.mp e1
      obtain ⟨h3, h4⟩ := List.getElem?_eq_some_iff.mp e2
      have ea : a = p := by rw [← h2]; simp
      have eo : x = o := by rw [← h4]; simp
      rw [ea, eo]
      exact ok _ keep upd_same
  · rcases Live.append hr.len l with h | h
    · exact .inl h
    · exact .inr (h ▸ hp)

theorem Live.set {as : List Addr} {S : Sto} {n : Nat} {a : Addr} {o : Ob} (h : Live as (S.set n o) a) : Live as S a ∨ (as[n]? = some a ∧ n < S.length ∧ o ≠ .gone) := by
  obtain ⟨m, u, e1, e2, e3⟩ := h
  by_cases hm : m = n
  · subst hm
    have hl : m < S.length := by
      have := (List.getElem?_eq_some_iff.mp e2).1
      simpa using this
    rw [List.getElem?_set_self hl] at e2
    exact .inr ⟨e1, hl, by cases e2; exact e3⟩
  · rw [List.getElem?_set_ne (Ne.symm hm)] at e2
    exact .inl ⟨m, u, e1, e2, e3⟩
theorem nodup_get {as : List Addr} (nd : as.Nodup) {m n : Nat} {a : Addr} (h1 : as[m]? = some a) (h2 : as[n]? = some a) : m = n := by
  obtain ⟨l1, e1⟩ := List.getElem?_eq_some_iff.mp h1
  obtain ⟨l2, e2⟩ := List.getElem?_eq_some_iff.mp h2
  exact (List.getElem_inj nd).mp (e1.trans e2.symm)
/-- the live object n is changed -/
theorem Nxt.wrote (hr : HR G F as S H) {n : Nat} {p : Addr} {o o' : Ob} (u : HO) (ha : as[n]? = some p) (hs : S[n]? = some o) (hl : o ≠ .gone) (hl' : o' ≠ .gone) (ok : ∀ H', (∀ b x, b ≠ p → H b = some x → H' b = some x) → H' p = some u → RepO G F as H' p o') :
    Nxt G F as S H F as (S.set n o') (upd H p u) := by
  have lv : Live as S p := ⟨n, o, ha, hs, hl⟩
  have keep : ∀ b x, b ≠ p → H b = some x → upd H p u b = some x := fun b x z e => by rw [upd_ne z]; exact e
  have nf : ∀ a ∈ F, a ≠ p := fun a h z => hr.apart p lv (z ▸ h)
  have k : Kp F as F as H (upd H p u) := ⟨fun a h => h, fun a h x e => keep a x (nf a h) e, fun _ _ e => e⟩
  have thr : ∀ a, H a ≠ none → upd H p u a ≠ none := fun a ha => by
    by_cases z : a = p
    · rw [z, upd_same]; exact fun h => nomatch h
    · rw [upd_ne z]; exact ha
  have back : ∀ a, Live as (S.set n o') a → Live as S a := fun a l => by
    rcases l.set with h | ⟨h, _, _⟩
    · exact h
    · rw [ha] at h; cases h; exact lv
  refine ⟨⟨by simp [hr.len], hr.nd, fun a h => thr a (hr.there a h), fun a h => thr a (hr.thereF a h), fun a l => hr.apart a (back a l), fun m a x e1 e2 => ?_⟩, ⟨[], by simp⟩, fun a h => h, fun b x e hn => keep b x (fun z => hn (z ▸ lv)) e, fun a h => .inl h, fun a l => .inl (back a l), fun a h => .inl h, thr⟩
  by_cases hm : m = n
  · subst hm
    have hlt : m < S.length := (List.getElem?_eq_some_iff.mp hs).1
    rw [List.getElem?_set_self hlt] at e2
    cases e2
    rw [ha] at e1; cases e1
    exact ok _ keep upd_same
  · rw [List.getElem?_set_ne (Ne.symm hm)] at e2
    have ne : a ≠ p := fun z => hm (nodup_get hr.nd (z ▸ e1) ha)
    exact (hr.obs m a x e1 e2).kp k fun y e => keep a y ne e
/-- the live object n is frozen: it is gone from the store -/
theorem Nxt.froze (hr : HR G F as S H) {n : Nat} {p : Addr} {o : Ob} (ha : as[n]? = some p) (hs : S[n]? = some o) (hl : o ≠ .gone) : Nxt G F as S H (p :: F) as (S.set n .gone) H := by
  have lv : Live as S p := ⟨n, o, ha, hs, hl⟩
  have back : ∀ a, Live as (S.set n .gone) a → Live as S a ∧ a ≠ p := fun a l => by
    obtain ⟨m, u, e1, e2, e3⟩ := l
    by_cases hm : m = n
    · subst hm
      have hlt : m < S.length := (List.getElem?_eq_some_iff.mp hs).1
      rw [List.getElem?_set_self hlt] at e2
      cases e2; exact absurd rfl e3
    · rw [List.getElem?_set_ne (Ne.symm hm)] at e2
      exact ⟨⟨m, u, e1, e2, e3⟩, fun z => hm (nodup_get hr.nd (z ▸ e1) ha)⟩
  have k : Kp F as (p :: F) as H H := ⟨fun a h => List.mem_cons_of_mem _ h, fun a _ x e => e, fun _ _ e => e⟩
  refine ⟨⟨by simp [hr.len], hr.nd, hr.there, fun a h => ?_, fun a l => ?_, fun m a x e1 e2 => ?_⟩, ⟨[], by simp⟩, fun a h => List.mem_cons_of_mem _ h, fun b x e _ => e, fun a h => ?_, fun a l => .inl (back a l).1, fun a h => .inl h, fun _ h => h⟩
  · rcases List.mem_cons.mp h with z | z
    · rw [z]; exact hr.there p (List.mem_of_getElem? ha)
    · exact hr.thereF a z
  · intro h
    rcases List.mem_cons.mp h with z | z
    · exact (back a l).2 z
    · exact hr.apart a (back a l).1 z
  · by_cases hm : m = n
    · subst hm
      have hlt : m < S.length := (List.getElem?_eq_some_iff.mp hs).1
      rw [List.getElem?_set_self hlt] at e2
      cases e2; trivial
    · rw [List.getElem?_set_ne (Ne.symm hm)] at e2
      exact (hr.obs m a x e1 e2).kp k fun y e => e
  · rcases List.mem_cons.mp h with z | z
    · exact .inr (.inl (z ▸ lv))
    · exact .inl z
/-- an object that is neither frozen nor in the store changes -/
theorem HR.side (hr : HR G F as S H) {p : Addr} (o : HO) (hf : p ∉ F) (hl : ¬ Live as S p) : HR G F as S (upd H p o) := by
  have thr : ∀ a, H a ≠ none → upd H p o a ≠ none := fun a ha => by
    by_cases z : a = p
    · rw [z, upd_same]; exact fun h => nomatch h
    · rw [upd_ne z]; exact ha
  have k : Kp F as F as H (upd H p o) := ⟨fun a h => h, fun a h x e => by rw [upd_ne (fun (z : a = p) => hf (z ▸ h))]; exact e, fun _ _ e => e⟩
  refine ⟨hr.len, hr.nd, fun a h => thr a (hr.there a h), fun a h => thr a (hr.thereF a h), hr.apart, fun n a x e1 e2 => ?_⟩
  by_cases z : x = .gone
  · subst z; trivial
  · exact (hr.obs n a x e1 e2).kp k fun y e => by rw [upd_ne (fun (q : a = p) => hl (q ▸ ⟨n, x, e1, e2, z⟩))]; exact e
theorem Nxt.side (n : Nxt G F as S H F' as' S' H') {p : Addr} (o : HO) (hn : H p = none) (hf : p ∉ F') (hl : ¬ Live as' S' p) : Nxt G F as S H F' as' S' (upd H' p o) where
  hr := n.hr.side o hf hl
  pre := n.pre
  fsub := n.fsub
  keep := fun b x e hb => by
    rw [upd_ne (ne_of_none e hn)]; exact n.keep b x e hb
  newF := n.newF
  newL := n.newL
  newA := n.newA
  some_ := fun b hb => by
    by_cases z : b = p
    · rw [z, upd_same]; exact fun h => nomatch h
    · rw [upd_ne z]; exact n.some_ b hb
end
end Fx

namespace Fx
open PySem PySem.Spec PyProof.Rows L2

abbrev RT (α β : Type) := List Addr → List Addr → Hp → α → β → Prop
def Post (G : Gc) {α β : Type} (R : RT α β) (W : WX) (σ : L2.St) (F as : List Addr) (S : Sto) (H : Hp) (r : Res α) (Q : β → Hp → Prop) : Prop :=
  match r with
  | .ok d S' => ∀ b F' as' H', Nxt G F as S H F' as' S' H' → R F' as' H' d b → Q b H'
  | .exc e S' => ∀ c dx F' as' H', Nxt G F as S H F' as' S' H' → ExR G F' as' H' e c dx → W c dx σ H'
  | .stuck => False
def Snd (G : Gc) {α β : Type} (R : RT α β) (W : WX) (t : L2.St → Hp → (β → Hp → Prop) → Prop) (f : Sl → Sto → Res α) : Prop :=
  ∀ F as S H σd σ Q, HR G F as S H → SR G F as H σd σ → Post G R W σ F as S H (f σd S) Q → t σ H Q

section
variable {G : Gc} {α β γ δ : Type} {R : RT α β} {Ra : RT γ δ} {W : WX} {σ : L2.St} {F as F1 as1 : List Addr} {S S1 : Sto} {H H1 : Hp} {Q : β → Hp → Prop}
theorem Post.step {r : Res α} (h : Post G R W σ F as S H r Q) (n : Nxt G F as S H F1 as1 S1 H1) : Post G R W σ F1 as1 S1 H1 r Q := by
  cases r with
  | ok d S' => exact fun b F' as' H' m q => h b F' as' H' (n.trans m) q
  | exc e S' => exact fun c dx F' as' H' m q => h c dx F' as' H' (n.trans m) q
  | stuck => exact h
theorem Post.bind {r : Res γ} {k : γ → Sto → Res α} {Q1 : δ → Hp → Prop} (h : Post G R W σ F as S H (r.bind k) Q)
    (hk : ∀ d S1 b F1 as1 H1, r = .ok d S1 → Nxt G F as S H F1 as1 S1 H1 → Ra F1 as1 H1 d b → Post G R W σ F1 as1 S1 H1 (k d S1) Q → Q1 b H1) : Post G Ra W σ F as S H r Q1 := by
  cases r with
  | ok d S' => exact fun b F' as' H' m q => hk d S' b F' as' H' rfl m q (Post.step h m)
  | exc e S' => exact h
  | stuck => exact h
theorem Post.now {d : α} {b : β} (h : Post G R W σ F as S H (.ok d S) Q) (hr : HR G F as S H) (r : R F as H d b) : Q b H := h b F as H (.refl hr) r
theorem Post.new {d : α} {b : β} {p : Addr} {o : HO} (h : Post G R W σ F as S H (.ok d S) Q) (hr : HR G F as S H) (hp : H p = none) (r : R (p :: F) as (upd H p o) d b) : Q b (upd H p o) := h b _ as _ (Nxt.laid hr hp o) r
theorem Kp.laid (hr : HR G F as S H) {p : Addr} (hp : H p = none) (o : HO) : Kp F as (p :: F) as H (upd H p o) := (Nxt.laid hr hp o).kp hr
theorem Post.guard {b : Bool} {r : Res α} (h : Post G R W σ F as S H (Res.guard b r) Q) : b = true ∧ Post G R W σ F as S H r Q := by
  cases b with
  | true => exact ⟨rfl, h⟩
  | false => exact h.elim
end

structure Ctx (G : Gc) (X : Cx) (W : WX) : Prop where
  K : X.K = G.K
  tk : Takes X W
  nd : X.N.Nodup
  un : X.A.units + 70 < cLine
  cx : X.calm = true → G.xp = none
/-- an expression -/
structure DE (G : Gc) (X : Cx) (W : WX) (e : Expr) (f : EF) : Prop where
  ex : ∃ t, PE X e t ∧ Snd G (Rep G) W t f
/-- a test -/
structure DT (G : Gc) (X : Cx) (W : WX) (e : Expr) (f : BF) : Prop where
  ex : ∃ t, PT X e t ∧ Snd G (fun _ _ _ (a b : Bool) => a = b) W t f
structure DW (G : Gc) (X : Cx) (W : WX) (e : Expr) (f : BF) : Prop where
  ex : ∃ t, PW X e t ∧ Snd G (fun _ _ _ (a b : Bool) => a = b) W t f
/-- arguments -/
structure DA (G : Gc) (X : Cx) (W : WX) (es : List Expr) (f : AF) : Prop where
  ex : ∃ t, PA X es t ∧ Snd G (RepL G) W t f
abbrev RB : RT Bool Bool := fun _ _ _ a b => a = b

theorem Rep.int_iff {G : Gc} {F as : List Addr} {H : Hp} {i : Int} {v : V} (h : Rep G F as H (.int i) v) : v = .int i := by simpa only [Rep] using h
theorem Rep.bl_iff {G : Gc} {F as : List Addr} {H : Hp} {i : Bool} {v : V} (h : Rep G F as H (.bl i) v) : v = .bl i := by simpa only [Rep] using h
theorem Rep.str_iff {G : Gc} {F as : List Addr} {H : Hp} {i : Str} {v : V} (h : Rep G F as H (.str i) v) : v = .str i := by simpa only [Rep] using h
theorem Rep.non_iff {G : Gc} {F as : List Addr} {H : Hp} {v : V} (h : Rep G F as H .non v) : v = .non := by simpa only [Rep] using h
def cV (i : Nat) : EF := fun σ S => match σ[i]? with
  | some (some d) => .ok d S
  | _ => .stuck
def cC (d : Dat) : EF := fun _ S => .ok d S
section
variable {G : Gc} {X : Cx} {W : WX}
theorem snd_var (i : Nat) : Snd G (Rep G) W (tVar i) (cV i) := by
  intro F as S H σd σ Q hr hs hp
  unfold cV at hp
  split at hp
  · rename_i d e
    obtain ⟨v, e1, r⟩ := hs.2.1 i d e
    exact ⟨v, e1, hp.now hr r⟩
  · exact hp.elim
theorem de_var (i : Nat) {x : Str} {pos : Pos} (hN : X.N[i]? = some x := by rfl) (hv : Vis X.env.scope x := by first | exact Or.inl rfl | exact Or.inr (Or.inl rfl) | exact Or.inr (Or.inr rfl)) (hd : (x == ("__debug__" : Str)) = false := by decide)
    (hcd : (x == ("__classdict__" : Str)) = false := by decide) : DE G X W (.Name x pos) (cV i) := ⟨_, pe_var hN hv hd hcd, snd_var i⟩
theorem snd_const {v : V} {d : Dat} (r : ∀ F as H, Rep G F as H d v) : Snd G (Rep G) W (tC v) (cC d) := fun F as S H σd σ Q hr _ hp => hp.now hr (r F as H)
theorem de_int {i : Int} {j pos} : DE G X W (.Constant (.int i) j pos) (cC (.int i)) := ⟨_, pe_int, snd_const fun _ _ _ => by simp only [Rep]⟩
theorem de_bl {b j pos} : DE G X W (.Constant (.bool b) j pos) (cC (.bl b)) := ⟨_, pe_bl, snd_const fun _ _ _ => by simp only [Rep]⟩
theorem de_non {j pos} : DE G X W (.Constant .none j pos) (cC .non) := ⟨_, pe_non, snd_const fun _ _ _ => by simp only [Rep]⟩
theorem de_str {x j pos} : DE G X W (.Constant (.str x) j pos) (cC (.str x)) := ⟨_, pe_str, snd_const fun _ _ _ => by simp only [Rep]⟩
/-- a constant of the module: an int or a text -/
theorem de_gint {x : Str} {i : Int} {t : Tok} {pos : Pos} (hg : Gl X x) (hm : X.mg x = some (.int i t)) (hd : (x == ("__debug__" : Str)) = false := by decide) : DE G X W (.Name x pos) (cC (.int i)) :=
  ⟨_, pe_glob (v := .int i) hg hm ⟨t, rfl⟩ hd, snd_const fun _ _ _ => by simp only [Rep]⟩
theorem de_gstr {x : Str} {i : Str} {t : Tok} {pos : Pos} (hg : Gl X x) (hm : X.mg x = some (.str i t)) (hd : (x == ("__debug__" : Str)) = false := by decide) : DE G X W (.Name x pos) (cC (.str i)) :=
  ⟨_, pe_glob (v := .str i) hg hm ⟨t, rfl⟩ hd, snd_const fun _ _ _ => by simp only [Rep]⟩
/-- .. a tuple of ints and texts -/
inductive Flat : List Dat → List Value → List V → Prop
  | nil : Flat [] [] []
  | int {ds us vs} (i : Int) (t : Tok) : Flat ds us vs → Flat (.int i :: ds) (.int i t :: us) (.int i :: vs)
  | str {ds us vs} (i : Str) (t : Tok) : Flat ds us vs → Flat (.str i :: ds) (.str i t :: us) (.str i :: vs)
theorem Flat.vals {ds us vs} (f : Flat ds us vs) : Vals vs us := by
  induction f with
  | nil => exact .nil
  | int i t _ ih => exact .cons ⟨t, rfl⟩ ih
  | str i t _ ih => exact .cons ⟨t, rfl⟩ ih
theorem Flat.rep {ds us vs} (f : Flat ds us vs) (F as : List Addr) (H : Hp) : RepL G F as H ds vs := by
  induction f with
  | nil => exact .nil
  | int i t _ ih => exact .cons (by simp only [Rep]) ih
  | str i t _ ih => exact .cons (by simp only [Rep]) ih
theorem de_gtup {x : Str} {a : Addr} {dd : Option Addr} {its : List Value} {n : Nat} {sl : Array (Option Value)} {ds : List Dat} {vs : List V} {pos : Pos} (c : Ctx G X W) (hg : Gl X x) (hm : X.mg x = some (.ref a)) (hk : G.K.lookup a = some ⟨.type "tuple", dd, .seq its.toArray n, sl⟩) (f : Flat ds its vs) (hz : its.length ≤ sizeLine) (hkt : ds ∈ ktAll)
    (hd : (x == ("__debug__" : Str)) = false := by decide) : DE G X W (.Name x pos) (cC (.tup ds)) :=
  ⟨_, pe_glob (v := .ref a) hg hm rfl hd, snd_const fun F as H => by
    simp only [Rep]
    exact ⟨a, vs, rfl, .inr ⟨⟨_, its.toArray, n, hk, rfl, rfl, by simpa using hz, by simpa using f.vals⟩, hkt⟩, f.rep F as H⟩⟩

def aNil : AF := fun _ S => .ok [] S
def aCons (f : EF) (g : AF) : AF := fun σ S => (f σ S).bind fun d S1 => (g σ S1).bind fun ds S2 => .ok (d :: ds) S2
theorem da_nil : DA G X W [] aNil := ⟨_, pa_nil, fun F as S H σd σ Q hr _ hp => hp.now hr .nil⟩
theorem snd_acons {te : TE} {ta : TA} {f : EF} {g : AF} (he : Snd G (Rep G) W te f) (ha : Snd G (RepL G) W ta g) : Snd G (RepL G) W (tCons te ta) (aCons f g) := by
  intro F as S H σd σ Q hr hs hp
  refine he F as S H σd σ _ hr hs (hp.bind fun d S1 b F1 as1 H1 _ n1 r1 h1 => ?_)
  refine ha F1 as1 S1 H1 σd σ _ n1.hr (hs.nxt hr n1) (h1.bind fun ds S2 b2 F2 as2 H2 _ n2 r2 h2 => ?_)
  exact h2.now n2.hr (.cons (r1.nxt n1.hr n2) r2)
theorem da_cons {e : Expr} {es : List Expr} {f : EF} {g : AF} (he : DE G X W e f) (ha : DA G X W es g) (hs : starEach (e :: es) X.env = (false, eval e X.env) :: starEach es X.env := by rfl) : DA G X W (e :: es) (aCons f g) := by
  obtain ⟨t, p, s⟩ := he.ex
  obtain ⟨t', p', s'⟩ := ha.ex
  exact ⟨_, pa_cons p p' hs, snd_acons s s'⟩

abbrev O1 := Dat → Sto → Res Dat
abbrev O2 := Dat → Dat → Sto → Res Dat
abbrev OA := List Dat → Sto → Res Dat
def Op1 (G : Gc) (r : V → Hp → VK → Prop) (o : O1) : Prop := ∀ F as S H x v Q W σ, HR G F as S H → Rep G F as H x v → Post G (Rep G) W σ F as S H (o x S) Q → r v H Q
def Op2 (G : Gc) (r : R2) (o : O2) : Prop := ∀ F as S H x y v u Q W σ, HR G F as S H → Rep G F as H x v → Rep G F as H y u → Post G (Rep G) W σ F as S H (o x y S) Q → r v u H Q
def OpA (G : Gc) (r : List V → Hp → VK → Prop) (o : OA) : Prop := ∀ F as S H xs vs Q W σ, HR G F as S H → RepL G F as H xs vs → Post G (Rep G) W σ F as S H (o xs S) Q → r vs H Q
/-- a method: the receiver, the arguments -/
abbrev OM := Dat → List Dat → Sto → Res Dat
def OpM (G : Gc) (r : V → List V → Hp → VK → Prop) (o : OM) : Prop := ∀ F as S H x xs v vs Q W σ, HR G F as S H → Rep G F as H x v → RepL G F as H xs vs → Post G (Rep G) W σ F as S H (o x xs S) Q → r v vs H Q
def e1 (o : O1) (f : EF) : EF := fun σ S => (f σ S).bind fun x S1 => o x S1
def e2 (o : O2) (f g : EF) : EF := fun σ S => (f σ S).bind fun x S1 => (g σ S1).bind fun y S2 => o x y S2
def eA (o : OA) (g : AF) : EF := fun σ S => (g σ S).bind fun xs S1 => o xs S1
theorem snd_1 {r : V → Hp → VK → Prop} {o : O1} {ta : TE} {f : EF} (ho : Op1 G r o) (ha : Snd G (Rep G) W ta f) : Snd G (Rep G) W (tUn r ta) (e1 o f) := by
  intro F as S H σd σ Q hr hs hp
  exact ha F as S H σd σ _ hr hs (hp.bind fun d S1 b F1 as1 H1 _ n1 r1 h1 => ho _ _ _ _ _ _ _ _ _ n1.hr r1 h1)
theorem snd_2 {r : R2} {o : O2} {ta tb : TE} {f g : EF} (ho : Op2 G r o) (ha : Snd G (Rep G) W ta f) (hb : Snd G (Rep G) W tb g) : Snd G (Rep G) W (tOp r ta tb) (e2 o f g) := by
  intro F as S H σd σ Q hr hs hp
  refine ha F as S H σd σ _ hr hs (hp.bind fun d S1 b F1 as1 H1 _ n1 r1 h1 => ?_)
  refine hb F1 as1 S1 H1 σd σ _ n1.hr (hs.nxt hr n1) (h1.bind fun d2 S2 b2 F2 as2 H2 _ n2 r2 h2 => ?_)
  exact ho _ _ _ _ _ _ _ _ _ _ _ n2.hr (r1.nxt n1.hr n2) r2 h2
theorem snd_A {r : List V → Hp → VK → Prop} {o : OA} {t : TA} {g : AF} (ho : OpA G r o) (ha : Snd G (RepL G) W t g) : Snd G (Rep G) W (tCB r t) (eA o g) := by
  intro F as S H σd σ Q hr hs hp
  exact ha F as S H σd σ _ hr hs (hp.bind fun d S1 b F1 as1 H1 _ n1 r1 h1 => ho _ _ _ _ _ _ _ _ _ n1.hr r1 h1)
theorem OpR.or {f : Value → Value → Sem Value} {r r' : R2} (h : OpR X f r) (h' : OpR X f r') : OpR X f (fun x y H Q => r x y H Q ∨ r' x y H Q) := by
  intro pins s σ H x y v u Q I rx ry q
  rcases q with q | q
  · exact h pins s σ H x y v u Q I rx ry q
  · exact h' pins s σ H x y v u Q I rx ry q
theorem de_op {op : Operator} {r : R2} {o : O2} {a b : Expr} {f g : EF} {pos : Pos} (hp : OpR X (binaryOp op) r) (ho : Op2 G r o) (ha : DE G X W a f) (hb : DE G X W b g) : DE G X W (.BinOp a op b pos) (e2 o f g) := by
  obtain ⟨t, p, s⟩ := ha.ex
  obtain ⟨t', p', s'⟩ := hb.ex
  exact ⟨_, pe_op hp p p', snd_2 ho s s'⟩
theorem de_un {op : UnaryOp} {r : V → Hp → VK → Prop} {o : O1} {a : Expr} {f : EF} {pos : Pos} (hp : UnR X (unaryOp op) r) (ho : Op1 G r o) (ha : DE G X W a f) : DE G X W (.UnaryOp op a pos) (e1 o f) := by
  obtain ⟨t, p, s⟩ := ha.ex
  exact ⟨_, pe_un hp p, snd_1 ho s⟩
theorem de_cmp {op : CmpOp} {r : R2} {o : O2} {a b : Expr} {f g : EF} {pos : Pos} (hp : OpR X (compareOp op) r) (ho : Op2 G r o) (ha : DE G X W a f) (hb : DE G X W b g) (hm : behindInMarks op b = false := by first | exact nobehind _ (by decide) (by decide) | rfl) : DE G X W (.Compare a [op] [b] pos) (e2 o f g) := by
  obtain ⟨t, p, s⟩ := ha.ex
  obtain ⟨t', p', s'⟩ := hb.ex
  exact ⟨_, pe_cmpR hp p p' hm, snd_2 ho s s'⟩
theorem de_ix {r : R2} {o : O2} {a b : Expr} {f g : EF} {pos : Pos} (hp : IxR X r) (ho : Op2 G r o) (ha : DE G X W a f) (hb : DE G X W b g) (hm : PlainIx b := by exact fun _ _ => rfl) : DE G X W (.Subscript a b pos) (e2 o f g) := by
  obtain ⟨t, p, s⟩ := ha.ex
  obtain ⟨t', p', s'⟩ := hb.ex
  exact ⟨_, pe_ix hp p p' hm, snd_2 ho s s'⟩
/-- f(..), f a built-in function, or class -/
theorem de_blt {x : Str} {id : String} {r : List V → Hp → VK → Prop} {o : OA} {e : Expr} {es : List Expr} {g : AF} {p pos : Pos} (hc : CallR X (.builtin id) r) (ho : OpA G r o) (hg : Gl X x) (hm : X.mg x = none) (hv : bootBuiltins x = some (.builtin id)) (ha : DA G X W (e :: es) g) (hn : x ≠ "__name__" := by decide) (hdb : (x == ("__debug__" : Str)) = false := by decide)
    (he : starEach (e :: es) X.env = (false, eval e X.env) :: starEach es X.env := by rfl) (hpl : (backTo pos (starEach es X.env)).any (·.1) = false := by rfl) : DE G X W (.Call (.Name x p) (e :: es) [] pos) (eA o g) := by
  obtain ⟨t, q, s⟩ := ha.ex
  exact ⟨_, pe_callB hc hg hm hv q hn hdb he hpl, snd_A ho s⟩
theorem de_typ {x : Str} {T : String} {r : List V → Hp → VK → Prop} {o : OA} {e : Expr} {es : List Expr} {g : AF} {p pos : Pos} (hc : CallR X (.type T) r) (ho : OpA G r o) (hg : Gl X x) (hm : X.mg x = none) (hv : bootBuiltins x = some (.type T)) (ha : DA G X W (e :: es) g) (hn : x ≠ "__name__" := by decide) (hdb : (x == ("__debug__" : Str)) = false := by decide)
    (he : starEach (e :: es) X.env = (false, eval e X.env) :: starEach es X.env := by rfl) (hpl : (backTo pos (starEach es X.env)).any (·.1) = false := by rfl) : DE G X W (.Call (.Name x p) (e :: es) [] pos) (eA o g) := by
  obtain ⟨t, q, s⟩ := ha.ex
  exact ⟨_, pe_callTy hc hg hm hv q hn hdb he hpl, snd_A ho s⟩

def bV (f : EF) : BF := fun σ S => (f σ S).bind fun d S1 => match d with
  | .bl b => .ok b S1
  | _ => .stuck
theorem snd_tB {t : TE} {f : EF} (h : Snd G (Rep G) W t f) : Snd G RB W (tB t) (bV f) := by
  intro F as S H σd σ Q hr hs hp
  refine h F as S H σd σ _ hr hs (hp.bind fun d S1 b F1 as1 H1 _ n1 r1 h1 => ?_)
  split at h1
  · simp only [Rep] at r1
    exact ⟨_, r1, h1.now n1.hr rfl⟩
  · exact h1.elim
/-- a value that is True or False, as a test -/
theorem dt_val {e : Expr} {f : EF} (h : DE G X W e f) (he : ∀ whole, isTrue e X.env whole = (do let v ← whole; standAt e.pos; holding [v] (truthy v)) := by intro _; rfl) : DT G X W e (bV f) := by
  obtain ⟨t, p, s⟩ := h.ex
  exact ⟨_, pt_val p he, snd_tB s⟩
theorem dt_cmp {op : CmpOp} {r : R2} {o : O2} {a b : Expr} {f g : EF} {pos : Pos} (hp : OpR X (compareOp op) r) (ho : Op2 G r o) (ha : DE G X W a f) (hb : DE G X W b g) (hm : behindInMarks op b = false := by first | exact nobehind _ (by decide) (by decide) | rfl) : DT G X W (.Compare a [op] [b] pos) (bV (e2 o f g)) := by
  obtain ⟨t, p, s⟩ := ha.ex
  obtain ⟨t', p', s'⟩ := hb.ex
  exact ⟨_, pt_cmpR hp p p' hm, snd_tB (snd_2 ho s s')⟩
def bAnd (f g : BF) : BF := fun σ S => (f σ S).bind fun b S1 => if b then g σ S1 else .ok false S1
def bOr (f g : BF) : BF := fun σ S => (f σ S).bind fun b S1 => if b then .ok true S1 else g σ S1
def bNot (f : BF) : BF := fun σ S => (f σ S).bind fun b S1 => .ok (!b) S1
theorem dt_not {a : Expr} {f : BF} {pos : Pos} (h : DT G X W a f) : DT G X W (.UnaryOp .Not a pos) (bNot f) := by
  obtain ⟨t, p, s⟩ := h.ex
  refine ⟨_, pt_not p, fun F as S H σd σ Q hr hs hp => s F as S H σd σ _ hr hs (hp.bind fun d S1 b F1 as1 H1 _ n1 r1 h1 => ?_)⟩
  obtain rfl : d = b := r1
  exact h1.now n1.hr rfl
theorem dw_and1 {a : Expr} {f : BF} {pos : Pos} (h : DT G X W a f) : DW G X W (.BoolOp .And [a] pos) f := by
  obtain ⟨t, p, s⟩ := h.ex
  exact ⟨_, pw_and1 p, s⟩
theorem dw_or1 {a : Expr} {f : BF} {pos : Pos} (h : DT G X W a f) : DW G X W (.BoolOp .Or [a] pos) f := by
  obtain ⟨t, p, s⟩ := h.ex
  exact ⟨_, pw_or1 p, s⟩
theorem dw_and {a b : Expr} {rest : List Expr} {f g : BF} {pos : Pos} (ha : DT G X W a f) (hb : DW G X W (.BoolOp .And (b :: rest) pos) g) : DW G X W (.BoolOp .And (a :: b :: rest) pos) (bAnd f g) := by
  obtain ⟨t, p, s⟩ := ha.ex
  obtain ⟨t', p', s'⟩ := hb.ex
  refine ⟨_, pw_and p p', fun F as S H σd σ Q hr hs hp => s F as S H σd σ _ hr hs (hp.bind fun d S1 b F1 as1 H1 _ n1 r1 h1 => ?_)⟩
  obtain rfl : d = b := r1
  cases d with
  | true => exact s' F1 as1 S1 H1 σd σ _ n1.hr (hs.nxt hr n1) h1
  | false => exact h1.now n1.hr rfl
theorem dw_or {a b : Expr} {rest : List Expr} {f g : BF} {pos : Pos} (ha : DT G X W a f) (hb : DW G X W (.BoolOp .Or (b :: rest) pos) g) : DW G X W (.BoolOp .Or (a :: b :: rest) pos) (bOr f g) := by
  obtain ⟨t, p, s⟩ := ha.ex
  obtain ⟨t', p', s'⟩ := hb.ex
  refine ⟨_, pw_or p p', fun F as S H σd σ Q hr hs hp => s F as S H σd σ _ hr hs (hp.bind fun d S1 b F1 as1 H1 _ n1 r1 h1 => ?_)⟩
  obtain rfl : d = b := r1
  cases d with
  | true => exact h1.now n1.hr rfl
  | false => exact s' F1 as1 S1 H1 σd σ _ n1.hr (hs.nxt hr n1) h1
theorem DW.t {e : Expr} {f : BF} (h : DW G X W e f) : DT G X W e f := by
  obtain ⟨t, p, s⟩ := h.ex
  exact ⟨_, p.pt, s⟩
def eAnd (f g : EF) : EF := fun σ S => (f σ S).bind fun d S1 => match d with
  | .bl b => if b then g σ S1 else .ok (.bl false) S1
  | _ => .stuck
def eOr (f g : EF) : EF := fun σ S => (f σ S).bind fun d S1 => match d with
  | .bl b => if b then .ok (.bl true) S1 else g σ S1
  | _ => .stuck
def eNot (f : EF) : EF := fun σ S => (f σ S).bind fun d S1 => match d with
  | .bl b => .ok (.bl !b) S1
  | _ => .stuck
def eIf (c : BF) (f g : EF) : EF := fun σ S => (c σ S).bind fun b S1 => if b then f σ S1 else g σ S1
theorem de_one {op : BoolOp} {a : Expr} {f : EF} {pos : Pos} (h : DE G X W a f) : DE G X W (.BoolOp op [a] pos) f := by
  obtain ⟨t, p, s⟩ := h.ex
  exact ⟨_, pe_one p, s⟩
theorem de_and {a b : Expr} {rest : List Expr} {f g : EF} {pos : Pos} (ha : DE G X W a f) (hb : DE G X W (.BoolOp .And (b :: rest) pos) g) : DE G X W (.BoolOp .And (a :: b :: rest) pos) (eAnd f g) := by
  obtain ⟨t, p, s⟩ := ha.ex
  obtain ⟨t', p', s'⟩ := hb.ex
  refine ⟨_, pe_and p p', fun F as S H σd σ Q hr hs hp => s F as S H σd σ _ hr hs (hp.bind fun d S1 b F1 as1 H1 e0 n1 r1 h1 => ?_)⟩
  split at h1
  · rename_i k
    simp only [Rep] at r1
    refine ⟨k, r1, ?_⟩
    cases k with
    | true => exact s' F1 as1 S1 H1 σd σ _ n1.hr (hs.nxt hr n1) h1
    | false => exact h1.now n1.hr (by simp only [Rep])
  · exact h1.elim
theorem de_or {a b : Expr} {rest : List Expr} {f g : EF} {pos : Pos} (ha : DE G X W a f) (hb : DE G X W (.BoolOp .Or (b :: rest) pos) g) : DE G X W (.BoolOp .Or (a :: b :: rest) pos) (eOr f g) := by
  obtain ⟨t, p, s⟩ := ha.ex
  obtain ⟨t', p', s'⟩ := hb.ex
  refine ⟨_, pe_or p p', fun F as S H σd σ Q hr hs hp => s F as S H σd σ _ hr hs (hp.bind fun d S1 b F1 as1 H1 e0 n1 r1 h1 => ?_)⟩
  split at h1
  · rename_i k
    simp only [Rep] at r1
    refine ⟨k, r1, ?_⟩
    cases k with
    | true => exact h1.now n1.hr (by simp only [Rep])
    | false => exact s' F1 as1 S1 H1 σd σ _ n1.hr (hs.nxt hr n1) h1
  · exact h1.elim
theorem de_not {a : Expr} {f : EF} {pos : Pos} (ha : DE G X W a f) : DE G X W (.UnaryOp .Not a pos) (eNot f) := by
  obtain ⟨t, p, s⟩ := ha.ex
  refine ⟨_, pe_not p, fun F as S H σd σ Q hr hs hp => s F as S H σd σ _ hr hs (hp.bind fun d S1 b F1 as1 H1 e0 n1 r1 h1 => ?_)⟩
  split at h1
  · rename_i k
    simp only [Rep] at r1
    exact ⟨k, r1, h1.now n1.hr (by simp only [Rep])⟩
  · exact h1.elim
theorem de_ifExp {c a b : Expr} {k : BF} {f g : EF} {pos : Pos} (hc : DT G X W c k) (ha : DE G X W a f) (hb : DE G X W b g) : DE G X W (.IfExp c a b pos) (eIf k f g) := by
  obtain ⟨tc, pc, sc⟩ := hc.ex
  obtain ⟨t, p, s⟩ := ha.ex
  obtain ⟨t', p', s'⟩ := hb.ex
  refine ⟨_, pe_ifExp pc p p', fun F as S H σd σ Q hr hs hp => sc F as S H σd σ _ hr hs (hp.bind fun d S1 b F1 as1 H1 _ n1 r1 h1 => ?_)⟩
  obtain rfl : d = b := r1
  cases d with
  | true => exact s F1 as1 S1 H1 σd σ _ n1.hr (hs.nxt hr n1) h1
  | false => exact s' F1 as1 S1 H1 σd σ _ n1.hr (hs.nxt hr n1) h1
def eChain (o o' : O2) (f g h : EF) : EF := fun σ S => (f σ S).bind fun x S1 => (g σ S1).bind fun y S2 => (o x y S2).bind fun r S3 => match r with
  | .bl b => if b then (h σ S3).bind fun z S4 => o' y z S4 else .ok (.bl false) S3
  | _ => .stuck
theorem de_chain {op op' : CmpOp} {r r' : R2} {o o' : O2} {a b c : Expr} {f g h : EF} {pos : Pos} (hp : OpR X (compareOp op) r) (hp' : OpR X (compareOp op') r') (ho : Op2 G r o) (ho' : Op2 G r' o') (ha : DE G X W a f) (hb : DE G X W b g) (hc : DE G X W c h)
    (hm : lastMarks [op, op'] [b, c] = false := by with_unfolding_all rfl) : DE G X W (.Compare a [op, op'] [b, c] pos) (eChain o o' f g h) ∧ DT G X W (.Compare a [op, op'] [b, c] pos) (bV (eChain o o' f g h)) := by
  obtain ⟨t, p, s⟩ := ha.ex
  obtain ⟨t', p', s'⟩ := hb.ex
  obtain ⟨t2, p2, s2⟩ := hc.ex
  suffices z : Snd G (Rep G) W (tChain r r' t t' t2) (eChain o o' f g h) from ⟨⟨_, pe_chain hp hp' p p' p2 hm, z⟩, ⟨_, pt_chain hp hp' p p' p2 hm, snd_tB z⟩⟩
  refine (fun F as S H σd σ Q hr hs hw => s F as S H σd σ _ hr hs (hw.bind fun d S1 b F1 as1 H1 _ n1 r1 h1 => ?_))
  refine s' F1 as1 S1 H1 σd σ _ n1.hr (hs.nxt hr n1) (h1.bind fun d2 S2 b2 F2 as2 H2 _ n2 r2 h2 => ?_)
  refine ho _ _ _ _ _ _ _ _ _ _ _ n2.hr (r1.nxt n1.hr n2) r2 (h2.bind fun d3 S3 b3 F3 as3 H3 e0 n3 r3 h3 => ?_)
  split at h3
  · rename_i k
    refine ⟨k, r3.bl_iff, ?_⟩
    cases k with
    | true =>
      refine s2 F3 as3 S3 H3 σd σ _ n3.hr (((hs.nxt hr n1).nxt n1.hr n2).nxt n2.hr n3) (h3.bind fun d4 S4 b4 F4 as4 H4 _ n4 r4 h4 => ?_)
      exact ho' _ _ _ _ _ _ _ _ _ _ _ n4.hr (r2.nxt n2.hr (n3.trans n4)) r4 h4
    | false => exact h3.now n3.hr (by simp only [Rep])
  · exact h3.elim
end

theorem Rep.tup_seq {G : Gc} {F as : List Addr} {H : Hp} {xs : List Dat} {v : V} (h : Rep G F as H (.tup xs) v) : ∃ a vs, v = .ref a ∧ SqT G.K H a vs ∧ RepL G F as H xs vs := by
  simp only [Rep] at h
  obtain ⟨a, vs, e, h1, h2⟩ := h
  exact ⟨a, vs, e, h1.elim (fun x => .inl (.inl x.2)) (fun x => .inr x.1), h2⟩
theorem Rep.lst_seq {G : Gc} {F as : List Addr} {H : Hp} {xs : List Dat} {v : V} (h : Rep G F as H (.lst xs) v) : ∃ a vs, v = .ref a ∧ H a = some (.lst vs) ∧ RepL G F as H xs vs := by
  simp only [Rep] at h
  obtain ⟨a, vs, e, h1, h2⟩ := h
  exact ⟨a, vs, e, h1.2, h2⟩
theorem Rep.new_tup {G : Gc} {F as : List Addr} {S : Sto} {H : Hp} (hr : HR G F as S H) {p : Addr} (hp : H p = none) {xs : List Dat} {vs : List V} (r : RepL G F as H xs vs) : Rep G (p :: F) as (upd H p (.tup vs)) (.tup xs) (.ref p) := by
  simp only [Rep]
  exact ⟨p, vs, rfl, .inl ⟨List.mem_cons_self, upd_same⟩, RepL.kp (Kp.laid hr hp _) _ _ r⟩
theorem Rep.new_lst {G : Gc} {F as : List Addr} {S : Sto} {H : Hp} (hr : HR G F as S H) {p : Addr} (hp : H p = none) {xs : List Dat} {vs : List V} (r : RepL G F as H xs vs) : Rep G (p :: F) as (upd H p (.lst vs)) (.lst xs) (.ref p) := by
  simp only [Rep]
  exact ⟨p, vs, rfl, ⟨List.mem_cons_self, upd_same⟩, RepL.kp (Kp.laid hr hp _) _ _ r⟩

/-- the items of anything that is a list or a tuple: frozen or in the store -/
def seqL (d : Dat) (S : Sto) : Option (List Dat) := match d with
  | .lst xs => some xs
  | .scr xs => some (xs.map .int)
  | .ref n => match S[n]? with
    | some (.lst xs) => some xs
    | _ => none
  | _ => none
def seqT (d : Dat) : Option (List Dat) := match d with
  | .tup xs => some xs
  | _ => none
theorem seqL_rep {G : Gc} {F as : List Addr} {S : Sto} {H : Hp} (hr : HR G F as S H) {d : Dat} {v : V} {xs : List Dat} (h : Rep G F as H d v) (e : seqL d S = some xs) : ∃ a vs, v = .ref a ∧ SqL G.K H a vs ∧ RepL G F as H xs vs := by
  unfold seqL at e
  split at e
  · cases e
    obtain ⟨a, vs, e1, h1, h2⟩ := h.lst_seq
    exact ⟨a, vs, e1, .inl (.inl h1), h2⟩
  · cases e
    simp only [Rep] at h
    obtain ⟨a, e1, h1⟩ := h
    exact ⟨a, _, e1, h1.elim (fun x => .inl x.2) .inr, RepL.ints _⟩
  · split at e
    · rename_i n xs' e2
      cases e
      simp only [Rep] at h
      obtain ⟨a, e1, h1⟩ := h
      obtain ⟨vs, h2, h3⟩ := hr.obs _ _ _ h1 e2
      exact ⟨a, vs, e1, .inl (.inl h2), h3⟩
    · cases e
  · cases e
theorem seqT_rep {G : Gc} {F as : List Addr} {H : Hp} {d : Dat} {v : V} {xs : List Dat} (h : Rep G F as H d v) (e : seqT d = some xs) : ∃ a vs, v = .ref a ∧ SqT G.K H a vs ∧ RepL G F as H xs vs := by
  unfold seqT at e
  split at e
  · cases e
    exact h.tup_seq
  · cases e
/-- a list that is tracked as it stands -/
def seqM (d : Dat) (S : Sto) : Option (List Dat) := match d with
  | .lst xs => some xs
  | .ref n => match S[n]? with
    | some (.lst xs) => some xs
    | _ => none
  | _ => none
theorem seqM_rep {G : Gc} {F as : List Addr} {S : Sto} {H : Hp} (hr : HR G F as S H) {d : Dat} {v : V} {xs : List Dat} (h : Rep G F as H d v) (e : seqM d S = some xs) : ∃ a vs, v = .ref a ∧ H a = some (.lst vs) ∧ RepL G F as H xs vs := by
  unfold seqM at e
  split at e
  · cases e
    exact h.lst_seq
  · split at e
    · rename_i n xs' e2
      cases e
      simp only [Rep] at h
      obtain ⟨a, e1, h1⟩ := h
      obtain ⟨vs, h2, h3⟩ := hr.obs _ _ _ h1 e2
      exact ⟨a, vs, e1, h2, h3⟩
    · cases e
  · cases e

def oAdd : O2 := fun x y S => match x, y with
  | .int i, .int j => .ok (.int (i + j)) S
  | .str a, .str b => .guard (decide (a.length + b.length ≤ sizeLine)) (.ok (.str (a ++ b)) S)
  | .tup a, .tup b => .guard (decide (a.length + b.length ≤ sizeLine)) (.ok (.tup (a ++ b)) S)
  | x, y => match seqM x S, seqM y S with
    | some a, some b => .guard (decide (a.length + b.length ≤ sizeLine)) (.ok (.lst (a ++ b)) S)
    | _, _ => .stuck
def rAdd (K : PySem.W.Frag) : R2 := fun x y H Q => ((rI0 fun i j => .int (i + j)) x y H Q ∨ (∃ i j, x = .str i ∧ y = .str j ∧ i.length + j.length ≤ sizeLine ∧ Q (.str (i ++ j)) H)) ∨ (rCatA K x y H Q ∨ rCat x y H Q)
theorem ok_add {X : Cx} : OpR X (binaryOp .Add) (rAdd X.K) := OpR.or (OpR.or op_add op_add_str) (OpR.or op_catA op_cat)
theorem op2_add {G : Gc} : Op2 G (rAdd G.K) oAdd := by
  intro F as S H x y v u Q W σ hr rx ry hp
  unfold oAdd at hp
  split at hp
  · exact .inl (.inl ⟨_, _, rx.int_iff, ry.int_iff, hp.now hr (by simp only [Rep])⟩)
  · obtain ⟨g, hp⟩ := hp.guard
    exact .inl (.inr ⟨_, _, rx.str_iff, ry.str_iff, of_decide_eq_true g, hp.now hr (by simp only [Rep])⟩)
  · rename_i xs ys
    obtain ⟨g, hp⟩ := hp.guard
    obtain ⟨a, vs, rfl, h1, h2⟩ := rx.tup_seq
    obtain ⟨b, us, rfl, h3, h4⟩ := ry.tup_seq
    refine .inr (.inl ⟨a, b, vs, us, rfl, rfl, h1, h3, by rw [← h2.length, ← h4.length]; exact of_decide_eq_true g, fun e => ?_, fun _ e => ?_, fun _ _ p np => ?_⟩)
    · subst e
      have : xs = [] := List.length_eq_zero_iff.mp h2.length
      subst this
      exact hp.now hr ry
    · subst e
      have : ys = [] := List.length_eq_zero_iff.mp h4.length
      subst this
      exact hp.now hr (by rw [List.append_nil]; exact rx)
    · exact hp.new hr np (Rep.new_tup hr np (h2.append h4))
  · split at hp
    · rename_i a b e1 e2
      obtain ⟨g, hp⟩ := hp.guard
      obtain ⟨l, vs, rfl, h1, h2⟩ := seqM_rep hr rx e1
      obtain ⟨m, us, rfl, h3, h4⟩ := seqM_rep hr ry e2
      refine .inr (.inr ⟨l, m, vs, us, rfl, rfl, h1, h3, by rw [← h2.length, ← h4.length]; exact of_decide_eq_true g, fun p np => ?_⟩)
      exact hp.new hr np (Rep.new_lst hr np (h2.append h4))
    · exact hp.elim

def oI (C : Int → Int → Bool) (g : Int → Int → Dat) : O2 := fun x y S => match x, y with
  | .int i, .int j => .guard (C i j) (.ok (g i j) S)
  | _, _ => .stuck
def oI0 (g : Int → Int → Dat) : O2 := fun x y S => match x, y with
  | .int i, .int j => .ok (g i j) S
  | _, _ => .stuck
theorem op2_I {G : Gc} {C : Int → Int → Bool} {P : Int → Int → Prop} {g : Int → Int → Int} (h : ∀ i j, C i j = true → P i j) : Op2 G (rI P fun i j => .int (g i j)) (oI C fun i j => .int (g i j)) := by
  intro F as S H x y v u Q W σ hr rx ry hp
  unfold oI at hp
  split at hp
  · obtain ⟨q, hp⟩ := hp.guard
    exact ⟨_, _, rx.int_iff, ry.int_iff, h _ _ q, hp.now hr (by simp only [Rep])⟩
  · exact hp.elim
theorem op2_I0 {G : Gc} {g : Int → Int → Int} : Op2 G (rI0 fun i j => .int (g i j)) (oI0 fun i j => .int (g i j)) := by
  intro F as S H x y v u Q W σ hr rx ry hp
  unfold oI0 at hp
  split at hp
  · exact ⟨_, _, rx.int_iff, ry.int_iff, hp.now hr (by simp only [Rep])⟩
  · exact hp.elim
theorem op2_B0 {G : Gc} {g : Int → Int → Bool} : Op2 G (rI0 fun i j => .bl (g i j)) (oI0 fun i j => .bl (g i j)) := by
  intro F as S H x y v u Q W σ hr rx ry hp
  unfold oI0 at hp
  split at hp
  · exact ⟨_, _, rx.int_iff, ry.int_iff, hp.now hr (by simp only [Rep])⟩
  · exact hp.elim
def oSub : O2 := oI0 fun i j => .int (i - j)
def cFd (_ j : Int) : Bool := decide (0 < j) && decide (j.natAbs.log2 < 9000)
def cMd (_ j : Int) : Bool := decide (0 < j)
def cPw (i j : Int) : Bool := decide (0 ≤ j) && (decide (j ≤ 1000000) && decide (i.natAbs < 2 ^ 64))
def cMl (i j : Int) : Bool := decide (i.natAbs.log2 + j.natAbs.log2 < 1000000)
def oFd : O2 := oI cFd fun i j => .int (i / j)
def oMd : O2 := oI cMd fun i j => .int (i % j)
def oPw : O2 := oI cPw fun i j => .int (i ^ j.toNat)
theorem op2_sub {G : Gc} : Op2 G (rI0 fun i j => .int (i - j)) oSub := op2_I0
theorem op2_fd {G : Gc} : Op2 G (rI CDivW fun i j => .int (i / j)) oFd := op2_I fun i j h => by
  simp only [cFd, Bool.and_eq_true, decide_eq_true_eq] at h
  exact h
theorem op2_md {G : Gc} : Op2 G (rI (fun _ j => 0 < j) fun i j => .int (i % j)) oMd := op2_I fun i j h => by
  simpa only [cMd, decide_eq_true_eq] using h
theorem op2_pw {G : Gc} : Op2 G (rI CPow fun i j => .int (i ^ j.toNat)) oPw := op2_I fun i j h => by
  simp only [cPw, Bool.and_eq_true, decide_eq_true_eq] at h
  exact h
/-- a * b: ints; a list or tuple so many times -/
def oMl : O2 := fun x y S => match x, y with
  | .int i, .int j => .guard (cMl i j) (.ok (.int (i * j)) S)
  | x, .int k => .guard (decide (-(2 ^ 63) ≤ k) && decide (k < 2 ^ 63)) (match seqM x S with
    | some a => .guard (decide (a.length * k.toNat ≤ sizeLine)) (.ok (.lst (List.replicate k.toNat a).flatten) S)
    | none => .stuck)
  | _, _ => .stuck
def rMl : R2 := fun x y H Q => (rI CMulW fun i j => .int (i * j)) x y H Q ∨ rRep x y H Q
theorem ok_ml {X : Cx} : OpR X (binaryOp .Mult) rMl := OpR.or op_mulW op_rep
theorem RepL.repeat {G : Gc} {F as : List Addr} {H : Hp} {xs : List Dat} {vs : List V} (h : RepL G F as H xs vs) : ∀ n : Nat, RepL G F as H (List.replicate n xs).flatten (List.replicate n vs).flatten
  | 0 => .nil
  | n + 1 => by
    rw [List.replicate_succ, List.replicate_succ, List.flatten_cons, List.flatten_cons]
    exact h.append (RepL.repeat h n)
theorem op2_ml {G : Gc} : Op2 G rMl oMl := by
  intro F as S H x y v u Q W σ hr rx ry hp
  unfold oMl at hp
  split at hp
  · obtain ⟨q, hp⟩ := hp.guard
    exact .inl ⟨_, _, rx.int_iff, ry.int_iff, (by unfold cMl at q; have q2 := of_decide_eq_true q; exact q2), hp.now hr (by simp only [Rep])⟩
  · obtain ⟨q, hp⟩ := hp.guard
    simp only [Bool.and_eq_true, decide_eq_true_eq] at q
    split at hp
    · rename_i e1
      obtain ⟨g, hp⟩ := hp.guard
      obtain ⟨l, vs, rfl, h1, h2⟩ := seqM_rep hr rx e1
      exact .inr ⟨l, _, vs, rfl, ry.int_iff, h1, q.1, q.2, by rw [← h2.length]; exact of_decide_eq_true g, fun p np => hp.new hr np (Rep.new_lst hr np (h2.repeat _))⟩
    · exact hp.elim
  · exact hp.elim
def oNeg : O1 := fun x S => match x with
  | .int i => .ok (.int (-i)) S
  | _ => .stuck
theorem op1_neg {G : Gc} : Op1 G (rU fun i => .int (-i)) oNeg := by
  intro F as S H x v Q W σ hr rx hp
  unfold oNeg at hp
  split at hp
  · exact ⟨_, rx.int_iff, hp.now hr (by simp only [Rep])⟩
  · exact hp.elim
def oLt : O2 := oI0 fun i j => .bl (decide (i < j))
def oLe : O2 := oI0 fun i j => .bl (decide (i ≤ j))
def oGt : O2 := oI0 fun i j => .bl (decide (j < i))
def oGe : O2 := oI0 fun i j => .bl (decide (j ≤ i))
theorem op2_lt {G : Gc} : Op2 G (rI0 fun i j => .bl (decide (i < j))) oLt := op2_B0
theorem op2_le {G : Gc} : Op2 G (rI0 fun i j => .bl (decide (i ≤ j))) oLe := op2_B0
theorem op2_gt {G : Gc} : Op2 G (rI0 fun i j => .bl (decide (j < i))) oGt := op2_B0
theorem op2_ge {G : Gc} : Op2 G (rI0 fun i j => .bl (decide (j ≤ i))) oGe := op2_B0
mutual
def toPy : Dat → Option PyData
  | .non => some .none
  | .bl b => some (.bool b)
  | .int i => some (.int i)
  | .str x => some (.str x)
  | .tup xs => match toPyL xs with
    | some ys => some (.tuple ys)
    | none => none
  | .lst xs => match toPyL xs with
    | some ys => some (.list ys)
    | none => none
  | .dct _ _ _ => none
  | .obj _ _ _ => none
  | .scr _ => none
  | .ref _ => none
def toPyL : List Dat → Option (List PyData)
  | [] => some []
  | d :: ds => match toPy d, toPyL ds with
    | some x, some xs => some (x :: xs)
    | _, _ => none
end
mutual
theorem toPy_dp {G : Gc} {F as : List Addr} {H : Hp} : ∀ (d : Dat) (p : PyData) (v : V), toPy d = some p → Rep G F as H d v → Dp G.K H v p
  | .non, p, v, e, r => by simp only [toPy] at e; cases e; cases r.non_iff; exact .non
  | .bl b, p, v, e, r => by simp only [toPy] at e; cases e; cases r.bl_iff; exact .bl b
  | .int i, p, v, e, r => by simp only [toPy] at e; cases e; cases r.int_iff; exact .int i
  | .str x, p, v, e, r => by simp only [toPy] at e; cases e; cases r.str_iff; exact .str x
  | .tup xs, p, v, e, r => by
    simp only [toPy] at e
    split at e
    · rename_i ys e1
      cases e
      obtain ⟨a, vs, rfl, h1, h2⟩ := r.tup_seq
      exact .tup h1 (toPyL_dp xs ys vs e1 h2)
    · cases e
  | .lst xs, p, v, e, r => by
    simp only [toPy] at e
    split at e
    · rename_i ys e1
      cases e
      obtain ⟨a, vs, rfl, h1, h2⟩ := r.lst_seq
      exact .lst (.inl (.inl h1)) (toPyL_dp xs ys vs e1 h2)
    · cases e
  | .dct _ _ _, _, _, e, _ => by simp only [toPy] at e; cases e
  | .obj _ _ _, _, _, e, _ => by simp only [toPy] at e; cases e
  | .scr _, _, _, e, _ => by simp only [toPy] at e; cases e
  | .ref _, _, _, e, _ => by simp only [toPy] at e; cases e
theorem toPyL_dp {G : Gc} {F as : List Addr} {H : Hp} : ∀ (ds : List Dat) (ps : List PyData) (vs : List V), toPyL ds = some ps → RepL G F as H ds vs → DpAll G.K H vs ps
  | [], ps, vs, e, r => by simp only [toPyL] at e; cases e; simp only [RepL] at r; subst r; exact .nil
  | d :: ds, ps, vs, e, r => by
    simp only [toPyL] at e
    split at e
    · rename_i x xs e1 e2
      cases e
      simp only [RepL] at r
      obtain ⟨v, vs', rfl, h1, h2⟩ := r
      exact .cons (toPy_dp d x v e1 h1) (toPyL_dp ds xs vs' e2 h2)
    · cases e
end
/-- the contents of a live list for comparisons -/
def look (d : Dat) (S : Sto) : Dat := match d with
  | .ref n => match S[n]? with
    | some (.lst xs) => .lst xs
    | _ => d
  | d => d
theorem look_dp {G : Gc} {F as : List Addr} {S : Sto} {H : Hp} (hr : HR G F as S H) {d : Dat} {p : PyData} {v : V} (e : toPy (look d S) = some p) (r : Rep G F as H d v) : Dp G.K H v p := by
  unfold look at e
  split at e
  · rename_i n
    split at e
    · rename_i xs e2
      simp only [toPy] at e
      split at e
      · rename_i ys e1
        cases e
        simp only [Rep] at r
        obtain ⟨a, rfl, h1⟩ := r
        obtain ⟨vs, h2, h3⟩ := hr.obs _ _ _ h1 e2
        exact .lst (.inl (.inl h2)) (toPyL_dp _ _ _ e1 h3)
      · cases e
    · exact toPy_dp _ _ _ e r
  · exact toPy_dp _ _ _ e r
def eqD (x y : Dat) (S : Sto) : Option Bool := match x, y with
  | .int i, .int j => some (decide (i = j))
  | .str i, .str j => some (decide (i = j))
  | .bl i, .bl j => some (decide (i = j))
  | x, y => match toPy (look x S), toPy (look y S) with
    | some p, some q => if SeqAt.shaped p && SeqAt.shaped q then some (PyData.eqv p q) else none
    | _, _ => none
def oEq : O2 := fun x y S => match eqD x y S with
  | some b => .ok (.bl b) S
  | none => .stuck
def oNe : O2 := fun x y S => match eqD x y S with
  | some b => .ok (.bl !b) S
  | none => .stuck
def rEqs (K : PySem.W.Frag) : R2 := fun x y H Q => rEq x y H Q ∨ rEqD K x y H Q
def rNes (K : PySem.W.Frag) : R2 := fun x y H Q => rNe x y H Q ∨ rNeD K x y H Q
theorem ok_eq {G : Gc} {X : Cx} {W : WX} (c : Ctx G X W) : OpR X (compareOp .Eq) (rEqs X.K) := OpR.or op_eq (op_eqD (by have := c.un; omega))
theorem ok_ne {G : Gc} {X : Cx} {W : WX} (c : Ctx G X W) : OpR X (compareOp .NotEq) (rNes X.K) := OpR.or op_ne (op_neD (by have := c.un; omega))
theorem eqD_cases {G : Gc} {F as : List Addr} {S : Sto} {H : Hp} (hr : HR G F as S H) {x y : Dat} {v u : V} {b : Bool} (rx : Rep G F as H x v) (ry : Rep G F as H y u) (e : eqD x y S = some b) :
    (scal v u = true ∧ decide (v = u) = b) ∨ ∃ p q, Dp G.K H v p ∧ Dp G.K H u q ∧ SeqAt.shaped p = true ∧ SeqAt.shaped q = true ∧ PyData.eqv p q = b := by
  unfold eqD at e
  split at e
  · cases e; cases rx.int_iff; cases ry.int_iff; exact .inl ⟨rfl, by simp⟩
  · cases e; cases rx.str_iff; cases ry.str_iff; exact .inl ⟨rfl, by simp⟩
  · cases e; cases rx.bl_iff; cases ry.bl_iff; exact .inl ⟨rfl, by simp⟩
  · split at e
    · rename_i p q e1 e2
      split at e
      · rename_i g
        cases e
        rw [Bool.and_eq_true] at g
        exact .inr ⟨p, q, look_dp hr e1 rx, look_dp hr e2 ry, g.1, g.2, rfl⟩
      · cases e
    · cases e
theorem op2_eq {G : Gc} : Op2 G (rEqs G.K) oEq := by
  intro F as S H x y v u Q W σ hr rx ry hp
  unfold oEq at hp
  split at hp
  · rename_i b e
    rcases eqD_cases hr rx ry e with ⟨h1, h2⟩ | ⟨p, q, h1, h2, h3, h4, h5⟩
    · exact .inl ⟨h1, by rw [h2]; exact hp.now hr (by simp only [Rep])⟩
    · exact .inr ⟨p, q, h1, h2, h3, h4, by rw [h5]; exact hp.now hr (by simp only [Rep])⟩
  · exact hp.elim
theorem op2_ne {G : Gc} : Op2 G (rNes G.K) oNe := by
  intro F as S H x y v u Q W σ hr rx ry hp
  unfold oNe at hp
  split at hp
  · rename_i b e
    rcases eqD_cases hr rx ry e with ⟨h1, h2⟩ | ⟨p, q, h1, h2, h3, h4, h5⟩
    · exact .inl ⟨h1, by rw [h2]; exact hp.now hr (by simp only [Rep])⟩
    · exact .inr ⟨p, q, h1, h2, h3, h4, by rw [h5]; exact hp.now hr (by simp only [Rep])⟩
  · exact hp.elim
def isNon : Dat → Bool
  | .non => true
  | _ => false
theorem isNon_rep {G : Gc} {F as : List Addr} {H : Hp} : ∀ {d : Dat} {v : V}, Rep G F as H d v → decide (v = .non) = isNon d
  | .non, v, h => by cases h.non_iff; rfl
  | .bl b, v, h => by cases h.bl_iff; rfl
  | .int b, v, h => by cases h.int_iff; rfl
  | .str b, v, h => by cases h.str_iff; rfl
  | .tup b, v, h => by obtain ⟨a, vs, rfl, _⟩ := h.tup_seq; rfl
  | .lst b, v, h => by obtain ⟨a, vs, rfl, _⟩ := h.lst_seq; rfl
  | .dct _ _ _, v, h => by simp only [Rep] at h; obtain ⟨a, rfl, _⟩ := h; rfl
  | .obj _ _ _, v, h => by simp only [Rep] at h; obtain ⟨a, _, _, rfl, _⟩ := h; rfl
  | .scr _, v, h => by simp only [Rep] at h; obtain ⟨a, rfl, _⟩ := h; rfl
  | .ref _, v, h => by simp only [Rep] at h; obtain ⟨a, rfl, _⟩ := h; rfl
/-- x is c, x is not c: c None, or both truths -/
def oIs : O2 := fun x y S => match x, y with
  | x, .non => .ok (.bl (isNon x)) S
  | .bl a, .bl b => .ok (.bl (decide (a = b))) S
  | _, _ => .stuck
def oIsNot : O2 := fun x y S => match x, y with
  | x, .non => .ok (.bl !(isNon x)) S
  | .bl a, .bl b => .ok (.bl !(decide (a = b))) S
  | _, _ => .stuck
def rIss : R2 := fun x y H Q => (y = .non ∧ Q (.bl (decide (x = .non))) H) ∨ rIsB x y H Q
def rIsn : R2 := fun x y H Q => (y = .non ∧ Q (.bl (!decide (x = .non))) H) ∨ rNotB x y H Q
theorem ok_is {X : Cx} : OpR X (compareOp .Is) rIss := OpR.or op_isN op_isBl
theorem ok_isn {X : Cx} : OpR X (compareOp .IsNot) rIsn := OpR.or op_notN op_notBl
theorem op2_is {G : Gc} : Op2 G rIss oIs := by
  intro F as S H x y v u Q W σ hr rx ry hp
  unfold oIs at hp
  split at hp
  · exact .inl ⟨ry.non_iff, by rw [isNon_rep rx]; exact hp.now hr (by simp only [Rep])⟩
  · exact .inr ⟨_, _, rx.bl_iff, ry.bl_iff, hp.now hr (by simp only [Rep])⟩
  · exact hp.elim
theorem op2_isn {G : Gc} : Op2 G rIsn oIsNot := by
  intro F as S H x y v u Q W σ hr rx ry hp
  unfold oIsNot at hp
  split at hp
  · exact .inl ⟨ry.non_iff, by rw [isNon_rep rx]; exact hp.now hr (by simp only [Rep])⟩
  · exact .inr ⟨_, _, rx.bl_iff, ry.bl_iff, hp.now hr (by simp only [Rep])⟩
  · exact hp.elim
end Fx

namespace Fx
open PySem PySem.Spec PyProof.Rows L2

/-- what comes of a statement -/
inductive Out where
  | nx (σ : Sl) (S : Sto)
  | rt (d : Dat) (S : Sto)
  | bk (σ : Sl) (S : Sto)
  | ct (σ : Sl) (S : Sto)
  | exc (e : Ex) (σ : Sl) (S : Sto)
  | stuck
  deriving DecidableEq, Inhabited
abbrev SF := Sl → Sto → Out
/-- an expression ahead of the rest -/
def Res.out {α : Type} (r : Res α) (σ : Sl) (k : α → Sto → Out) : Out := match r with
  | .ok a S => k a S
  | .exc e S => .exc e σ S
  | .stuck => .stuck
@[simp] theorem Res.out_ok {α : Type} (a : α) (S : Sto) (σ : Sl) (k : α → Sto → Out) : (Res.ok a S).out σ k = k a S := id rfl
@[simp] theorem Res.out_exc {α : Type} (e : Ex) (S : Sto) (σ : Sl) (k : α → Sto → Out) : (Res.exc e S : Res α).out σ k = .exc e σ S := id rfl
@[simp] theorem Res.out_stuck {α : Type} (σ : Sl) (k : α → Sto → Out) : (Res.stuck : Res α).out σ k = .stuck := id rfl

def PostS (G : Gc) (W : WX) (F as : List Addr) (S : Sto) (H : Hp) (r : Out) (D : Ends) : Prop :=
  match r with
  | .nx σd S' => ∀ σ' F' as' H', Nxt G F as S H F' as' S' H' → SR G F' as' H' σd σ' → D.nx σ' H'
  | .bk σd S' => ∀ σ' F' as' H', Nxt G F as S H F' as' S' H' → SR G F' as' H' σd σ' → D.bk σ' H'
  | .ct σd S' => ∀ σ' F' as' H', Nxt G F as S H F' as' S' H' → SR G F' as' H' σd σ' → D.ct σ' H'
  | .rt d S' => ∀ v F' as' H', Nxt G F as S H F' as' S' H' → Rep G F' as' H' d v → D.rt v H'
  | .exc e σd S' => ∀ c dx σ' F' as' H', Nxt G F as S H F' as' S' H' → SR G F' as' H' σd σ' → ExR G F' as' H' e c dx → W c dx σ' H'
  | .stuck => False
def SndS (G : Gc) (W : WX) (t : TS) (f : SF) : Prop :=
  ∀ F as S H σd σ D, HR G F as S H → SR G F as H σd σ → PostS G W F as S H (f σd S) D → t D σ H
structure DS (G : Gc) (X : Cx) (W : WX) (st : Stmt) (f : SF) : Prop where
  ex : ∃ t, PS X st t ∧ SndS G W t f
structure DB (G : Gc) (X : Cx) (W : WX) (st : List Stmt) (f : SF) : Prop where
  ex : ∃ t, PSs X st t ∧ SndS G W t f
section
variable {G : Gc} {W : WX} {F as F1 as1 : List Addr} {S S1 : Sto} {H H1 : Hp} {D : Ends}
theorem PostS.step {r : Out} (h : PostS G W F as S H r D) (n : Nxt G F as S H F1 as1 S1 H1) : PostS G W F1 as1 S1 H1 r D := by
  cases r with
  | nx σd S' => exact fun σ' F' as' H' m q => h σ' F' as' H' (n.trans m) q
  | bk σd S' => exact fun σ' F' as' H' m q => h σ' F' as' H' (n.trans m) q
  | ct σd S' => exact fun σ' F' as' H' m q => h σ' F' as' H' (n.trans m) q
  | rt d S' => exact fun v F' as' H' m q => h v F' as' H' (n.trans m) q
  | exc e σd S' => exact fun c dx σ' F' as' H' m q => h c dx σ' F' as' H' (n.trans m) q
  | stuck => exact h
/-- an expression ahead of the rest -/
theorem PostS.out {α β : Type} {R : RT α β} {r : Res α} {k : α → Sto → Out} {Q1 : β → Hp → Prop} {σd : Sl} {σ : L2.St} (hr : HR G F as S H) (hs : SR G F as H σd σ) (h : PostS G W F as S H (r.out σd k) D)
    (hk : ∀ d S1 b F1 as1 H1, r = .ok d S1 → Nxt G F as S H F1 as1 S1 H1 → R F1 as1 H1 d b → SR G F1 as1 H1 σd σ → PostS G W F1 as1 S1 H1 (k d S1) D → Q1 b H1) : Post G R W σ F as S H r Q1 := by
  cases r with
  | ok d S' => exact fun b F' as' H' m q => hk d S' b F' as' H' rfl m q (hs.nxt hr m) (PostS.step h m)
  | exc e S' => exact fun c dx F' as' H' m q => h c dx σ F' as' H' m (hs.nxt hr m) q
  | stuck => exact h
theorem PostS.nxt {σd : Sl} {σ : L2.St} (h : PostS G W F as S H (.nx σd S) D) (hr : HR G F as S H) (hs : SR G F as H σd σ) : D.nx σ H := h σ F as H (.refl hr) hs
theorem SR.set {σd : Sl} {σ : L2.St} {d : Dat} {v : V} (h : SR G F as H σd σ) (i : Nat) (r : Rep G F as H d v) : SR G F as H (σd.set i (some d)) (σ.set i (some v)) := by
  refine ⟨by simp [h.1], fun j d' e => ?_, fun j a c dx e' x1 x2 => ?_⟩
  · by_cases hj : i = j
    · subst hj
      have hl : i < σd.length := by
        have := (List.getElem?_eq_some_iff.mp e).1
        simpa using this
      rw [List.getElem?_set_self hl] at e
      cases e
      exact ⟨v, by rw [List.getElem?_set_self (by rw [h.1]; exact hl)], r⟩
    · rw [List.getElem?_set_ne hj] at e
      obtain ⟨w, h1, h2⟩ := h.2.1 j d' e
      exact ⟨w, by rw [List.getElem?_set_ne hj]; exact h1, h2⟩
  · by_cases hj : i = j
    · subst hj
      have hl : i < σd.length := by
        have := (List.getElem?_eq_some_iff.mp x2).1
        simpa using this
      rw [List.getElem?_set_self hl] at x2
      cases x2
    · rw [List.getElem?_set_ne hj] at x2
      obtain ⟨h1, h2⟩ := h.2.2 j a c dx e' x1 x2
      exact ⟨by rw [List.getElem?_set_ne hj]; exact h1, h2⟩
theorem SR.wipe {σd : Sl} {σ : L2.St} (hx : G.xp = none) (h : SR G F as H σd σ) (i : Nat) (x : Option V) : SR G F as H (σd.set i none) (σ.set i x) := by
  refine ⟨by simp [h.1], fun j d' e => ?_, fun j a c dx e' x1 x2 => by rw [hx] at x1; cases x1⟩
  by_cases hj : i = j
  · subst hj
    have hl : i < σd.length := by
      have := (List.getElem?_eq_some_iff.mp e).1
      simpa using this
    rw [List.getElem?_set_self hl] at e
    cases e
  · rw [List.getElem?_set_ne hj] at e
    obtain ⟨w, h1, h2⟩ := h.2.1 j d' e
    exact ⟨w, by rw [List.getElem?_set_ne hj]; exact h1, h2⟩
end

def sNil : SF := fun σ S => .nx σ S
def sSeq (f g : SF) : SF := fun σ S => match f σ S with
  | .nx σ1 S1 => g σ1 S1
  | r => r
def sExpr (f : EF) : SF := fun σ S => (f σ S).out σ fun _ S1 => .nx σ S1
def sRet (f : EF) : SF := fun σ S => (f σ S).out σ fun d S1 => .rt d S1
def sRetN : SF := fun _ S => .rt .non S
def sIf (c : BF) (f g : SF) : SF := fun σ S => (c σ S).out σ fun b S1 => if b then f σ S1 else g σ S1
def sSet (i : Nat) (f : EF) : SF := fun σ S => (f σ S).out σ fun d S1 => .nx (σ.set i (some d)) S1
section
variable {G : Gc} {X : Cx} {W : WX}
theorem snd_seq {t u : TS} {f g : SF} (hf : SndS G W t f) (hg : SndS G W u g) : SndS G W (tSeq t u) (sSeq f g) := by
  intro F as S H σd σ D hr hs hp
  refine hf F as S H σd σ _ hr hs ?_
  unfold sSeq at hp
  revert hp
  cases f σd S with
  | nx σ1 S1 => exact fun hp σ' F' as' H' m q => hg F' as' S1 H' σ1 σ' D m.hr q (hp.step m)
  | rt d S1 => exact fun hp => hp
  | bk σ1 S1 => exact fun hp => hp
  | ct σ1 S1 => exact fun hp => hp
  | exc e σ1 S1 => exact fun hp => hp
  | stuck => exact fun hp => hp
theorem db_nil : DB G X W [] sNil := ⟨_, pss_nil, fun F as S H σd σ D hr hs hp => hp.nxt hr hs⟩
theorem db_cons {st : Stmt} {rest : List Stmt} {f g : SF} (h : DS G X W st f) (h' : DB G X W rest g) : DB G X W (st :: rest) (sSeq f g) := by
  obtain ⟨t, p, s⟩ := h.ex
  obtain ⟨t', p', s'⟩ := h'.ex
  exact ⟨_, pss_cons p p', snd_seq s s'⟩
theorem db_one {st : Stmt} {f : SF} (h : DS G X W st f) : DB G X W [st] f := by
  obtain ⟨t, p, s⟩ := h.ex
  exact ⟨_, pss_one p, s⟩
theorem ds_pass {pos : Pos} : DS G X W (.Pass pos) sNil := ⟨_, ps_pass, fun F as S H σd σ D hr hs hp => hp.nxt hr hs⟩
def sBrk : SF := fun σ S => .bk σ S
def sCnt : SF := fun σ S => .ct σ S
theorem ds_break {pos : Pos} : DS G X W (.Break pos) sBrk := ⟨_, ps_break, fun F as S H σd σ D hr hs hp => hp σ F as H (.refl hr) hs⟩
theorem ds_continue {pos : Pos} : DS G X W (.Continue pos) sCnt := ⟨_, ps_continue, fun F as S H σd σ D hr hs hp => hp σ F as H (.refl hr) hs⟩
theorem ds_expr {e : Expr} {f : EF} {pos : Pos} (h : DE G X W e f) (hs : swapsWith e none pos.line X.env = pure false := by rfl) : DS G X W (.Expr e pos) (sExpr f) := by
  obtain ⟨t, p, s⟩ := h.ex
  refine ⟨_, ps_expr p hs, fun F as S H σd σ D hr hs hp => s F as S H σd σ _ hr hs (PostS.out hr hs hp fun d S1 b F1 as1 H1 _ n1 r1 hs1 h1 => h1.nxt n1.hr hs1)⟩
theorem ds_ret {e : Expr} {f : EF} {pos : Pos} (h : DE G X W e f) : DS G X W (.Return (some e) pos) (sRet f) := by
  obtain ⟨t, p, s⟩ := h.ex
  exact ⟨_, ps_ret p, fun F as S H σd σ D hr hs hp => s F as S H σd σ _ hr hs (PostS.out hr hs hp fun d S1 b F1 as1 H1 _ n1 r1 hs1 h1 => h1 b F1 as1 H1 (.refl n1.hr) r1)⟩
theorem ds_retN {pos : Pos} : DS G X W (.Return none pos) sRetN := ⟨_, ps_retN, fun F as S H σd σ D hr hs hp => hp .non F as H (.refl hr) (by simp only [Rep])⟩
theorem ds_if {c : Expr} {a b : List Stmt} {k : BF} {f g : SF} {pos : Pos} (hc : DT G X W c k) (ha : DB G X W a f) (hb : DB G X W b g) : DS G X W (.If c a b pos) (sIf k f g) := by
  obtain ⟨tc, pc, sc⟩ := hc.ex
  obtain ⟨t, p, s⟩ := ha.ex
  obtain ⟨t', p', s'⟩ := hb.ex
  refine ⟨_, ps_if pc p p', fun F as S H σd σ D hr hs hp => sc F as S H σd σ _ hr hs (PostS.out hr hs hp fun d S1 b F1 as1 H1 _ n1 r1 hs1 h1 => ?_)⟩
  obtain rfl : d = b := r1
  cases d with
  | true => exact s F1 as1 S1 H1 σd σ D n1.hr hs1 h1
  | false => exact s' F1 as1 S1 H1 σd σ D n1.hr hs1 h1
theorem ds_set (i : Nat) {x : Str} {e : Expr} {f : EF} {pos pos' : Pos} (c : Ctx G X W) (he : DE G X W e f) (hi : X.N[i]? = some x := by rfl) (hx : Loc X.env.scope x := by first | exact Or.inl rfl | exact Or.inr rfl) (hs : swapsWith e (some (.Name x pos')) pos.line X.env = pure false := by rfl)
    (hf : X.fn x = true ∨ X.env.scope.names.lookup x = some .local := by first | exact .inl rfl | exact .inr rfl | assumption) : DS G X W (.Assign [.Name x pos'] e pos) (sSet i f) := by
  obtain ⟨t, p, s⟩ := he.ex
  exact ⟨_, ps_set c.nd hi hx p hs hf, fun F as S H σd σ D hr hs hp => s F as S H σd σ _ hr hs (PostS.out hr hs hp fun d S1 b F1 as1 H1 _ n1 r1 hs1 h1 => h1.nxt n1.hr (hs1.set i r1))⟩

/-- a target takes a value: the slots behind -/
abbrev GF := Dat → Sl → Sto → Res Sl
def SndG (G : Gc) (t : TG) (g : GF) : Prop := ∀ F as S H σd σ d v (Q : L2.St → Hp → Prop), HR G F as S H → SR G F as H σd σ → Rep G F as H d v →
  (match g d σd S with
  | .ok σd' S' => ∀ σ' F' as' H', Nxt G F as S H F' as' S' H' → SR G F' as' H' σd' σ' → Q σ' H'
  | _ => False) → t v σ H Q
structure DG (G : Gc) (X : Cx) (tg : Expr) (g : GF) : Prop where
  ex : ∃ t, PG X tg t ∧ SndG G t g
abbrev GFs := List Dat → Sl → Sto → Res Sl
def SndGs (G : Gc) (t : TGs) (g : GFs) : Prop := ∀ F as S H σd σ ds vs (Q : L2.St → Hp → Prop), HR G F as S H → SR G F as H σd σ → RepL G F as H ds vs →
  (match g ds σd S with
  | .ok σd' S' => ∀ σ' F' as' H', Nxt G F as S H F' as' S' H' → SR G F' as' H' σd' σ' → Q σ' H'
  | _ => False) → t vs σ H Q
structure DGs (G : Gc) (X : Cx) (tgs : List Expr) (g : GFs) : Prop where
  ex : ∃ t, PGs X tgs t ∧ SndGs G t g
def gN (i : Nat) : GF := fun d σ S => .ok (σ.set i (some d)) S
def gsNil : GFs := fun ds σ S => match ds with
  | [] => .ok σ S
  | _ => .stuck
def gsCons (g : GF) (h : GFs) : GFs := fun ds σ S => match ds with
  | d :: r => (g d σ S).bind fun σ1 S1 => h r σ1 S1
  | [] => .stuck
/-- unpacking a tuple, or a list -/
def gT (n : Nat) (h : GFs) : GF := fun d σ S => match seqT d with
  | some xs => if xs.length = n then h xs σ S else .stuck
  | none => match seqL d S with
    | some xs => if xs.length = n then h xs σ S else .stuck
    | none => .stuck
theorem dg_name (i : Nat) {x : Str} {pos : Pos} (c : X.N.Nodup) (hi : X.N[i]? = some x := by rfl) (hx : Loc X.env.scope x := by first | exact Or.inl rfl | exact Or.inr rfl)
    (hf : X.fn x = true ∨ X.env.scope.names.lookup x = some .local := by first | exact .inl rfl | exact .inr rfl | assumption) : DG G X (.Name x pos) (gN i) :=
  ⟨_, pg_name c hi hx hf, fun F as S H σd σ d v Q hr hs r h => h _ _ _ _ (.refl hr) (hs.set i r)⟩
theorem dgs_nil : DGs G X [] gsNil := ⟨_, pgs_nil, fun F as S H σd σ ds vs Q hr hs r h => by
  unfold gsNil at h
  cases ds with
  | nil => simp only [RepL] at r; exact ⟨r, h _ _ _ _ (.refl hr) hs⟩
  | cons _ _ => exact h.elim⟩
theorem dgs_cons {e : Expr} {es : List Expr} {g : GF} {h : GFs} (h1 : DG G X e g) (h2 : DGs G X es h) (hs : (assignEach (e :: es) X.env).map (·.2) = assign e X.env :: (assignEach es X.env).map (·.2) := by rfl) : DGs G X (e :: es) (gsCons g h) := by
  obtain ⟨t, p, s⟩ := h1.ex
  obtain ⟨t', p', s'⟩ := h2.ex
  refine ⟨_, pgs_cons p p' hs, fun F as S H σd σ ds vs Q hr hs r hp => ?_⟩
  cases ds with
  | nil => exact hp.elim
  | cons d ds =>
    simp only [RepL] at r
    obtain ⟨v, vs', rfl, r1, r2⟩ := r
    refine ⟨v, vs', rfl, s F as S H σd σ d v _ hr hs r1 ?_⟩
    unfold gsCons at hp
    dsimp only at hp
    revert hp
    cases g d σd S with
    | ok σ1 S1 =>
      refine fun hp σ' F' as' H' m q => s' F' as' S1 H' σ1 σ' ds vs' Q m.hr q (r2.nxt hr m) ?_
      revert hp
      show (match h ds σ1 S1 with | .ok σd' S' => _ | _ => False) → _
      cases h ds σ1 S1 with
      | ok σ2 S2 => exact fun hp σ2' F2 as2 H2 m2 q2 => hp σ2' F2 as2 H2 (m.trans m2) q2
      | exc _ _ => exact fun hp => hp
      | stuck => exact fun hp => hp
    | exc _ _ => exact fun hp => hp
    | stuck => exact fun hp => hp
theorem PG.or {tg : Expr} {t t' : TG} (h : PG X tg t) (h' : PG X tg t') : PG X tg (fun v σ H Q => t v σ H Q ∨ t' v σ H Q) := ⟨fun pins s σ H v u Q I r q => by
  rcases q with q | q
  · exact h.run pins s σ H v u Q I r q
  · exact h'.run pins s σ H v u Q I r q⟩
theorem dg_tup {es : List Expr} {k n : Nat} {h : GFs} {pos : Pos} (c : Ctx G X W) (hc : X.calm = true) (hg : DGs G X es h) (hn : (assignEach es X.env).length = n := by rfl) (hst : (assignEach es X.env).findIdx? (·.1) = none := by rfl) : DG G X (.Tuple es k pos) (gT n h) := by
  obtain ⟨t, p, s⟩ := hg.ex
  refine ⟨_, PG.or (pg_tup hc p hn hst) (pg_lst hc p hn hst), fun F as S H σd σ d v Q hr hs r hp => ?_⟩
  unfold gT at hp
  cases e : seqT d with
  | some xs =>
    rw [e] at hp
    dsimp only at hp
    by_cases e2 : xs.length = n
    · rw [if_pos e2] at hp
      obtain ⟨a, vs, rfl, h1, h2⟩ := seqT_rep r e
      exact .inl ⟨a, vs, rfl, by rw [c.K]; exact h1, by rw [← h2.length]; exact e2, s F as S H σd σ xs vs Q hr hs h2 hp⟩
    · rw [if_neg e2] at hp
      exact hp.elim
  | none =>
    rw [e] at hp
    dsimp only at hp
    cases e3 : seqL d S with
    | none => rw [e3] at hp; exact hp.elim
    | some xs =>
      rw [e3] at hp
      dsimp only at hp
      by_cases e2 : xs.length = n
      · rw [if_pos e2] at hp
        obtain ⟨a, vs, rfl, h1, h2⟩ := seqL_rep hr r e3
        exact .inr ⟨a, vs, rfl, by rw [c.K]; exact h1, by rw [← h2.length]; exact e2, s F as S H σd σ xs vs Q hr hs h2 hp⟩
      · rw [if_neg e2] at hp
        exact hp.elim
def sAsg (f : EF) (g : GF) : SF := fun σ S => (f σ S).out σ fun d S1 => (g d σ S1).out σ fun σ2 S2 => .nx σ2 S2
theorem snd_asg {te : TE} {tg : TG} {f : EF} {g : GF} (s : Snd G (Rep G) W te f) (s' : SndG G tg g) (hx : ∀ d σ S e S', g d σ S ≠ .exc e S') : SndS G W (tAsg te tg) (sAsg f g) := by
  intro F as S H σd σ D hr hs hp
  refine s F as S H σd σ _ hr hs (PostS.out hr hs hp fun d S1 b F1 as1 H1 _ n1 r1 hs1 h1 => ?_)
  refine s' F1 as1 S1 H1 σd σ d b _ n1.hr hs1 r1 ?_
  revert h1
  cases e : g d σd S1 with
  | ok σ2 S2 => exact fun h1 σ' F' as' H' m q => h1 σ' F' as' H' m q
  | exc e' S2 => exact absurd e (hx _ _ _ _ _)
  | stuck => exact fun h1 => h1
/-- no exception comes of a target -/
def GF.calm (g : GF) : Prop := ∀ d σ S e S', g d σ S ≠ .exc e S'
def GFs.calm (g : GFs) : Prop := ∀ d σ S e S', g d σ S ≠ .exc e S'
theorem calm_name (i : Nat) : GF.calm (gN i) := fun d σ S e S' h => by cases h
theorem calm_nil : GFs.calm gsNil := fun d σ S e S' h => by unfold gsNil at h; split at h <;> cases h
theorem calm_cons {g : GF} {h : GFs} (a : GF.calm g) (b : GFs.calm h) : GFs.calm (gsCons g h) := fun d σ S e S' q => by
  unfold gsCons at q
  split at q
  · rename_i x r
    cases z : g x σ S with
    | ok σ1 S1 => rw [z] at q; exact b _ _ _ _ _ q
    | exc e1 S1 => exact a _ _ _ _ _ z
    | stuck => rw [z] at q; cases q
  · cases q
theorem calm_tup {n : Nat} {h : GFs} (b : GFs.calm h) : GF.calm (gT n h) := fun d σ S e S' q => by
  unfold gT at q
  repeat' split at q
  all_goals first | exact b _ _ _ _ _ q | cases q
theorem ds_asg {tg e : Expr} {f : EF} {g : GF} {pos : Pos} (he : DE G X W e f) (hg : DG G X tg g) (hx : GF.calm g) (hs : swapsWithSole [tg] e pos.line X.env = pure false := by rfl) (hw : swappedStores [tg] e X.env = pure none := by rfl)
    (h1 : (assignEach [tg] X.env).map (·.2) = [assign tg X.env] := by rfl) : DS G X W (.Assign [tg] e pos) (sAsg f g) := by
  obtain ⟨t, p, s⟩ := he.ex
  obtain ⟨t', p', s'⟩ := hg.ex
  exact ⟨_, ps_asg p p' hs hw h1, snd_asg s s' hx⟩
/-- a, b = x, y -/
def sPar (i j : Nat) (g : AF) : SF := fun σ S => (g σ S).out σ fun ds S1 => match ds with
  | [a, b] => .nx ((σ.set i (some a)).set j (some b)) S1
  | _ => .stuck
theorem ds_par (i j : Nat) {x y : Str} {a b : Expr} {g : AF} {px py pt : Pos} {kt k2 pt2} {pos : Pos} (c : Ctx G X W) (hc : X.calm = true) (ha : DA G X W [a, b] g) (hi : X.N[i]? = some x := by rfl) (hj : X.N[j]? = some y := by rfl) (hij : i ≠ j := by decide)
    (hx : X.env.scope.names.lookup x = some .local := by rfl) (hy : X.env.scope.names.lookup y = some .local := by rfl)
    (hw : swappedStores [.Tuple [.Name x px, .Name y py] kt pt] (.Tuple [a, b] k2 pt2) X.env = pure (some [x, y]) := by rfl)
    (hs : swapsWithSole [.Tuple [.Name x px, .Name y py] kt pt] (.Tuple [a, b] k2 pt2) pos.line X.env = pure false := by rfl) :
    DS G X W (.Assign [.Tuple [.Name x px, .Name y py] kt pt] (.Tuple [a, b] k2 pt2) pos) (sPar i j g) := by
  obtain ⟨t, p, s⟩ := ha.ex
  refine ⟨_, ps_par hc c.nd hi hj hij hx hy p hw hs, fun F as S H σd σ D hr hs hp => s F as S H σd σ _ hr hs (PostS.out hr hs hp fun d S1 b F1 as1 H1 _ n1 r1 hs1 h1 => ?_)⟩
  split at h1
  · simp only [RepL] at r1
    obtain ⟨v, _, rfl, q1, w, _, rfl, q2, rfl⟩ := r1
    exact ⟨v, w, rfl, h1.nxt n1.hr ((hs1.set i q1).set j q2)⟩
  · exact h1.elim
def sPar3 (i j l : Nat) (g : AF) : SF := fun σ S => (g σ S).out σ fun ds S1 => match ds with
  | [a, b, c] => .nx (((σ.set i (some a)).set j (some b)).set l (some c)) S1
  | _ => .stuck
theorem ds_par3 (i j l : Nat) {x y z : Str} {a b c : Expr} {g : AF} {px py pz pt : Pos} {kt k2 pt2} {pos : Pos} (cx : Ctx G X W) (hc : X.calm = true) (ha : DA G X W [a, b, c] g) (hi : X.N[i]? = some x := by rfl) (hj : X.N[j]? = some y := by rfl) (hl : X.N[l]? = some z := by rfl) (hij : i ≠ j := by decide) (hil : i ≠ l := by decide) (hjl : j ≠ l := by decide)
    (hx : X.env.scope.names.lookup x = some .local := by rfl) (hy : X.env.scope.names.lookup y = some .local := by rfl) (hz : X.env.scope.names.lookup z = some .local := by rfl)
    (hw : swappedStores [.Tuple [.Name x px, .Name y py, .Name z pz] kt pt] (.Tuple [a, b, c] k2 pt2) X.env = pure (some [x, y, z]) := by rfl)
    (hs : swapsWithSole [.Tuple [.Name x px, .Name y py, .Name z pz] kt pt] (.Tuple [a, b, c] k2 pt2) pos.line X.env = pure false := by rfl) :
    DS G X W (.Assign [.Tuple [.Name x px, .Name y py, .Name z pz] kt pt] (.Tuple [a, b, c] k2 pt2) pos) (sPar3 i j l g) := by
  obtain ⟨t, p, s⟩ := ha.ex
  refine ⟨_, ps_par3 hc cx.nd hi hj hl hij hil hjl hx hy hz p hw hs, fun F as S H σd σ D hr hs hp => s F as S H σd σ _ hr hs (PostS.out hr hs hp fun d S1 b F1 as1 H1 _ n1 r1 hs1 h1 => ?_)⟩
  split at h1
  · simp only [RepL] at r1
    obtain ⟨v, _, rfl, q1, w, _, rfl, q2, u, _, rfl, q3, rfl⟩ := r1
    exact ⟨v, w, u, rfl, h1.nxt n1.hr (((hs1.set i q1).set j q2).set l q3)⟩
  · exact h1.elim
def OpI (G : Gc) (r : TIp) (o : O2) : Prop := ∀ F as S H x y v u Q W σ, HR G F as S H → Rep G F as H x v → Rep G F as H y u → Post G (Rep G) W σ F as S H (o x y S) Q → r v u H Q
def sAug (i : Nat) (o : O2) (f : EF) : SF := fun σ S => match σ[i]? with
  | some (some x) => (f σ S).out σ fun y S1 => (o x y S1).out σ fun z S2 => .nx (σ.set i (some z)) S2
  | _ => .stuck
theorem ds_aug (i : Nat) {x : Str} {e : Expr} {f : EF} {o : O2} {op : Operator} {ti : TIp} {pos pos' : Pos} (c : Ctx G X W) (ho : PIp X op ti) (hi' : OpI G ti o) (he : DE G X W e f) (hi : X.N[i]? = some x := by rfl) (hx : Loc X.env.scope x := by first | exact Or.inl rfl | exact Or.inr rfl)
    (hf : X.fn x = true ∨ X.env.scope.names.lookup x = some .local := by first | exact .inl rfl | exact .inr rfl | assumption) : DS G X W (.AugAssign (.Name x pos') op e pos) (sAug i o f) := by
  obtain ⟨t, p, s⟩ := he.ex
  refine ⟨_, ps_aug c.nd hi hx p ho hf, fun F as S H σd σ D hr hs hp => ?_⟩
  unfold sAug at hp
  split at hp
  · rename_i d e
    obtain ⟨v, e1, r⟩ := hs.2.1 i d e
    refine ⟨v, e1, s F as S H σd σ _ hr hs (PostS.out hr hs hp fun d S1 b F1 as1 H1 _ n1 r1 hs1 h1 => ?_)⟩
    exact hi' F1 as1 S1 H1 _ _ _ _ _ W σ n1.hr (r.nxt hr n1) r1 (PostS.out n1.hr hs1 h1 fun d2 S2 b2 F2 as2 H2 _ n2 r2 hs2 h2 => h2.nxt n2.hr (hs2.set i r2))
  · exact hp.elim
theorem opi_I {g : Int → Int → Int} : OpI G (ipI g) (oI0 fun i j => .int (g i j)) := by
  intro F as S H x y v u Q W σ hr rx ry hp
  unfold oI0 at hp
  split at hp
  · exact ⟨_, _, rx.int_iff, ry.int_iff, hp.now hr (by simp only [Rep])⟩
  · exact hp.elim
def oIadd : O2 := oI0 fun i j => .int (i + j)

/-- from a state on, J walks these items, while chk holds of the store -/
structure Wk (G : Gc) (J : It) (F as : List Addr) (S : Sto) (H : Hp) (items : List Dat) (chk : Sto → Bool) : Prop where
  go : ∀ i x F' as' S' H', Nxt G F as S H F' as' S' H' → chk S' = true → items[i]? = some x → J.go i H' ∧ ∀ v H'', J.yld i H' v H'' → ∃ F'', Nxt G F' as' S' H' F'' as' S' H'' ∧ Rep G F'' as' H'' x v
  stop : ∀ F' as' S' H', Nxt G F as S H F' as' S' H' → chk S' = true → J.stop items.length H'
abbrev IF := Sl → Sto → Res (List Dat × (Sto → Bool))
def SndI (G : Gc) (W : WX) (wi : TI) (f : IF) : Prop := ∀ F as S H σd σ (R : It → Hp → Prop), HR G F as S H → SR G F as H σd σ →
  (match f σd S with
  | .ok p S1 => ∀ J F1 as1 H1, Nxt G F as S H F1 as1 S1 H1 → Wk G J F1 as1 S1 H1 p.1 p.2 → R J H1
  | .exc e S1 => ∀ c dx F' as' H', Nxt G F as S H F' as' S1 H' → ExR G F' as' H' e c dx → W c dx σ H'
  | .stuck => False) → wi σ H R
structure DI (G : Gc) (X : Cx) (W : WX) (tg iter : Expr) (f : IF) : Prop where
  ex : ∃ t, PI X tg iter t ∧ SndI G W t f
def forGo (chk : Sto → Bool) (g : GF) (body : SF) : List Dat → SF
  | [], σ, S => if chk S = true then .nx σ S else .stuck
  | d :: ds, σ, S => if chk S = true then (g d σ S).out σ fun σ1 S1 => match body σ1 S1 with
      | .nx σ2 S2 => forGo chk g body ds σ2 S2
      | .ct σ2 S2 => forGo chk g body ds σ2 S2
      | .bk σ2 S2 => .nx σ2 S2
      | r => r
    else .stuck
def sFor (it : IF) (g : GF) (body : SF) : SF := fun σ S => (it σ S).out σ fun p S1 => forGo p.2 g body p.1 σ S1
theorem ds_for {tg iter : Expr} {body : List Stmt} {it : IF} {g : GF} {b : SF} {pos : Pos} (hp : PassesOwn (model X.prog X.w) X.A X.env X.xe) (hc : X.calm = true) (hi : DI G X W tg iter it) (hg : DG G X tg g) (hgc : GF.calm g) (hb : DB G X W body b)
    (hs : ∀ x, foldedSetIterable iter X.env x = pure x := by intro _; rfl) : DS G X W (.For tg iter body [] pos) (sFor it g b) := by
  obtain ⟨t, p, s⟩ := hi.ex
  obtain ⟨t', p', s'⟩ := hg.ex
  obtain ⟨t2, p2, s2⟩ := hb.ex
  refine ⟨_, ps_for hp hc p p' p2 hs, fun F as S H σd σ D hr hs hw => s F as S H σd σ _ hr hs ?_⟩
  unfold sFor at hw
  revert hw
  cases it σd S with
  | stuck => exact fun h => h
  | exc e S1 => exact fun h c dx F' as' H' m q => h c dx σ F' as' H' m (hs.nxt hr m) q
  | ok pr S1 =>
    obtain ⟨items, chk⟩ := pr
    intro hw J F1 as1 H1 n1 wk
    refine ⟨fun i m σ2 H2 => ∃ F2 as2 S2 σd2, i ≤ items.length ∧ m = items.length - i ∧ Nxt G F1 as1 S1 H1 F2 as2 S2 H2 ∧ SR G F2 as2 H2 σd2 σ2 ∧ PostS G W F2 as2 S2 H2 (forGo chk g b (items.drop i) σd2 S2) D,
      ⟨items.length, F1, as1, S1, σd, Nat.zero_le _, rfl, .refl n1.hr, hs.nxt hr n1, PostS.step hw n1⟩, ?_⟩
    rintro i m σ2 H2 ⟨F2, as2, S2, σd2, hi, rfl, n2, hs2, h2⟩
    by_cases hlt : i < items.length
    · rw [List.drop_eq_getElem_cons hlt] at h2
      unfold forGo at h2
      by_cases hck : chk S2 = true
      · rw [if_pos hck] at h2
        obtain ⟨g1, g2⟩ := wk.go i items[i] F2 as2 S2 H2 n2 hck (List.getElem?_eq_getElem hlt)
        refine .inr ⟨g1, fun σ3 H3 => ∃ F3 as3 S3 σd3, Nxt G F1 as1 S1 H1 F3 as3 S3 H3 ∧ SR G F3 as3 H3 σd3 σ3 ∧ PostS G W F3 as3 S3 H3 (forGo chk g b (items.drop (i + 1)) σd3 S3) D,
          fun σ3 H3 ⟨F3, as3, S3, σd3, a1, a2, a3⟩ => ⟨items.length - (i + 1), by omega, F3, as3, S3, σd3, by omega, rfl, a1, a2, a3⟩, fun v H3 hy => ?_⟩
        obtain ⟨F3, n3, r3⟩ := g2 v H3 hy
        refine s' F3 as2 S2 H3 σd2 σ2 items[i] v _ n3.hr (hs2.nxt n2.hr n3) r3 ?_
        revert h2
        cases e : g items[i] σd2 S2 with
        | stuck => exact fun h => h
        | exc e' S' => exact absurd e (hgc _ _ _ _ _)
        | ok σd4 S4 =>
          intro h2 σ4 F4 as4 H4 n4 hs4
          have n34 := n3.trans n4
          refine s2 F4 as4 S4 H4 σd4 σ4 _ n4.hr hs4 ?_
          have h3 : PostS G W F4 as4 S4 H4 (match b σd4 S4 with | .nx σ2 S2 => forGo chk g b (items.drop (i + 1)) σ2 S2 | .ct σ2 S2 => forGo chk g b (items.drop (i + 1)) σ2 S2 | .bk σ2 S2 => .nx σ2 S2 | r => r) D := PostS.step h2 n34
          clear h2
          revert h3
          cases b σd4 S4 with
          | nx σd5 S5 => exact fun h3 σ5 F5 as5 H5 n5 hs5 => ⟨F5, as5, S5, σd5, n2.trans (n34.trans n5), hs5, PostS.step h3 n5⟩
          | ct σd5 S5 => exact fun h3 σ5 F5 as5 H5 n5 hs5 => ⟨F5, as5, S5, σd5, n2.trans (n34.trans n5), hs5, PostS.step h3 n5⟩
          | bk σd5 S5 => exact fun h3 σ5 F5 as5 H5 n5 hs5 => h3 σ5 F5 as5 H5 n5 hs5
          | rt d5 S5 => exact fun h3 => h3
          | exc e5 σd5 S5 => exact fun h3 => h3
          | stuck => exact fun h3 => h3
      · rw [if_neg hck] at h2
        exact h2.elim
    · have e : i = items.length := by omega
      subst e
      rw [List.drop_length] at h2
      unfold forGo at h2
      by_cases hck : chk S2 = true
      · rw [if_pos hck] at h2
        exact .inl ⟨wk.stop F2 as2 S2 H2 n2 hck, h2.nxt n2.hr hs2⟩
      · rw [if_neg hck] at h2
        exact h2.elim
def whileGo (c : BF) (body : SF) : Nat → SF
  | 0, _, _ => .stuck
  | n + 1, σ, S => (c σ S).out σ fun b S1 => if b then match body σ S1 with
      | .nx σ2 S2 => whileGo c body n σ2 S2
      | .ct σ2 S2 => whileGo c body n σ2 S2
      | .bk σ2 S2 => .nx σ2 S2
      | r => r
    else .nx σ S1
def sWhile (n : Nat) (c : BF) (body : SF) : SF := whileGo c body n
theorem ds_while (n : Nat) {c : Expr} {body : List Stmt} {k : BF} {b : SF} {pos : Pos} (hp : PassesOwn (model X.prog X.w) X.A X.env X.xe) (hc : DT G X W c k) (hb : DB G X W body b) : DS G X W (.While c body [] pos) (sWhile n k b) := by
  obtain ⟨t, p, s⟩ := hc.ex
  obtain ⟨t', p', s'⟩ := hb.ex
  refine ⟨_, ps_while hp p p', fun F as S H σd σ D hr hs hw => ?_⟩
  refine ⟨fun m σ2 H2 => ∃ F2 as2 S2 σd2, HR G F2 as2 S2 H2 ∧ SR G F2 as2 H2 σd2 σ2 ∧ PostS G W F2 as2 S2 H2 (whileGo k b m σd2 S2) D, ⟨n, F, as, S, σd, hr, hs, hw⟩, ?_⟩
  rintro m σ2 H2 ⟨F2, as2, S2, σd2, hr2, hs2, h2⟩
  cases m with
  | zero => exact h2.elim
  | succ m =>
    unfold whileGo at h2
    refine s F2 as2 S2 H2 σd2 σ2 _ hr2 hs2 (PostS.out hr2 hs2 h2 fun d S3 b3 F3 as3 H3 _ n3 r3 hs3 h3 => ?_)
    obtain rfl : d = b3 := r3
    cases d with
    | false => exact h3.nxt n3.hr hs3
    | true =>
      rw [if_pos rfl]
      refine ⟨fun σ4 H4 => ∃ F4 as4 S4 σd4, HR G F4 as4 S4 H4 ∧ SR G F4 as4 H4 σd4 σ4 ∧ PostS G W F4 as4 S4 H4 (whileGo k b m σd4 S4) D, fun σ4 H4 q => ⟨m, Nat.lt_succ_self m, q⟩, ?_⟩
      refine s' F3 as3 S3 H3 σd2 σ2 _ n3.hr hs3 ?_
      rw [if_pos rfl] at h3
      revert h3
      cases b σd2 S3 with
      | nx σd5 S5 => exact fun h3 σ5 F5 as5 H5 n5 hs5 => ⟨F5, as5, S5, σd5, n5.hr, hs5, PostS.step h3 n5⟩
      | ct σd5 S5 => exact fun h3 σ5 F5 as5 H5 n5 hs5 => ⟨F5, as5, S5, σd5, n5.hr, hs5, PostS.step h3 n5⟩
      | bk σd5 S5 => exact fun h3 σ5 F5 as5 H5 n5 hs5 => h3 σ5 F5 as5 H5 n5 hs5
      | rt d5 S5 => exact fun h3 => h3
      | exc e5 σd5 S5 => exact fun h3 => h3
      | stuck => exact fun h3 => h3
end

/-- the store ahead of a call, cut off again -/
def okTr (n : Nat) : Sto → Sto → Bool
  | [], _ => true
  | _ :: _, [] => false
  | o :: S, o' :: S' => (decide (o' = o) || o'.lt n) && okTr n S S'
def trunc {α : Type} (S : Sto) (ok : Bool) (a : α) (S' : Sto) : Res α := if ok && okTr S.length S S' then .ok a (S'.take S.length) else .ok a S'
def truncX {α : Type} (S : Sto) (e : Ex) (S' : Sto) : Res α := if (e.fs.all fun p => p.2.lt S.length) && okTr S.length S S' then .exc e (S'.take S.length) else .exc e S'
def fin (S : Sto) : Out → Res Dat
  | .nx _ S' => trunc S true .non S'
  | .rt d S' => trunc S (d.lt S.length) d S'
  | .exc e _ S' => truncX S e S'
  | _ => .stuck
/-- a def of n parameters, N names in all -/
def mkFn (n N : Nat) (body : SF) : Fn := fun ds S => if ds.length = n then fin S (body (ds.map some ++ List.replicate (N - n) none) S) else .stuck

theorem dkeys_lt (n : Nat) : ∀ (ks : List Dat) (l : List Key), dkeys ks = some l → Dat.ltL n ks = true
  | [], _, _ => by simp only [Dat.ltL]
  | k :: r, l, e => by
    simp only [dkeys] at e
    split at e
    · rename_i e1 e2
      simp only [Dat.ltL, Bool.and_eq_true]
      refine ⟨?_, dkeys_lt n r _ e2⟩
      cases k <;> first | (simp only [Dat.lt]; done) | (simp only [dkey] at e1; cases e1)
    · cases e
theorem tkeys_lt (n : Nat) : ∀ (ks : List Dat) (l : List (List Key)), tkeys ks = some l → Dat.ltL n ks = true
  | [], _, _ => by simp only [Dat.ltL]
  | k :: r, l, e => by
    simp only [tkeys] at e
    split at e
    · rename_i e1 e2
      simp only [Dat.ltL, Bool.and_eq_true]
      refine ⟨?_, tkeys_lt n r _ e2⟩
      cases k with
      | tup xs => simp only [Dat.lt]; exact dkeys_lt n xs _ e1
      | _ => simp only [tkey] at e1; cases e1
    · cases e
section
variable {G : Gc} {F as as' F' : List Addr} {S S' : Sto} {H H' : Hp}
mutual
theorem Rep.ltn : ∀ (d : Dat) (v : V), Rep G F as H d v → Dat.lt as.length d = true
  | .non, v, h => by simp only [Dat.lt]
  | .bl _, v, h => by simp only [Dat.lt]
  | .int _, v, h => by simp only [Dat.lt]
  | .str _, v, h => by simp only [Dat.lt]
  | .scr _, v, h => by simp only [Dat.lt]
  | .tup xs, v, h => by simp only [Rep] at h; obtain ⟨a, vs, _, _, r⟩ := h; simp only [Dat.lt]; exact RepL.ltn xs vs r
  | .lst xs, v, h => by simp only [Rep] at h; obtain ⟨a, vs, _, _, r⟩ := h; simp only [Dat.lt]; exact RepL.ltn xs vs r
  | .dct t ks xs, v, h => by
    simp only [Rep] at h
    obtain ⟨a, _, _, h⟩ := h
    simp only [Dat.lt, Bool.and_eq_true]
    rcases h with ⟨_, kv, _, e, r⟩ | ⟨_, kv, _, e, r⟩
    · exact ⟨dkeys_lt _ _ _ e, RepL.ltn xs _ r⟩
    · exact ⟨tkeys_lt _ _ _ e, RepL.ltn xs _ r⟩
  | .obj c ns xs, v, h => by simp only [Rep] at h; obtain ⟨a, dx, fs, _, _, _, r⟩ := h; simp only [Dat.lt]; exact RepL.ltn xs _ r
  | .ref n, v, h => by
    simp only [Rep] at h
    obtain ⟨a, _, e⟩ := h
    simp only [Dat.lt, decide_eq_true_eq]
    exact (List.getElem?_eq_some_iff.mp e).1
theorem RepL.ltn : ∀ (ds : List Dat) (vs : List V), RepL G F as H ds vs → Dat.ltL as.length ds = true
  | [], vs, h => by simp only [Dat.ltL]
  | d :: ds, vs, h => by
    simp only [RepL] at h
    obtain ⟨v, vs', rfl, h1, h2⟩ := h
    simp only [Dat.ltL, Bool.and_eq_true]
    exact ⟨Rep.ltn d v h1, RepL.ltn ds vs' h2⟩
end
/-- fewer places of the store -/
theorem get_take {n m : Nat} {a : Addr} (h : m < n) (e : as[m]? = some a) : (as.take n)[m]? = some a := by rw [List.getElem?_take_of_lt h]; exact e
mutual
theorem Rep.cut (n : Nat) : ∀ (d : Dat) (v : V), Rep G F as H d v → Dat.lt n d = true → Rep G F (as.take n) H d v
  | .non, v, h, _ => by simp only [Rep] at h ⊢; exact h
  | .bl _, v, h, _ => by simp only [Rep] at h ⊢; exact h
  | .int _, v, h, _ => by simp only [Rep] at h ⊢; exact h
  | .str _, v, h, _ => by simp only [Rep] at h ⊢; exact h
  | .scr _, v, h, _ => by simp only [Rep] at h ⊢; exact h
  | .tup xs, v, h, l => by
    simp only [Rep] at h ⊢; simp only [Dat.lt] at l
    obtain ⟨a, vs, e, h1, r⟩ := h
    exact ⟨a, vs, e, h1, RepL.cut n xs vs r l⟩
  | .lst xs, v, h, l => by
    simp only [Rep] at h ⊢; simp only [Dat.lt] at l
    obtain ⟨a, vs, e, h1, r⟩ := h
    exact ⟨a, vs, e, h1, RepL.cut n xs vs r l⟩
  | .dct t ks xs, v, h, l => by
    simp only [Rep] at h ⊢; simp only [Dat.lt, Bool.and_eq_true] at l
    obtain ⟨a, e, h1, h⟩ := h
    refine ⟨a, e, h1, ?_⟩
    rcases h with ⟨e1, kv, rd, e2, r⟩ | ⟨e1, kv, rd, e2, r⟩
    · exact .inl ⟨e1, kv, rd, e2, RepL.cut n xs _ r l.2⟩
    · exact .inr ⟨e1, kv, rd, e2, RepL.cut n xs _ r l.2⟩
  | .obj c ns xs, v, h, l => by
    simp only [Rep] at h ⊢; simp only [Dat.lt] at l
    obtain ⟨a, dx, fs, e, h1, h2, r⟩ := h
    exact ⟨a, dx, fs, e, h1, h2, RepL.cut n xs _ r l⟩
  | .ref m, v, h, l => by
    simp only [Rep] at h ⊢; simp only [Dat.lt, decide_eq_true_eq] at l
    obtain ⟨a, e, h1⟩ := h
    exact ⟨a, e, get_take l h1⟩
theorem RepL.cut (n : Nat) : ∀ (ds : List Dat) (vs : List V), RepL G F as H ds vs → Dat.ltL n ds = true → RepL G F (as.take n) H ds vs
  | [], vs, h, _ => by simp only [RepL] at h ⊢; exact h
  | d :: ds, vs, h, l => by
    simp only [RepL] at h ⊢; simp only [Dat.ltL, Bool.and_eq_true] at l
    obtain ⟨v, vs', e, h1, h2⟩ := h
    exact ⟨v, vs', e, Rep.cut n d v h1 l.1, RepL.cut n ds vs' h2 l.2⟩
end
theorem ltL_map {α : Type} (n : Nat) (f : α → Dat) (xs : List α) : Dat.ltL n (xs.map f) = xs.all fun x => Dat.lt n (f x) := by
  rw [Dat.ltL_all, List.all_map]; rfl
theorem RepO.cut (n : Nat) {a : Addr} {o : Ob} (h : RepO G F as H a o) (l : o.lt n = true) : RepO G F (as.take n) H a o := by
  cases o with
  | gone => trivial
  | lst xs =>
    obtain ⟨vs, e, r⟩ := h
    exact ⟨vs, e, RepL.cut n _ _ r l⟩
  | dct t kvs =>
    have l2 : Dat.ltL n (kvs.map (·.2)) = true := by
      rw [ltL_map]
      simp only [Ob.lt, List.all_eq_true, Bool.and_eq_true] at l ⊢
      exact fun p hp => (l p hp).2
    rcases h with ⟨e1, kv, e2, e3, r⟩ | ⟨e1, kv, e2, e3, r⟩
    · exact .inl ⟨e1, kv, e2, e3, RepL.cut n _ _ r l2⟩
    · exact .inr ⟨e1, kv, e2, e3, RepL.cut n _ _ r l2⟩
  | ins c fs =>
    obtain ⟨dx, fs', e, e2, r⟩ := h
    have l2 : Dat.ltL n (fs.map (·.2)) = true := by rw [ltL_map]; exact l
    exact ⟨dx, fs', e, e2, RepL.cut n _ _ r l2⟩
theorem RepO.ltn {a : Addr} {o : Ob} (h : RepO G F as H a o) : o.lt as.length = true := by
  cases o with
  | gone => rfl
  | lst xs => obtain ⟨vs, e, r⟩ := h; exact RepL.ltn _ _ r
  | dct t kvs =>
    have key : Dat.ltL as.length (kvs.map (·.1)) = true → Dat.ltL as.length (kvs.map (·.2)) = true → (kvs.all fun p => Dat.lt as.length p.1 && Dat.lt as.length p.2) = true := by
      intro h1 h2
      rw [ltL_map] at h1 h2
      simp only [List.all_eq_true, Bool.and_eq_true] at h1 h2 ⊢
      exact fun p hp => ⟨h1 p hp, h2 p hp⟩
    rcases h with ⟨e1, kv, e2, e3, r⟩ | ⟨e1, kv, e2, e3, r⟩
    · exact key (dkeys_lt _ _ _ e3) (RepL.ltn _ _ r)
    · exact key (tkeys_lt _ _ _ e3) (RepL.ltn _ _ r)
  | ins c fs =>
    obtain ⟨dx, fs', e, e2, r⟩ := h
    have := RepL.ltn _ _ r
    rw [ltL_map] at this
    exact this
theorem okTr_get : ∀ {n : Nat} {S S' : Sto} {i : Nat} {o : Ob}, okTr n S S' = true → i < S.length → S'[i]? = some o → S[i]? = some o ∨ o.lt n = true
  | n, [], _, i, o, _, h, _ => absurd h (Nat.not_lt_zero _)
  | n, x :: S, [], i, o, e, _, _ => by simp only [okTr] at e; cases e
  | n, x :: S, y :: S', 0, o, e, _, e2 => by
    simp only [okTr, Bool.and_eq_true, Bool.or_eq_true, decide_eq_true_eq] at e
    simp at e2; subst e2
    exact e.1.imp (fun z => by rw [z]; rfl) id
  | n, x :: S, y :: S', i + 1, o, e, h, e2 => by
    simp only [okTr, Bool.and_eq_true] at e
    have := okTr_get (i := i) e.2 (by simpa using h) (by simpa using e2)
    simpa using this
theorem okTr_len : ∀ {n : Nat} {S S' : Sto}, okTr n S S' = true → S.length ≤ S'.length
  | n, [], _, _ => Nat.zero_le _
  | n, x :: S, [], e => by simp only [okTr] at e; cases e
  | n, x :: S, y :: S', e => by
    simp only [okTr, Bool.and_eq_true] at e
    have := okTr_len e.2
    simpa using this
theorem Nxt.cut (hr : HR G F as S H) (n : Nxt G F as S H F' as' S' H') (ok : okTr S.length S S' = true) : Nxt G F as S H F' as (S'.take S.length) H' := by
  obtain ⟨r, rfl⟩ := id n.pre
  have ht : (as ++ r).take S.length = as := by rw [← hr.len]; simp
  have live : ∀ a, Live as (S'.take S.length) a → Live (as ++ r) S' a := fun a ⟨m, o, e1, e2, e3⟩ => by
    have hm : m < as.length := (List.getElem?_eq_some_iff.mp e1).1
    refine ⟨m, o, by rw [List.getElem?_append_left hm]; exact e1, ?_, e3⟩
    rw [List.getElem?_take] at e2
    split at e2
    · exact e2
    · cases e2
  refine ⟨⟨?_, hr.nd, fun a ha => n.hr.there a (List.mem_append_left _ ha), n.hr.thereF, fun a l => n.hr.apart a (live a l), fun m a o e1 e2 => ?_⟩, ⟨[], by simp⟩, n.fsub, n.keep, n.newF, fun a l => n.newL a (live a l), fun a h => .inl h, n.some_⟩
  · rw [List.length_take, hr.len]
    have := okTr_len ok
    omega
  · have hm : m < as.length := (List.getElem?_eq_some_iff.mp e1).1
    have e2' : S'[m]? = some o := by
      rw [List.getElem?_take] at e2
      split at e2
      · exact e2
      · cases e2
    have q := n.hr.obs m a o (by rw [List.getElem?_append_left hm]; exact e1) e2'
    have l : o.lt S.length = true := by
      rcases okTr_get ok (by rw [← hr.len]; exact hm) e2' with z | z
      · have := (hr.obs m a o e1 z).ltn
        rwa [hr.len] at this
      · exact z
    have := q.cut S.length l
    rwa [ht] at this
end

/-- what a call gives -/
def PostC (G : Gc) (F as : List Addr) (S : Sto) (H : Hp) (r : Res Dat) (Q : VK) (E : XK) : Prop :=
  match r with
  | .ok d S' => ∀ v F' as' H', Nxt G F as S H F' as' S' H' → Rep G F' as' H' d v → Q v H'
  | .exc e S' => ∀ c dx F' as' H', Nxt G F as S H F' as' S' H' → ExR G F' as' H' e c dx → E c dx H'
  | .stuck => False
/-- the promise of a def that does as fn -/
def spF (G : Gc) (n : Nat) (fn : Fn) : Sp := fun vs H Q E => vs.length = n ∧ ∃ F as S ds, HR G F as S H ∧ RepL G F as H ds vs ∧ PostC G F as S H (fn ds S) Q E
theorem SR.start {G : Gc} {F as : List Addr} {H : Hp} {ds : List Dat} {vs : List V} {N : List Str} {n : Nat} (hx : G.xp = none) (r : RepL G F as H ds vs) (hn : N.length = n) : SR G F as H (ds.map some ++ List.replicate (n - ds.length) none) (L2.start N vs) := by
  unfold L2.start
  refine ⟨by simp [r.length, hn], fun i d e => ?_, fun j a c dx e' x1 x2 => by rw [hx] at x1; cases x1⟩
  by_cases hi : i < ds.length
  · rw [List.getElem?_append_left (by simpa using hi), List.getElem?_map] at e
    cases q : ds[i]? with
    | none => rw [q] at e; cases e
    | some d' =>
      rw [q] at e
      cases e
      obtain ⟨v, h1, h2⟩ := r.get q
      exact ⟨v, by rw [List.getElem?_append_left (by rw [List.length_map, ← r.length]; exact hi), List.getElem?_map, h1]; rfl, h2⟩
  · rw [List.getElem?_append_right (by simpa using hi), List.getElem?_replicate] at e
    split at e <;> cases e
theorem PostC.trunc {G : Gc} {F as : List Addr} {S : Sto} {H : Hp} {d : Dat} {S' : Sto} {Q : VK} {E : XK} (hr : HR G F as S H) (h : PostC G F as S H (trunc S (d.lt S.length) d S') Q E) : ∀ v F' as' H', Nxt G F as S H F' as' S' H' → Rep G F' as' H' d v → Q v H' := by
  unfold Fx.trunc at h
  split at h
  · rename_i g
    rw [Bool.and_eq_true] at g
    intro v F' as' H' n r
    refine h v F' as H' (n.cut hr g.2) ?_
    have := r.cut S.length d v g.1
    obtain ⟨t, rfl⟩ := n.pre
    rwa [← hr.len, List.take_left] at this
  · exact h
theorem PostC.truncX {G : Gc} {F as : List Addr} {S : Sto} {H : Hp} {e : Ex} {S' : Sto} {Q : VK} {E : XK} (hr : HR G F as S H) (h : PostC G F as S H (truncX S e S') Q E) : ∀ c dx F' as' H', Nxt G F as S H F' as' S' H' → ExR G F' as' H' e c dx → E c dx H' := by
  unfold Fx.truncX at h
  split at h
  · rename_i g
    rw [Bool.and_eq_true] at g
    intro c dx F' as' H' n r
    refine h c dx F' as H' (n.cut hr g.2) ?_
    obtain ⟨t, rfl⟩ := n.pre
    refine ⟨r.1, r.2.imp id fun ⟨dd, fs, h1, h2, h3, h4, h5, h6⟩ => ⟨dd, fs, h1, h2, h3, h4, h5, ?_⟩⟩
    have := h6.cut S.length _ _ (by rw [ltL_map]; exact g.1)
    rwa [← hr.len, List.take_left] at this
  · exact h
/-- THE RULE for a def: its body does as b -/
theorem fn_ok {P : Program} {w : World} {G : Gc} {mg : Str → Option Value} {base : Heap} {x qual : Str} {st : Stmt} {f : Addr} {fd : FuncData} {N ps : List Str} {k n m : Nat} {b : SF} (hx : G.xp = none) (Fu : Fun G.K x qual st f fd) (S : FnScope N ps (defScope st))
    (hn : ps.length = n) (hm : N.length = m)
    (hb : ∀ (cdv : Value) (A : Around) (outer : List Env) (s : Shared) (H : Hp) (E : XK), Room k (A.deeper (envOfC qual (defScope st) s.heap.objs.size f cdv)) →
      DB G (cxOf (L2.CX P w) P w G.K mg base N qual (defScope st) f cdv A outer s H E) (fun c d _ H => E c d H) (defBody st) b) :
    FnOk P w G.K mg base (L2.CX P w) (k + 1) f fd ps (spF G n (mkFn n m b)) := by
  refine Fu.okX S (fun vs H Q E h => by rw [hn]; exact h.1) (fun cdv A outer s H vs Q E hr h => ?_)
  obtain ⟨hl, F, as, S', ds, h1, h2, h3⟩ := h
  obtain ⟨t, p, sn⟩ := (hb cdv A outer s H E hr).ex
  refine ⟨t, p, sn F as S' H _ _ _ h1 (SR.start hx h2 hm) ?_⟩
  unfold mkFn at h3
  have hd : ds.length = n := by rw [h2.length]; exact hl
  rw [if_pos hd] at h3
  rw [hd]
  revert h3
  cases b (ds.map some ++ List.replicate (m - n) none) S' with
  | nx σ1 S1 => exact fun h3 σ' F' as' H' m q => PostC.trunc (d := .non) h1 h3 .non F' as' H' m (by simp only [Rep])
  | rt d S1 => exact fun h3 v F' as' H' m r => PostC.trunc h1 h3 v F' as' H' m r
  | exc e σ1 S1 => exact fun h3 c dx σ' F' as' H' m q r => PostC.truncX h1 h3 c dx F' as' H' m r
  | bk _ _ => exact fun h3 => h3.elim
  | ct _ _ => exact fun h3 => h3.elim
  | stuck => exact fun h3 => h3.elim

def eCall (n : Nat) (fn : Fn) (g : AF) : EF := fun σ S => (g σ S).bind fun ds S1 => if ds.length = n then fn ds S1 else .stuck
section
variable {G : Gc} {X : Cx} {W : WX}
theorem PostC.of {F as : List Addr} {S : Sto} {H : Hp} {r : Res Dat} {Q : VK} {σ : L2.St} (h : Post G (Rep G) W σ F as S H r Q) : PostC G F as S H r Q (WE W σ) := by
  cases r with
  | ok d S2 => exact h
  | exc e S2 => exact h
  | stuck => exact h
theorem snd_call {n : Nat} {fn : Fn} {t : TA} {g : AF} (ha : Snd G (RepL G) W t g) : Snd G (Rep G) W (tCallS (spF G n fn) (WE W) t) (eCall n fn g) := by
  intro F as S H σd σ Q hr hs hp
  refine ha F as S H σd σ _ hr hs (hp.bind fun ds S1 vs F1 as1 H1 _ n1 r1 h1 => ?_)
  split at h1
  · rename_i hl
    exact ⟨by rw [← r1.length]; exact hl, F1, as1, S1, ds, n1.hr, r1, .of h1⟩
  · exact h1.elim
theorem de_call {P : Program} {w : World} {mg : Str → Option Value} {base : Heap} {f : Addr} {fd : FuncData} {k n : Nat} {ps : List Str} {fn : Fn} {x : Str} {e : Expr} {es : List Expr} {g : AF} {p pos : Pos} (c : Ctx G X W)
    (Fk : FnOk X.prog X.w G.K X.mg X.base (L2.CX X.prog X.w) k f fd ps (spF G n fn)) (hr : Room k X.A) (hg : Gl X x) (hm : X.mg x = some (.ref f)) (hk : PySem.W.keepIn G.K (.ref f) = true) (hb : Binds G.K fd ps [])
    (ha : DA G X W (e :: es) g) (hdb : (x == ("__debug__" : Str)) = false := by decide) (he : starEach (e :: es) X.env = (false, eval e X.env) :: starEach es X.env := by rfl) (hpl : (backTo pos (starEach es X.env)).any (·.1) = false := by rfl) :
    DE G X W (.Call (.Name x p) (e :: es) [] pos) (eCall n fn g) := by
  obtain ⟨t, q, s⟩ := ha.ex
  exact ⟨_, pe_callS (E := WE W) (by rw [c.K]; exact Fk) hr hg hm (by rw [c.K]; exact hk) (by rw [c.K]; exact hb) (fun σ => passAt c.tk σ) q hdb he hpl, snd_call s⟩
end
end Fx

namespace Fx
open PySem PySem.Spec PyProof.Rows L2

/-- a list (false) or a tuple (true) that is read at a -/
def SqX (K : PySem.W.Frag) (H : Hp) (k : Bool) (a : Addr) (xs : List V) : Prop := if k = true then SqT K H a xs else SqL K H a xs
/-- .. in the heap -/
def IsX (h : Heap) (k : Bool) (a : Addr) (its : Array Value) : Prop := if k = true then h.IsTuple a its else h.IsList a its
/-- its iterator -/
def ItX (h : Heap) (k : Bool) (it a : Addr) (i : Nat) : Prop := if k = true then h.IsTupleIter it a i else h.IsListIter it a i
def obX (k : Bool) (a : Addr) : Obj := if k = true then { cls := .type "tuple_iterator", data := .fields #[.ref a, .int 0 0] } else { cls := .type "list_iterator", data := .fields #[.ref a, .int 0 0] }
theorem drawsX {prog : Program} {w : World} {A : Around} (hh : A.handled = none) (k : Bool) (it a : Addr) (hne : a ≠ it) (items : Array Value) :
    Draws prog w A it [it, a] items.size (fun i v => items[i]? = some v) (fun i h => ItX h k it a i ∧ IsX h k a items) := by
  cases k with
  | true => exact Draws.tuple hh it a hne items
  | false => exact Draws.list hh it a hne items
theorem beginsX (k : Bool) (a : Addr) (items : Array Value) : Begins (.ref a) (obX k a) fun h => IsX h k a items := by
  cases k with
  | true => exact begins_tuple a items
  | false => exact begins_list a items
theorem ItX.of {h : Heap} {k : Bool} {it a : Addr} (e : h.get? it = some (obX k a)) : ItX h k it a 0 := by
  cases k with
  | true => exact ⟨_, e, rfl, rfl⟩
  | false => exact ⟨_, e, rfl, rfl⟩
theorem ItX.obj {h : Heap} {k : Bool} {it a : Addr} {i : Nat} (x : ItX h k it a i) : ∃ o, h.get? it = some o ∧ ∀ v, o.data ≠ .cell v := by
  cases k with
  | true => obtain ⟨o, e, _, d⟩ := (show h.IsTupleIter it a i from x); exact ⟨o, e, fun v z => by rw [d] at z; cases z⟩
  | false => obtain ⟨o, e, _, d⟩ := (show h.IsListIter it a i from x); exact ⟨o, e, fun v z => by rw [d] at z; cases z⟩
theorem ItX.at' {h h' : Heap} {k : Bool} {it a : Addr} {i : Nat} (x : ItX h k it a i) (kp : ∀ o, h.get? it = some o → h'.get? it = some o) : ItX h' k it a i := by
  cases k with
  | true => obtain ⟨o, e, c, d⟩ := (show h.IsTupleIter it a i from x); exact ⟨o, kp o e, c, d⟩
  | false => obtain ⟨o, e, c, d⟩ := (show h.IsListIter it a i from x); exact ⟨o, kp o e, c, d⟩
section
variable {X : Cx} {pins : List (Addr × Obj)} {σ : L2.St} {H : Hp} {s : Shared}
theorem Inv.sq (I : Inv X pins σ H s) {k : Bool} {a : Addr} {xs : List V} (h : SqX X.K H k a xs) : ∃ its : List Value, Vals xs its ∧ IsX s.heap k a its.toArray ∧ a < s.heap.objs.size := by
  cases k with
  | true =>
    obtain ⟨its, r, t, _⟩ := I.tuple h
    obtain ⟨o, e, _⟩ := id t
    exact ⟨its, r, t, Heap.lt_size e⟩
  | false =>
    obtain ⟨its, r, t, _⟩ := I.list h
    exact ⟨its, r, t.isList, t.lt⟩
theorem Inv.sq_inj (I : Inv X pins σ H s) {k : Bool} {a : Addr} {xs ys : List V} (h : SqX X.K H k a xs) (h' : SqX X.K H k a ys) : xs = ys := by
  cases k with
  | true => exact I.tuple_inj h h'
  | false => exact I.list_inj h h'
/-- a turn of a walk that hands out new tuples -/
theorem wt_item {A : Around} {z : Addr} {fp wr own : List Addr} {n i : Nat} {Pt : Nat → Array Value → Prop} {St : Nat → Heap → Prop} {Mid : Nat → Addr → Heap → Prop} {Rr : List V → Prop} {elts : List Expr} {kk : Nat} {tpos : Pos} {E : Value → Shared → Prop}
    {Qf : Value → Shared → Prop} (WT : WalksT X.prog X.w X.A z fp wr n Pt St Mid) (I : Inv X pins σ H s) (hf : ∀ b ∈ own, FpOk X pins H b) (hw : ∀ b ∈ wr, b ∈ own) (hi : i < n) (st : St i s.heap)
    (hv : ∀ vals, Pt i vals → ∃ xs, Vals xs vals.toList ∧ xs.length ≤ sizeLine ∧ Rr xs)
    (fin : ∀ T xs s2, Inv X pins σ (upd H T (.tup xs)) s2 → H T = none → s.heap.objs.size ≤ T → Rr xs → St (i + 1) s2.heap → Qf (.ref T) s2) :
    wpAny (model X.prog X.w) X.A (pyNext (.ref z)) (fun r s1 => ∃ u, r = some u ∧ wpAny (model X.prog X.w) X.A (letOwnedTupleGo (.Tuple elts kk tpos) (.ref z) u) (fun _ s2 => Qf u s2) E s1) E s := by
  refine WT.item i s _ E hi st fun T vals h' tk hP hT htup hmid hk => ⟨_, rfl, WT.go elts kk tpos i T { s with heap := h', toks := tk } _ E hmid fun h'' st'' hk2 => ?_⟩
  obtain ⟨xs, rv, hz, hR⟩ := hv vals hP
  have tw := WT.apart i T _ hmid
  obtain ⟨o, ho, hc, m, hd⟩ := htup
  have new : ObjOk X.prog X.w (upd H T (.tup xs)) h'' T (.tup xs) := ⟨hz, vals.toList, rv, ⟨o, hk2 T o tw ho, hc, m, by simpa using hd⟩⟩
  exact fin T xs _ (I.turnedNew (t' := tk) (ch := wr) (fun b ob hb q => hk2 b ob hb (hk b ob hb q)) (fun b hb => hf b (hw b hb)) hT new) (I.hok.fresh hT) hT hR st''
theorem wt_done {z : Addr} {fp wr own : List Addr} {n : Nat} {Pt : Nat → Array Value → Prop} {St : Nat → Heap → Prop} {Mid : Nat → Addr → Heap → Prop} {E : Value → Shared → Prop} (WT : WalksT X.prog X.w X.A z fp wr n Pt St Mid) (I : Inv X pins σ H s)
    (hf : ∀ b ∈ own, FpOk X pins H b) (hw : ∀ b ∈ wr, b ∈ own) (st : St n s.heap) : wpAny (model X.prog X.w) X.A (pyNext (.ref z)) (fun r s1 => r = none ∧ Inv X pins σ H s1) E s :=
  WT.done s _ E st fun h' tk hk => ⟨rfl, I.turnedL (t' := tk) (ch := wr) (fun b ob hb q => hk b ob hb q) fun b hb => hf b (hw b hb)⟩
end

theorem meets_enum1 {v : Value} {o : Obj} {H : Heap → Prop} (B : Begins v o H) :
    Meets (Builtin.«enumerate.__new__» ⟨[.type "enumerate", v], []⟩) (fun _ R s => H s.heap ∧
      R (.ok (.ret (.ref (s.heap.push o).objs.size))) { s with heap := (s.heap.push o).push { cls := .type "enumerate", data := .fields #[.none, .bool false, .ref s.heap.objs.size, rawInt 0, .none, .none] } }) :=
  .of_wp fun prog w A R s h => by
    obtain ⟨hp, g, d, tk, os⟩ := s; obtain ⟨h1, h⟩ := h
    have hsub := sub_enumerate
    have q1 : ∀ {A' : Around} {E : Value → Shared → Prop} {Q : Value → Shared → Prop}, Q (.ref hp.objs.size) ⟨hp.push o, g, d, tk, os⟩ → wpAny (model prog w) A' (pyIter v) Q E ⟨hp, g, d, tk, os⟩ :=
      fun q => B.iter prog w _ _ ⟨hp, g, d, tk, os⟩ _ h1 q
    wp_walk using q1
    refine wpAny_stack_any fun st => wpAny_pure ?_
    split
    · rename_i c _ _ _ _ _
      cases (c == Value.type "enumerate")
      · wp_walk using q1
        exact ⟨_, rfl, h⟩
      · wp_walk using q1
        exact ⟨_, rfl, h⟩
    · wp_walk using q1
      exact ⟨_, rfl, h⟩
theorem enum_begins1 {prog : Program} {w : World} {A : Around} {E : Value → Shared → Prop} {s : Shared} {v : Value} {o : Obj} {H : Heap → Prop} {Q : Value → Shared → Prop} (B : Begins v o H) (h1 : H s.heap)
    (h : ∀ h', IsEnum h' (s.heap.objs.size + 1) s.heap.objs.size 0 .none → h'.get? s.heap.objs.size = some o → h'.objs.size = s.heap.objs.size + 2 →
      (∀ b o, s.heap.get? b = some o → h'.get? b = some o) → Q (.ref (s.heap.objs.size + 1)) { s with heap := h' }) :
    wpAny (model prog w) A (call (.type "enumerate") [v]) Q E s := by
  refine callType_new F.called_enumerate (by decide) (F.typeCall_enumerate_1 _) (F.newCall_enumerate_1 _) (fun obj => F.args_object_init_2 obj _) F.entry_enumerate_new
    (meets_enum1 B) ⟨h1, ?_⟩
  have hz : (s.heap.push o).objs.size = s.heap.objs.size + 1 := Heap.size_push ..
  show _ ∧ _
  rw [hz]
  have he : IsEnum ((s.heap.push o).push { cls := .type "enumerate", data := .fields #[.none, .bool false, .ref s.heap.objs.size, rawInt 0, .none, .none] }) (s.heap.objs.size + 1) s.heap.objs.size 0 .none := by
    have := Heap.get?_push_size (s.heap.push o) (o := { cls := .type "enumerate", data := .fields #[.none, .bool false, .ref s.heap.objs.size, rawInt 0, .none, .none] }) rfl
    rw [hz] at this; exact this
  refine ⟨⟨_, he, rfl⟩, h _ he (Heap.get?_push_of_some _ (Heap.get?_push_size _ B.free)) (by rw [Heap.size_push, hz]) fun b o x => Heap.get?_push_of_some _ (Heap.get?_push_of_some _ x)⟩

def ItE (K : PySem.W.Frag) (k : Bool) (a : Addr) : It :=
  ⟨fun i H => ∃ (xs : List V) (x : V), SqX K H k a xs ∧ xs[i]? = some x, fun i H v H' => ∃ T x, v = .ref T ∧ H T = none ∧ H' = upd H T (.tup [.int (i : Nat), x]) ∧ ∀ xs, SqX K H k a xs → xs[i]? = some x, fun i H => ∃ xs : List V, SqX K H k a xs ∧ xs.length = i⟩
theorem turn_enumX {P : Program} {w : World} {K : PySem.W.Frag} {elts : List Expr} {kk : Nat} {tpos : Pos} {k : Bool} {a e it : Addr} (hne : e ≠ it) (hea : e ≠ a) (hia : a ≠ it) :
    Turn P w K (.Tuple elts kk tpos) (ItE K k a) [e, it] e (fun i h => (∃ old, IsEnum h e it (0 + ((i : Nat) : Int)) old) ∧ ItX h k it a i) where
  mem := by simp
  obj := fun i h st b hb => by
    obtain ⟨⟨old, he⟩, hi⟩ := st
    have e' : b = e ∨ b = it := by simpa using hb
    rcases e' with z | z
    · rw [z]; exact ⟨_, he, fun v q => nomatch q⟩
    · rw [z]; exact hi.obj
  keep := fun i h h' st kp => let ⟨⟨old, he⟩, hi⟩ := st; ⟨⟨old, kp e (by simp) _ he⟩, hi.at' fun o q => kp it (by simp) o q⟩
  item := by
    intro X hP hw hK hc i pins s σ H E I hf st hg
    subst hP hw hK
    obtain ⟨he, hit⟩ := st
    obtain ⟨xs, x, hq, hx⟩ := hg
    obtain ⟨its, rv, p, hl⟩ := Inv.sq I hq
    have D := drawsX (prog := X.prog) (w := X.w) (A := X.A.in1) (by exact I.ok.hd hc) k it a hia its.toArray
    have WT := WalksT.enumFrom 0 D e hne (by simp [hne, hea]) (by simp)
    have hi : i < its.toArray.size := by
      have := (List.getElem?_eq_some_iff.mp hx).1
      rw [List.size_toArray, ← rv.length]; exact this
    refine wt_item (A := X.A) (own := [e, it]) (Rr := fun ys => ys = [.int (i : Nat), x]) WT I hf (fun b hb => hb) hi ⟨he, hit, p⟩ (fun vals hv => ?_) fun T ys s2 I2 hT hT2 hR st2 => ?_
    · obtain ⟨t, u, hu, rfl⟩ := hv
      obtain ⟨u', hu', ru⟩ := rv.get hx
      have : u' = u := by
        rw [List.getElem?_toArray] at hu
        rw [hu] at hu'; exact (Option.some.inj hu').symm
      subst this
      refine ⟨[.int (i : Nat), x], .cons ⟨t, by rw [Int.zero_add]⟩ (.cons ru .nil), by show 2 ≤ sizeLine; decide, rfl⟩
    · subst hR
      refine ⟨.ref T, _, I2, rfl, ⟨T, x, rfl, hT, rfl, fun ys hy => by rw [Inv.sq_inj I hy hq]; exact hx⟩, ⟨st2.1, st2.2.1⟩, fun b hb => ?_⟩
      have hb' : b < s.heap.objs.size := by
        have e' : b = e ∨ b = it := by simpa using hb
        rcases e' with z | z
        · rw [z]; obtain ⟨old, he⟩ := he; exact Heap.lt_size he
        · rw [z]; obtain ⟨o, q, _⟩ := hit.obj; exact Heap.lt_size q
      rw [upd_ne (Nat.ne_of_lt (Nat.lt_of_lt_of_le hb' hT2))]
      exact (hf b hb).1
  done := by
    intro X hP hw hK hc i pins s σ H E I hf st hg
    subst hP hw hK
    obtain ⟨he, hit⟩ := st
    obtain ⟨xs, hq, hx⟩ := hg
    obtain ⟨its, rv, p, hl⟩ := Inv.sq I hq
    have D := drawsX (prog := X.prog) (w := X.w) (A := X.A.in1) (by exact I.ok.hd hc) k it a hia its.toArray
    have WT := WalksT.enumFrom 0 D e hne (by simp [hne, hea]) (by simp)
    have hz : its.toArray.size = i := by rw [List.size_toArray, ← rv.length]; exact hx
    refine wt_done (own := [e, it]) WT I hf (fun b hb => hb) ?_
    rw [hz]
    exact ⟨he, hit, p⟩
  self := fun A i s Q E st h => let ⟨⟨_, he⟩, _⟩ := st; wpAny_pyIter_enum he h
def iEnumX (K : PySem.W.Frag) (ta : TA) : TI := fun σ H R => ta σ H fun vs H1 => ∃ k a xs, vs = [.ref a] ∧ SqX K H1 k a xs ∧ R (ItE K k a) H1
theorem pi_enumX {X : Cx} {e : Expr} {ta : TA} {p pos tpos : Pos} {elts : List Expr} {kk : Nat} (hg : Gl X "enumerate") (hm : X.mg "enumerate" = none) (ha : PA X [e] ta) (hs : starEach [e] X.env = [(false, eval e X.env)] := by rfl) :
    PI X (.Tuple elts kk tpos) (.Call (.Name "enumerate" p) [e] [] pos) (iEnumX X.K ta) := by
  refine ⟨fun pins s σ H R I h => ?_⟩
  refine Call_ (ld_blt I hg hm boot_enumerate (PyProof.Rows.callWith_type1 (thn (ha.run pos pins s σ H _ I h) fun us s1 ⟨vs, H1, I1, r1, q1⟩ => ?_) hs rfl))
  obtain ⟨k, a, xs, ex, hq, q⟩ := q1
  subst ex
  cases r1 with
  | cons r rr =>
    cases rr
    cases r
    obtain ⟨its, rv, p', hl⟩ := Inv.sq I1 hq
    refine enum_begins1 (beginsX k a its.toArray) p' fun h' he hit hsz hk => wpAny_pyIter_enum he ?_
    have I2 : Inv X pins σ H1 { s1 with heap := h' } := I1.kept (t' := s1.toks) hk
    refine ⟨s1.heap.objs.size + 1, [s1.heap.objs.size + 1, s1.heap.objs.size], _, _, H1, rfl, I2, turn_enumX (k := k) (a := a) (it := s1.heap.objs.size) (Nat.succ_ne_self _) (by show s1.heap.objs.size + 1 ≠ a; exact Nat.ne_of_gt (Nat.lt_succ_of_lt hl)) (Nat.ne_of_lt hl), ⟨⟨.none, by simpa using he⟩, ItX.of hit⟩, fun b hb => ?_, q⟩
    have e' : b = s1.heap.objs.size + 1 ∨ b = s1.heap.objs.size := by simpa using hb
    have hle : s1.heap.objs.size ≤ b := by
      rcases e' with z | z
      · rw [z]; exact Nat.le_add_right _ _
      · rw [z]; exact Nat.le_refl _
    exact I1.fpOk hle (I1.hok.fresh hle)

def ItZ (K : PySem.W.Frag) (k l : Bool) (a b : Addr) : It :=
  ⟨fun i H => ∃ (xs ys : List V) (x y : V), SqX K H k a xs ∧ SqX K H l b ys ∧ xs[i]? = some x ∧ ys[i]? = some y,
    fun i H v H' => ∃ T x y, v = .ref T ∧ H T = none ∧ H' = upd H T (.tup [x, y]) ∧ (∀ xs, SqX K H k a xs → xs[i]? = some x) ∧ ∀ ys, SqX K H l b ys → ys[i]? = some y,
    fun i H => ∃ xs ys : List V, SqX K H k a xs ∧ SqX K H l b ys ∧ min xs.length ys.length = i⟩
theorem turn_zipX {P : Program} {w : World} {K : PySem.W.Frag} {elts : List Expr} {kk : Nat} {tpos : Pos} {k l : Bool} {a b z TI TO i1 i2 : Addr} (S : ZipSep2 z TI TO i1 i2 [i1, a] [i2, b]) (ha : a ≠ i1) (hb : b ≠ i2) :
    Turn P w K (.Tuple elts kk tpos) (ItZ K k l a b) [z, TI, TO, i1, i2] z (fun i h => IsZip h z TI TO .none ∧ IsTupOf2 h TI (.ref i1) (.ref i2) ∧ (∃ x y, IsTupOf2 h TO x y) ∧ ItX h k i1 a i ∧ ItX h l i2 b i) where
  mem := by simp
  obj := fun i h st c hc => by
    obtain ⟨hz, hTI, ⟨x, y, hTO⟩, h1, h2⟩ := st
    have e' : c = z ∨ c = TI ∨ c = TO ∨ c = i1 ∨ c = i2 := by simpa using hc
    rcases e' with q | q | q | q | q
    · rw [q]; exact ⟨_, hz, fun v q => nomatch q⟩
    · rw [q]; exact ⟨_, hTI, fun v q => nomatch q⟩
    · rw [q]; exact ⟨_, hTO, fun v q => nomatch q⟩
    · rw [q]; exact h1.obj
    · rw [q]; exact h2.obj
  keep := fun i h h' st kp => by
    obtain ⟨hz, hTI, ⟨x, y, hTO⟩, h1, h2⟩ := st
    exact ⟨kp z (by simp) _ hz, kp TI (by simp) _ hTI, ⟨x, y, kp TO (by simp) _ hTO⟩, h1.at' fun o q => kp i1 (by simp) o q, h2.at' fun o q => kp i2 (by simp) o q⟩
  item := by
    intro X hP hw hK hc i pins s σ H E I hf st hg
    subst hP hw hK
    obtain ⟨hz, hTI, hTO, h1, h2⟩ := st
    obtain ⟨xs, ys, x, y, hqx, hqy, hx, hy⟩ := hg
    obtain ⟨its, rv, p, _⟩ := Inv.sq I hqx
    obtain ⟨its2, rv2, p2, _⟩ := Inv.sq I hqy
    have D1 := drawsX (prog := X.prog) (w := X.w) (A := X.A.in1) (by exact I.ok.hd hc) k i1 a ha its.toArray
    have D2 := drawsX (prog := X.prog) (w := X.w) (A := X.A.in1) (by exact I.ok.hd hc) l i2 b hb its2.toArray
    have WT := WalksT.zipD2 S D1 D2
    have hi : i < min its.toArray.size its2.toArray.size := by
      have e1 := (List.getElem?_eq_some_iff.mp hx).1
      have e2 := (List.getElem?_eq_some_iff.mp hy).1
      rw [List.size_toArray, List.size_toArray, ← rv.length, ← rv2.length]
      omega
    refine wt_item (A := X.A) (own := [z, TI, TO, i1, i2]) (Rr := fun zs => zs = [x, y]) WT I hf (fun c hc' => by simp at hc' ⊢; rcases hc' with q | q | q | q <;> simp [q]) hi ⟨hz, hTI, hTO, ⟨h1, p⟩, ⟨h2, p2⟩⟩ (fun vals hv => ?_) fun T zs s2 I2 hT hT2 hR st2 => ?_
    · obtain ⟨u, u2, hu, hu2, rfl⟩ := hv
      obtain ⟨v, hv', r1⟩ := rv.get hx
      obtain ⟨v2, hv2', r2⟩ := rv2.get hy
      have e1 : v = u := by rw [List.getElem?_toArray] at hu; rw [hu] at hv'; exact (Option.some.inj hv').symm
      have e2 : v2 = u2 := by rw [List.getElem?_toArray] at hu2; rw [hu2] at hv2'; exact (Option.some.inj hv2').symm
      subst e1 e2
      exact ⟨[x, y], .cons r1 (.cons r2 .nil), by show 2 ≤ sizeLine; decide, rfl⟩
    · subst hR
      obtain ⟨z1, z2, z3, z4, z5⟩ := st2
      refine ⟨.ref T, _, I2, rfl, ⟨T, x, y, rfl, hT, rfl, fun l' hl => by rw [Inv.sq_inj I hl hqx]; exact hx, fun l' hl => by rw [Inv.sq_inj I hl hqy]; exact hy⟩, ⟨z1, z2, z3, z4.1, z5.1⟩, fun c hcm => ?_⟩
      have hlt : c < s.heap.objs.size := by
        have e' : c = z ∨ c = TI ∨ c = TO ∨ c = i1 ∨ c = i2 := by simpa using hcm
        rcases e' with q | q | q | q | q
        · rw [q]; exact Heap.lt_size hz
        · rw [q]; exact Heap.lt_size hTI
        · rw [q]; obtain ⟨_, _, hTO⟩ := hTO; exact Heap.lt_size hTO
        · rw [q]; obtain ⟨_, e1, _⟩ := h1.obj; exact Heap.lt_size e1
        · rw [q]; obtain ⟨_, e2, _⟩ := h2.obj; exact Heap.lt_size e2
      rw [upd_ne (Nat.ne_of_lt (Nat.lt_of_lt_of_le hlt hT2))]
      exact (hf c hcm).1
  done := by
    intro X hP hw hK hc i pins s σ H E I hf st hg
    subst hP hw hK
    obtain ⟨hz, hTI, hTO, h1, h2⟩ := st
    obtain ⟨xs, ys, hqx, hqy, hi⟩ := hg
    obtain ⟨its, rv, p, _⟩ := Inv.sq I hqx
    obtain ⟨its2, rv2, p2, _⟩ := Inv.sq I hqy
    have D1 := drawsX (prog := X.prog) (w := X.w) (A := X.A.in1) (by exact I.ok.hd hc) k i1 a ha its.toArray
    have D2 := drawsX (prog := X.prog) (w := X.w) (A := X.A.in1) (by exact I.ok.hd hc) l i2 b hb its2.toArray
    have WT := WalksT.zipD2 S D1 D2
    have e : min its.toArray.size its2.toArray.size = i := by rw [List.size_toArray, List.size_toArray, ← rv.length, ← rv2.length]; exact hi
    refine wt_done (own := [z, TI, TO, i1, i2]) WT I hf (fun c hc' => by simp at hc' ⊢; rcases hc' with q | q | q | q <;> simp [q]) ?_
    rw [e]
    exact ⟨hz, hTI, hTO, ⟨h1, p⟩, ⟨h2, p2⟩⟩
  self := fun A i s Q E st h => wpAny_pyIter_zip st.1 h
def iZipX (K : PySem.W.Frag) (ta : TA) : TI := fun σ H R => ta σ H fun vs H1 => ∃ k l a b xs ys, vs = [.ref a, .ref b] ∧ SqX K H1 k a xs ∧ SqX K H1 l b ys ∧ R (ItZ K k l a b) H1
theorem pi_zipX {X : Cx} {e e2 : Expr} {ta : TA} {p pos tpos : Pos} {elts : List Expr} {kk : Nat} (hg : Gl X "zip") (hm : X.mg "zip" = none) (ha : PA X [e, e2] ta)
    (hs : starEach [e, e2] X.env = (false, eval e X.env) :: starEach [e2] X.env := by rfl) (hpl : (backTo pos (starEach [e2] X.env)).any (·.1) = false := by rfl) :
    PI X (.Tuple elts kk tpos) (.Call (.Name "zip" p) [e, e2] [] pos) (iZipX X.K ta) := by
  refine ⟨fun pins s σ H R I h => ?_⟩
  refine Call_ (ld_blt I hg hm PyProof.Rows.boot_zip (PyProof.Rows.callWith_type1 (thn (ha.run pos pins s σ H _ I h) fun us s1 ⟨vs, H1, I1, r1, q1⟩ => ?_) hs hpl))
  obtain ⟨k, l, a, b, xs, ys, ex, hqx, hqy, q⟩ := q1
  subst ex
  cases r1 with
  | cons r rr =>
    cases rr with
    | cons r' rr =>
      cases rr
      cases r
      cases r'
      obtain ⟨its, rv, p1, la⟩ := Inv.sq I1 hqx
      obtain ⟨its2, rv2, p2, lb⟩ := Inv.sq I1 hqy
      refine zip_begins2 (beginsX k a its.toArray) (beginsX l b its2.toArray) p1 p2 fun h' hz hTI hTO h1 h2 hsz hk => wpAny_pyIter_zip hz ?_
      have I2 : Inv X pins σ H1 { s1 with heap := h' } := I1.kept (t' := s1.toks) hk
      refine ⟨s1.heap.objs.size + 4, [s1.heap.objs.size + 4, s1.heap.objs.size + 2, s1.heap.objs.size + 3, s1.heap.objs.size, s1.heap.objs.size + 1], _, _, H1, rfl, I2, turn_zipX (k := k) (l := l) (zip_sep2 (fun c hc => by simp at hc; rw [hc]; exact la) (fun c hc => by simp at hc; rw [hc]; exact lb)) (Nat.ne_of_lt la) (Nat.ne_of_lt (Nat.lt_succ_of_lt lb)), ⟨hz, hTI, ⟨_, _, hTO⟩, ItX.of h1, ItX.of h2⟩, fun c hcm => ?_, q⟩
      have e' : c = s1.heap.objs.size + 4 ∨ c = s1.heap.objs.size + 2 ∨ c = s1.heap.objs.size + 3 ∨ c = s1.heap.objs.size ∨ c = s1.heap.objs.size + 1 := by simpa using hcm
      have hle : s1.heap.objs.size ≤ c := by
        rcases e' with z | z | z | z | z
        · rw [z]; exact Nat.le_add_right _ _
        · rw [z]; exact Nat.le_add_right _ _
        · rw [z]; exact Nat.le_add_right _ _
        · rw [z]; exact Nat.le_refl _
        · rw [z]; exact Nat.le_add_right _ _
      exact I1.fpOk hle (I1.hok.fresh hle)

def ItZ3 (K : PySem.W.Frag) (k l m : Bool) (a b c : Addr) : It :=
  ⟨fun i H => ∃ (xs ys zs : List V) (x y u : V), SqX K H k a xs ∧ SqX K H l b ys ∧ SqX K H m c zs ∧ xs[i]? = some x ∧ ys[i]? = some y ∧ zs[i]? = some u,
    fun i H v H' => ∃ T x y u, v = .ref T ∧ H T = none ∧ H' = upd H T (.tup [x, y, u]) ∧ (∀ xs, SqX K H k a xs → xs[i]? = some x) ∧ (∀ ys, SqX K H l b ys → ys[i]? = some y) ∧ ∀ zs, SqX K H m c zs → zs[i]? = some u,
    fun i H => ∃ xs ys zs : List V, SqX K H k a xs ∧ SqX K H l b ys ∧ SqX K H m c zs ∧ min (min xs.length ys.length) zs.length = i⟩
theorem turn_zipX3 {P : Program} {w : World} {K : PySem.W.Frag} {elts : List Expr} {kk : Nat} {tpos : Pos} {k l m : Bool} {a b c z TI TO i1 i2 i3 : Addr} (S : ZipSep3 z TI TO i1 i2 i3 [i1, a] [i2, b] [i3, c]) (ha : a ≠ i1) (hb : b ≠ i2) (hc' : c ≠ i3) :
    Turn P w K (.Tuple elts kk tpos) (ItZ3 K k l m a b c) [z, TI, TO, i1, i2, i3] z (fun i h => IsZip h z TI TO .none ∧ IsTupOf3 h TI (.ref i1) (.ref i2) (.ref i3) ∧ (∃ x y u, IsTupOf3 h TO x y u) ∧ ItX h k i1 a i ∧ ItX h l i2 b i ∧ ItX h m i3 c i) where
  mem := by simp
  obj := fun i h st d hd => by
    obtain ⟨hz, hTI, ⟨x, y, u, hTO⟩, h1, h2, h3⟩ := st
    have e' : d = z ∨ d = TI ∨ d = TO ∨ d = i1 ∨ d = i2 ∨ d = i3 := by simpa using hd
    rcases e' with q | q | q | q | q | q
    · rw [q]; exact ⟨_, hz, fun v q => nomatch q⟩
    · rw [q]; exact ⟨_, hTI, fun v q => nomatch q⟩
    · rw [q]; exact ⟨_, hTO, fun v q => nomatch q⟩
    · rw [q]; exact h1.obj
    · rw [q]; exact h2.obj
    · rw [q]; exact h3.obj
  keep := fun i h h' st kp => by
    obtain ⟨hz, hTI, ⟨x, y, u, hTO⟩, h1, h2, h3⟩ := st
    exact ⟨kp z (by simp) _ hz, kp TI (by simp) _ hTI, ⟨x, y, u, kp TO (by simp) _ hTO⟩, h1.at' fun o q => kp i1 (by simp) o q, h2.at' fun o q => kp i2 (by simp) o q, h3.at' fun o q => kp i3 (by simp) o q⟩
  item := by
    intro X hP hw hK hc i pins s σ H E I hf st hg
    subst hP hw hK
    obtain ⟨hz, hTI, hTO, h1, h2, h3⟩ := st
    obtain ⟨xs, ys, zs, x, y, v, hqx, hqy, hqz, hx, hy, hv⟩ := hg
    obtain ⟨its, rv, p, _⟩ := Inv.sq I hqx
    obtain ⟨its2, rv2, p2, _⟩ := Inv.sq I hqy
    obtain ⟨its3, rv3, p3, _⟩ := Inv.sq I hqz
    have D1 := drawsX (prog := X.prog) (w := X.w) (A := X.A.in1) (by exact I.ok.hd hc) k i1 a ha its.toArray
    have D2 := drawsX (prog := X.prog) (w := X.w) (A := X.A.in1) (by exact I.ok.hd hc) l i2 b hb its2.toArray
    have D3 := drawsX (prog := X.prog) (w := X.w) (A := X.A.in1) (by exact I.ok.hd hc) m i3 c hc' its3.toArray
    have WT := WalksT.zipD3 S D1 D2 D3
    have hi : i < min (min its.toArray.size its2.toArray.size) its3.toArray.size := by
      have e1 := (List.getElem?_eq_some_iff.mp hx).1
      have e2 := (List.getElem?_eq_some_iff.mp hy).1
      have e3 := (List.getElem?_eq_some_iff.mp hv).1
      rw [List.size_toArray, List.size_toArray, List.size_toArray, ← rv.length, ← rv2.length, ← rv3.length]
      omega
    refine wt_item (A := X.A) (own := [z, TI, TO, i1, i2, i3]) (Rr := fun zs => zs = [x, y, v]) WT I hf (fun c hc' => by simp at hc' ⊢; rcases hc' with q | q | q | q | q <;> simp [q]) hi ⟨hz, hTI, hTO, ⟨h1, p⟩, ⟨h2, p2⟩, ⟨h3, p3⟩⟩ (fun vals hv' => ?_) fun T zs' s2 I2 hT hT2 hR st2 => ?_
    · obtain ⟨u, u2, u3, hu, hu2, hu3, rfl⟩ := hv'
      obtain ⟨w1, hv1', r1⟩ := rv.get hx
      obtain ⟨w2, hv2', r2⟩ := rv2.get hy
      obtain ⟨w3, hv3', r3⟩ := rv3.get hv
      have e1 : w1 = u := by rw [List.getElem?_toArray] at hu; rw [hu] at hv1'; exact (Option.some.inj hv1').symm
      have e2 : w2 = u2 := by rw [List.getElem?_toArray] at hu2; rw [hu2] at hv2'; exact (Option.some.inj hv2').symm
      have e3 : w3 = u3 := by rw [List.getElem?_toArray] at hu3; rw [hu3] at hv3'; exact (Option.some.inj hv3').symm
      subst e1 e2 e3
      exact ⟨[x, y, v], .cons r1 (.cons r2 (.cons r3 .nil)), by show 3 ≤ sizeLine; decide, rfl⟩
    · subst hR
      obtain ⟨z1, z2, z3, z4, z5, z6⟩ := st2
      refine ⟨.ref T, _, I2, rfl, ⟨T, x, y, v, rfl, hT, rfl, fun l' hl => by rw [Inv.sq_inj I hl hqx]; exact hx, fun l' hl => by rw [Inv.sq_inj I hl hqy]; exact hy, fun l' hl => by rw [Inv.sq_inj I hl hqz]; exact hv⟩, ⟨z1, z2, z3, z4.1, z5.1, z6.1⟩, fun d hcm => ?_⟩
      have hlt : d < s.heap.objs.size := by
        have e' : d = z ∨ d = TI ∨ d = TO ∨ d = i1 ∨ d = i2 ∨ d = i3 := by simpa using hcm
        rcases e' with q | q | q | q | q | q
        · rw [q]; exact Heap.lt_size hz
        · rw [q]; exact Heap.lt_size hTI
        · rw [q]; obtain ⟨_, _, _, hTO⟩ := hTO; exact Heap.lt_size hTO
        · rw [q]; obtain ⟨_, e1, _⟩ := h1.obj; exact Heap.lt_size e1
        · rw [q]; obtain ⟨_, e2, _⟩ := h2.obj; exact Heap.lt_size e2
        · rw [q]; obtain ⟨_, e3, _⟩ := h3.obj; exact Heap.lt_size e3
      rw [upd_ne (Nat.ne_of_lt (Nat.lt_of_lt_of_le hlt hT2))]
      exact (hf d hcm).1
  done := by
    intro X hP hw hK hc i pins s σ H E I hf st hg
    subst hP hw hK
    obtain ⟨hz, hTI, hTO, h1, h2, h3⟩ := st
    obtain ⟨xs, ys, zs, hqx, hqy, hqz, hi⟩ := hg
    obtain ⟨its, rv, p, _⟩ := Inv.sq I hqx
    obtain ⟨its2, rv2, p2, _⟩ := Inv.sq I hqy
    obtain ⟨its3, rv3, p3, _⟩ := Inv.sq I hqz
    have D1 := drawsX (prog := X.prog) (w := X.w) (A := X.A.in1) (by exact I.ok.hd hc) k i1 a ha its.toArray
    have D2 := drawsX (prog := X.prog) (w := X.w) (A := X.A.in1) (by exact I.ok.hd hc) l i2 b hb its2.toArray
    have D3 := drawsX (prog := X.prog) (w := X.w) (A := X.A.in1) (by exact I.ok.hd hc) m i3 c hc' its3.toArray
    have WT := WalksT.zipD3 S D1 D2 D3
    have e : min (min its.toArray.size its2.toArray.size) its3.toArray.size = i := by rw [List.size_toArray, List.size_toArray, List.size_toArray, ← rv.length, ← rv2.length, ← rv3.length]; exact hi
    refine wt_done (own := [z, TI, TO, i1, i2, i3]) WT I hf (fun c hc' => by simp at hc' ⊢; rcases hc' with q | q | q | q | q <;> simp [q]) ?_
    rw [e]
    exact ⟨hz, hTI, hTO, ⟨h1, p⟩, ⟨h2, p2⟩, ⟨h3, p3⟩⟩
  self := fun A i s Q E st h => wpAny_pyIter_zip st.1 h
def iZipX3 (K : PySem.W.Frag) (ta : TA) : TI := fun σ H R => ta σ H fun vs H1 => ∃ k l m a b c xs ys zs, vs = [.ref a, .ref b, .ref c] ∧ SqX K H1 k a xs ∧ SqX K H1 l b ys ∧ SqX K H1 m c zs ∧ R (ItZ3 K k l m a b c) H1
theorem pi_zipX3 {X : Cx} {e e2 e3 : Expr} {ta : TA} {p pos tpos : Pos} {elts : List Expr} {kk : Nat} (hg : Gl X "zip") (hm : X.mg "zip" = none) (ha : PA X [e, e2, e3] ta)
    (hs : starEach [e, e2, e3] X.env = (false, eval e X.env) :: starEach [e2, e3] X.env := by rfl) (hpl : (backTo pos (starEach [e2, e3] X.env)).any (·.1) = false := by rfl) :
    PI X (.Tuple elts kk tpos) (.Call (.Name "zip" p) [e, e2, e3] [] pos) (iZipX3 X.K ta) := by
  refine ⟨fun pins s σ H R I h => ?_⟩
  refine Call_ (ld_blt I hg hm PyProof.Rows.boot_zip (PyProof.Rows.callWith_type1 (thn (ha.run pos pins s σ H _ I h) fun us s1 ⟨vs, H1, I1, r1, q1⟩ => ?_) hs hpl))
  obtain ⟨k, l, m, a, b, c, xs, ys, zs, ex, hqx, hqy, hqz, q⟩ := q1
  subst ex
  cases r1 with
  | cons r rr =>
    cases rr with
    | cons r' rr =>
      cases rr with
      | cons r'' rr =>
      cases rr
      cases r
      cases r'
      cases r''
      obtain ⟨its, rv, p1, la⟩ := Inv.sq I1 hqx
      obtain ⟨its2, rv2, p2, lb⟩ := Inv.sq I1 hqy
      obtain ⟨its3, rv3, p3, lc⟩ := Inv.sq I1 hqz
      refine zip_begins3 (beginsX k a its.toArray) (beginsX l b its2.toArray) (beginsX m c its3.toArray) p1 p2 p3 fun h' hz hTI hTO h1 h2 h3 hsz hk => wpAny_pyIter_zip hz ?_
      have I2 : Inv X pins σ H1 { s1 with heap := h' } := I1.kept (t' := s1.toks) hk
      refine ⟨s1.heap.objs.size + 5, [s1.heap.objs.size + 5, s1.heap.objs.size + 3, s1.heap.objs.size + 4, s1.heap.objs.size, s1.heap.objs.size + 1, s1.heap.objs.size + 2], _, _, H1, rfl, I2, turn_zipX3 (k := k) (l := l) (m := m) (zip_sep3 (fun c hc => by simp at hc; rw [hc]; exact la) (fun c hc => by simp at hc; rw [hc]; exact lb) (fun c hc => by simp at hc; rw [hc]; exact lc)) (Nat.ne_of_lt la) (Nat.ne_of_lt (Nat.lt_succ_of_lt lb)) (Nat.ne_of_lt (Nat.lt_succ_of_lt (Nat.lt_succ_of_lt lc))), ⟨hz, hTI, ⟨_, _, _, hTO⟩, ItX.of h1, ItX.of h2, ItX.of h3⟩, fun c hcm => ?_, q⟩
      have e' : c = s1.heap.objs.size + 5 ∨ c = s1.heap.objs.size + 3 ∨ c = s1.heap.objs.size + 4 ∨ c = s1.heap.objs.size ∨ c = s1.heap.objs.size + 1 ∨ c = s1.heap.objs.size + 2 := by simpa using hcm
      have hle : s1.heap.objs.size ≤ c := by
        rcases e' with z | z | z | z | z | z
        · rw [z]; exact Nat.le_add_right _ _
        · rw [z]; exact Nat.le_add_right _ _
        · rw [z]; exact Nat.le_add_right _ _
        · rw [z]; exact Nat.le_refl _
        · rw [z]; exact Nat.le_add_right _ _
        · rw [z]; exact Nat.le_add_right _ _
      exact I1.fpOk hle (I1.hok.fresh hle)
end Fx

namespace Fx
open PySem PySem.Spec PyProof.Rows L2

section
variable {G : Gc} {α β : Type} {R : RT α β} {W : WX} {σ : L2.St} {F as : List Addr} {S : Sto} {H : Hp} {Q : β → Hp → Prop}
theorem Post.live {d : α} {b : β} {p : Addr} {u : HO} {o : Ob} (h : Post G R W σ F as S H (.ok d (S ++ [o])) Q) (hr : HR G F as S H) (hp : H p = none) (ok : ∀ H', (∀ b x, H b = some x → H' b = some x) → H' p = some u → RepO G F (as ++ [p]) H' p o)
    (r : R F (as ++ [p]) (upd H p u) d b) : Q b (upd H p u) := h b F _ _ (Nxt.made hr hp u o ok) r
theorem Post.wrote {d : α} {b : β} {n : Nat} {p : Addr} {u : HO} {o o' : Ob} (h : Post G R W σ F as S H (.ok d (S.set n o')) Q) (hr : HR G F as S H) (ha : as[n]? = some p) (hs : S[n]? = some o) (hl : o ≠ .gone) (hl' : o' ≠ .gone)
    (ok : ∀ H', (∀ b x, b ≠ p → H b = some x → H' b = some x) → H' p = some u → RepO G F as H' p o') (r : R F as (upd H p u) d b) : Q b (upd H p u) := h b F _ _ (Nxt.wrote hr u ha hs hl hl' ok) r
/-- what else stands keeps standing where p alone changes -/
theorem kp_but (hr : HR G F as S H) {n : Nat} {p : Addr} {o : Ob} (ha : as[n]? = some p) (hs : S[n]? = some o) (hl : o ≠ .gone) {H' : Hp} (k : ∀ b x, b ≠ p → H b = some x → H' b = some x) : Kp F as F as H H' :=
  ⟨fun _ h => h, fun a h x e => k a x (fun z => hr.apart p ⟨n, o, ha, hs, hl⟩ (z ▸ h)) e, fun _ _ e => e⟩
theorem kp_more {p : Addr} {H' : Hp} (k : ∀ b x, H b = some x → H' b = some x) : Kp F as F (as ++ [p]) H H' :=
  ⟨fun _ h => h, fun a h x e => k a x e, fun n a e => by rw [List.getElem?_append_left (List.getElem?_eq_some_iff.mp e).1]; exact e⟩
theorem Rep.refNew (hr : HR G F as S H) {p : Addr} {H' : Hp} : Rep G F (as ++ [p]) H' (.ref S.length) (.ref p) := by
  simp only [Rep]
  exact ⟨p, rfl, by rw [← hr.len]; simp⟩
end

def small (n : Nat) : Bool := decide (n ≤ sizeLine)
theorem small_le {n : Nat} (h : small n = true) : n ≤ sizeLine := of_decide_eq_true h
def eTup (g : AF) : EF := fun σ S => (g σ S).bind fun ds S1 => .guard (small ds.length) (.ok (.tup ds) S1)
/-- a list that is never changed; one that may be -/
def eLst (g : AF) : EF := fun σ S => (g σ S).bind fun ds S1 => .guard (small ds.length) (.ok (.lst ds) S1)
def eLstM (g : AF) : EF := fun σ S => (g σ S).bind fun ds S1 => .guard (small ds.length) (.ok (.ref S1.length) (S1 ++ [.lst ds]))
section
variable {G : Gc} {X : Cx} {W : WX}
theorem de_tup {es : List Expr} {g : AF} {k : Nat} {pos : Pos} (h : DA G X W es g) : DE G X W (.Tuple es k pos) (eTup g) := by
  obtain ⟨t, p, s⟩ := h.ex
  refine ⟨_, pe_tup p, fun F as S H σd σ Q hr hs hp => s F as S H σd σ _ hr hs (hp.bind fun ds S1 vs F1 as1 H1 _ n1 r1 h1 => ?_)⟩
  obtain ⟨g, h1⟩ := h1.guard
  exact ⟨by rw [← r1.length]; exact small_le g, fun q nq => h1.new n1.hr nq (Rep.new_tup n1.hr nq r1)⟩
theorem de_lst {es : List Expr} {g : AF} {pos : Pos} (h : DA G X W es g) : DE G X W (.List es pos) (eLst g) := by
  obtain ⟨t, p, s⟩ := h.ex
  refine ⟨_, pe_lst p, fun F as S H σd σ Q hr hs hp => s F as S H σd σ _ hr hs (hp.bind fun ds S1 vs F1 as1 H1 _ n1 r1 h1 => ?_)⟩
  obtain ⟨g, h1⟩ := h1.guard
  exact ⟨by rw [← r1.length]; exact small_le g, fun q nq => h1.new n1.hr nq (Rep.new_lst n1.hr nq r1)⟩
theorem de_lstM {es : List Expr} {g : AF} {pos : Pos} (h : DA G X W es g) : DE G X W (.List es pos) (eLstM g) := by
  obtain ⟨t, p, s⟩ := h.ex
  refine ⟨_, pe_lst p, fun F as S H σd σ Q hr hs hp => s F as S H σd σ _ hr hs (hp.bind fun ds S1 vs F1 as1 H1 _ n1 r1 h1 => ?_)⟩
  obtain ⟨g, h1⟩ := h1.guard
  exact ⟨by rw [← r1.length]; exact small_le g, fun q nq => h1.live n1.hr nq (fun H' k e => ⟨vs, e, RepL.kp (kp_more k) _ _ r1⟩) (Rep.refNew n1.hr)⟩

/-- a list or dict of the store is from now on as it is -/
def frz (d : Dat) (S : Sto) : Res Dat := match d with
  | .ref n => match S[n]? with
    | some (.lst xs) => .ok (.lst xs) (S.set n .gone)
    | some (.dct t kvs) => .ok (.dct t (kvs.map (·.1)) (kvs.map (·.2))) (S.set n .gone)
    | some (.ins c fs) => .ok (.obj c (fs.map (·.1)) (fs.map (·.2))) (S.set n .gone)
    | _ => .stuck
  | d => .ok d S
def eFrz (f : EF) : EF := fun σ S => (f σ S).bind fun d S1 => frz d S1
theorem frz_post {F as : List Addr} {S : Sto} {H : Hp} {σ : L2.St} {d : Dat} {v : V} {Q : VK} (hr : HR G F as S H) (r : Rep G F as H d v) (h : Post G (Rep G) W σ F as S H (frz d S) Q) : Q v H := by
  unfold frz at h
  split at h
  · rename_i n
    simp only [Rep] at r
    obtain ⟨p, rfl, ha⟩ := r
    split at h
    · rename_i xs hs
      have nx := Nxt.froze hr ha hs (fun z => nomatch z)
      obtain ⟨vs, e, r2⟩ := hr.obs n p _ ha hs
      refine h _ _ as H nx ?_
      simp only [Rep]
      exact ⟨p, vs, rfl, ⟨List.mem_cons_self, e⟩, r2.nxt hr nx⟩
    · rename_i t kvs hs
      have nx := Nxt.froze hr ha hs (fun z => nomatch z)
      have ob := hr.obs n p _ ha hs
      refine h _ _ as H nx ?_
      simp only [Rep]
      refine ⟨p, rfl, List.mem_cons_self, ?_⟩
      rcases ob with ⟨e1, kv, e2, e3, r2⟩ | ⟨e1, kv, e2, e3, r2⟩
      · exact .inl ⟨e1, kv, .inl e2, e3, r2.nxt hr nx⟩
      · exact .inr ⟨e1, kv, .inl e2, e3, r2.nxt hr nx⟩
    · rename_i c fs hs
      have nx := Nxt.froze hr ha hs (fun z => nomatch z)
      obtain ⟨dx, fs', e, e2, r2⟩ := hr.obs n p _ ha hs
      refine h _ _ as H nx ?_
      simp only [Rep]
      exact ⟨p, dx, fs', rfl, ⟨List.mem_cons_self, e⟩, e2, r2.nxt hr nx⟩
    · exact h.elim
  · exact h.now hr r
theorem de_frz {e : Expr} {f : EF} (h : DE G X W e f) : DE G X W e (eFrz f) := by
  obtain ⟨t, p, s⟩ := h.ex
  exact ⟨t, p, fun F as S H σd σ Q hr hs hp => s F as S H σd σ _ hr hs (hp.bind fun d S1 v F1 as1 H1 _ n1 r1 h1 => frz_post n1.hr r1 h1)⟩

def atD (xs : List Dat) (i : Int) : Option Dat := (ixN xs.length i).bind fun j => xs[j]?
theorem RepL.at' {F as : List Addr} {H : Hp} {xs : List Dat} {vs : List V} {i : Int} {d : Dat} (h : RepL G F as H xs vs) (e : atD xs i = some d) : ∃ v, atI vs i = some v ∧ Rep G F as H d v := by
  unfold atD at e
  obtain ⟨j, e1, e2⟩ := Option.bind_eq_some_iff.mp e
  obtain ⟨v, e3, r⟩ := h.get e2
  exact ⟨v, by unfold atI; rw [← h.length, e1]; exact e3, r⟩
/-- what a dict holds at a key -/
def findD (ks vs : List Dat) (k : Dat) : Option Dat := match ks, vs with
  | k' :: ks, v :: vs => if k' = k then some v else findD ks vs k
  | _, _ => none
/-- a dict: frozen or in the store -/
def seqD (d : Dat) (S : Sto) : Option (Bool × List Dat × List Dat) := match d with
  | .dct t ks vs => some (t, ks, vs)
  | .ref n => match S[n]? with
    | some (.dct t kvs) => some (t, kvs.map (·.1), kvs.map (·.2))
    | _ => none
  | _ => none
theorem seqD_rep {F as : List Addr} {S : Sto} {H : Hp} (hr : HR G F as S H) {d : Dat} {v : V} {t : Bool} {ks xs : List Dat} (h : Rep G F as H d v) (e : seqD d S = some (t, ks, xs)) : ∃ a, v = .ref a ∧
    ((t = false ∧ ∃ kv : List (Key × V), Rd H a (.dK kv) ∧ dkeys ks = some (kv.map (·.1)) ∧ RepL G F as H xs (kv.map (·.2))) ∨
     (t = true ∧ ∃ kv : List (List Key × V), Rd H a (.dT kv) ∧ tkeys ks = some (kv.map (·.1)) ∧ RepL G F as H xs (kv.map (·.2)))) := by
  unfold seqD at e
  split at e
  · cases e
    simp only [Rep] at h
    obtain ⟨a, e1, _, h2⟩ := h
    exact ⟨a, e1, h2⟩
  · split at e
    · rename_i n t' kvs e2
      cases e
      simp only [Rep] at h
      obtain ⟨a, e1, h1⟩ := h
      refine ⟨a, e1, ?_⟩
      rcases hr.obs _ _ _ h1 e2 with ⟨e1, kv, e2, e3, r2⟩ | ⟨e1, kv, e2, e3, r2⟩
      · exact .inl ⟨e1, kv, .inl e2, e3, r2⟩
      · exact .inr ⟨e1, kv, .inl e2, e3, r2⟩
    · cases e
  · cases e
theorem dkey_inj {a b : Dat} {k : Key} (h1 : dkey a = some k) (h2 : dkey b = some k) : a = b := by
  cases a <;> simp only [dkey] at h1 <;> first | cases h1 | skip
  all_goals (cases b <;> simp only [dkey] at h2 <;> first | cases h2 | skip)
  all_goals rfl
theorem dkeys_inj : ∀ {a b : List Dat} {k : List Key}, dkeys a = some k → dkeys b = some k → a = b
  | [], [], _, _, _ => rfl
  | [], y :: b, k, h1, h2 => by
    simp only [dkeys] at h1 h2
    cases h1
    split at h2 <;> cases h2
  | x :: a, [], k, h1, h2 => by
    simp only [dkeys] at h1 h2
    cases h2
    split at h1 <;> cases h1
  | x :: a, y :: b, k, h1, h2 => by
    simp only [dkeys] at h1 h2
    split at h1
    · rename_i e1 e2
      cases h1
      split at h2
      · rename_i e3 e4
        cases h2
        rw [dkey_inj e1 e3, dkeys_inj e2 e4]
      · cases h2
    · cases h1
theorem tkey_inj {a b : Dat} {k : List Key} (h1 : tkey a = some k) (h2 : tkey b = some k) : a = b := by
  cases a <;> simp only [tkey] at h1 <;> first | cases h1 | skip
  all_goals (cases b <;> simp only [tkey] at h2 <;> first | cases h2 | skip)
  rw [dkeys_inj h1 h2]
theorem findD_K {F as : List Addr} {H : Hp} {k : Dat} {key : Key} (hk : dkey k = some key) : ∀ {ks xs : List Dat} {kv : List (Key × V)}, dkeys ks = some (kv.map (·.1)) → RepL G F as H xs (kv.map (·.2)) →
    (∀ d, findD ks xs k = some d → ∃ v, valV kv key = some v ∧ Rep G F as H d v) ∧ (findD ks xs k = none → valV kv key = none)
  | [], xs, kv, h1, h2 => by
    simp only [dkeys] at h1
    have : kv = [] := by
      cases kv with
      | nil => rfl
      | cons _ _ => cases h1
    subst this
    refine ⟨fun d e => ?_, fun _ => rfl⟩
    unfold findD at e
    cases e
  | k' :: ks, xs, kv, h1, h2 => by
    simp only [dkeys] at h1
    split at h1
    · rename_i key' ks' e1 e2
      cases kv with
      | nil => cases h1
      | cons p kv =>
        obtain ⟨pk, pv⟩ := p
        simp only [List.map_cons, Option.some.injEq, List.cons.injEq] at h1
        obtain ⟨rfl, rfl⟩ := h1
        cases xs with
        | nil => simp only [RepL, List.map_cons] at h2; cases h2
        | cons x xs =>
          simp only [RepL, List.map_cons] at h2
          obtain ⟨v, vs', h3, r1, r2⟩ := h2
          simp only [List.cons.injEq] at h3
          obtain ⟨rfl, rfl⟩ := h3
          by_cases e : k' = k
          · subst e
            rw [hk] at e1
            cases e1
            refine ⟨fun d e => ?_, fun e => ?_⟩
            · unfold findD at e
              rw [if_pos rfl] at e
              cases e
              exact ⟨pv, valV_pos rfl, r1⟩
            · unfold findD at e
              rw [if_pos rfl] at e
              cases e
          · have ne : ¬ key' = key := fun z => e (dkey_inj (z ▸ e1) hk)
            obtain ⟨i1, i2⟩ := findD_K (F := F) (as := as) (H := H) hk e2 r2
            refine ⟨fun d e' => ?_, fun e' => ?_⟩
            · unfold findD at e'
              rw [if_neg e] at e'
              obtain ⟨v, h1, h2⟩ := i1 d e'
              exact ⟨v, by rw [valV_neg (p := (key', pv)) ne]; exact h1, h2⟩
            · unfold findD at e'
              rw [if_neg e] at e'
              rw [valV_neg (p := (key', pv)) ne]; exact i2 e'
    · cases h1
theorem findD_T {F as : List Addr} {H : Hp} {k : Dat} {key : List Key} (hk : tkey k = some key) : ∀ {ks xs : List Dat} {kv : List (List Key × V)}, tkeys ks = some (kv.map (·.1)) → RepL G F as H xs (kv.map (·.2)) →
    (∀ d, findD ks xs k = some d → ∃ v, valV kv key = some v ∧ Rep G F as H d v) ∧ (findD ks xs k = none → valV kv key = none)
  | [], xs, kv, h1, h2 => by
    simp only [tkeys] at h1
    have : kv = [] := by
      cases kv with
      | nil => rfl
      | cons _ _ => cases h1
    subst this
    refine ⟨fun d e => ?_, fun _ => rfl⟩
    unfold findD at e
    cases e
  | k' :: ks, xs, kv, h1, h2 => by
    simp only [tkeys] at h1
    split at h1
    · rename_i key' ks' e1 e2
      cases kv with
      | nil => cases h1
      | cons p kv =>
        obtain ⟨pk, pv⟩ := p
        simp only [List.map_cons, Option.some.injEq, List.cons.injEq] at h1
        obtain ⟨rfl, rfl⟩ := h1
        cases xs with
        | nil => simp only [RepL, List.map_cons] at h2; cases h2
        | cons x xs =>
          simp only [RepL, List.map_cons] at h2
          obtain ⟨v, vs', h3, r1, r2⟩ := h2
          simp only [List.cons.injEq] at h3
          obtain ⟨rfl, rfl⟩ := h3
          by_cases e : k' = k
          · subst e
            rw [hk] at e1
            cases e1
            refine ⟨fun d e => ?_, fun e => ?_⟩
            · unfold findD at e
              rw [if_pos rfl] at e
              cases e
              exact ⟨pv, valV_pos rfl, r1⟩
            · unfold findD at e
              rw [if_pos rfl] at e
              cases e
          · have ne : ¬ key' = key := fun z => e (tkey_inj (z ▸ e1) hk)
            obtain ⟨i1, i2⟩ := findD_T (F := F) (as := as) (H := H) hk e2 r2
            refine ⟨fun d e' => ?_, fun e' => ?_⟩
            · unfold findD at e'
              rw [if_neg e] at e'
              obtain ⟨v, h1, h2⟩ := i1 d e'
              exact ⟨v, by rw [valV_neg (p := (key', pv)) ne]; exact h1, h2⟩
            · unfold findD at e'
              rw [if_neg e] at e'
              rw [valV_neg (p := (key', pv)) ne]; exact i2 e'
    · cases h1
theorem dkey_kV {F as : List Addr} {H : Hp} {k : Dat} {key : Key} {v : V} (hk : dkey k = some key) (r : Rep G F as H k v) : v = kV key := by
  cases k <;> simp only [dkey] at hk <;> first | cases hk | skip
  · exact r.int_iff
  · exact r.str_iff
theorem dkeys_kV {F as : List Addr} {H : Hp} : ∀ {ks : List Dat} {keys : List Key} {vs : List V}, dkeys ks = some keys → RepL G F as H ks vs → vs = keys.map kV
  | [], keys, vs, h1, h2 => by simp only [dkeys] at h1; cases h1; simp only [RepL] at h2; exact h2
  | k :: ks, keys, vs, h1, h2 => by
    simp only [dkeys] at h1
    split at h1
    · rename_i e1 e2
      cases h1
      simp only [RepL] at h2
      obtain ⟨v, vs', rfl, r1, r2⟩ := h2
      rw [dkey_kV e1 r1, dkeys_kV e2 r2]; rfl
    · cases h1
/-- is it a key of such a dict -/
def isKey (t : Bool) (k : Dat) : Bool := if t then (tkey k).isSome && (match k with | .tup xs => decide (xs ∉ ktAll) | _ => false) else (dkey k).isSome
theorem dget_rep {F as : List Addr} {S : Sto} {H : Hp} (hr : HR G F as S H) {d k : Dat} {v u : V} {t : Bool} {ks xs : List Dat} (h : Rep G F as H d v) (e : seqD d S = some (t, ks, xs)) (hk : Rep G F as H k u) (ik : isKey t k = true) :
    ∃ a o, v = .ref a ∧ DGet H a u o ∧ (∀ x, findD ks xs k = some x → ∃ y, o = some y ∧ Rep G F as H x y) ∧ (findD ks xs k = none → o = none) := by
  obtain ⟨a, rfl, hd⟩ := seqD_rep hr h e
  rcases hd with ⟨rfl, kv, rd, h1, h2⟩ | ⟨rfl, kv, rd, h1, h2⟩
  · unfold isKey at ik
    simp only [Bool.false_eq_true, if_false] at ik
    obtain ⟨key, hkey⟩ := Option.isSome_iff_exists.mp ik
    obtain ⟨i1, i2⟩ := findD_K (F := F) (as := as) (H := H) hkey h1 h2
    exact ⟨a, valV kv key, rfl, .inl ⟨kv, key, rd, dkey_kV hkey hk, rfl⟩, i1, i2⟩
  · unfold isKey at ik
    simp only [if_true, Bool.and_eq_true] at ik
    obtain ⟨key, hkey⟩ := Option.isSome_iff_exists.mp ik.1
    obtain ⟨i1, i2⟩ := findD_T (F := F) (as := as) (H := H) hkey h1 h2
    cases k <;> simp only [tkey] at hkey <;> first | cases hkey | skip
    rename_i ys
    simp only [Rep] at hk
    obtain ⟨b, vs, rfl, hb, r⟩ := hk
    have ev := dkeys_kV hkey r
    subst ev
    rcases hb with ⟨_, hb⟩ | hb
    · exact ⟨a, valV kv key, rfl, .inr ⟨kv, key, b, rd, rfl, hb, rfl⟩, i1, i2⟩
    · exact absurd hb.2 (of_decide_eq_true ik.2)
end
end Fx

namespace Fx
open PySem PySem.Spec PyProof.Rows L2

section
variable {G : Gc} {X : Cx} {W : WX}
def oIx : O2 := fun x y S => match x, y with
  | .str z, .int i => .guard (small z.length) (match atI z.cps.toList i with
    | some c => .ok (.str ⟨#[c]⟩) S
    | none => .stuck)
  | .tup xs, .int i => match atD xs i with
    | some d => .ok d S
    | none => .stuck
  | x, y => match seqD x S with
    | some (t, ks, vs) => .guard (isKey t y) (match findD ks vs y with
      | some d => .ok d S
      | none => .stuck)
    | none => match seqL x S, y with
      | some xs, .int i => match atD xs i with
        | some d => .ok d S
        | none => .stuck
      | _, _ => .stuck
def rIxA (K : PySem.W.Frag) : R2 := fun x y H Q => rIx K x y H Q ∨ ∃ a v, x = .ref a ∧ DGet H a y (some v) ∧ Q v H
theorem ix_all (c : Ctx G X W) : IxR X (rIxA X.K) := by
  refine IxR.or ix_seq ?_
  intro value slice pins s σ H x y v u Q I rx ry ⟨a, z, e, g, q⟩ hs
  subst e
  obtain rfl : v = Value.ref a := rx
  exact tail_any (dict_typeIs I g) PySem.F.slot_dict_getitem.lookup (d_getItem (by have := c.un; omega) I g ry fun w' s3 I3 rw' => ⟨z, H, I3, rw', q⟩) hs
theorem op2_ix : Op2 G (rIxA G.K) oIx := by
  intro F as S H x y v u Q W σ hr rx ry hp
  unfold oIx at hp
  split at hp
  · obtain ⟨g, hp⟩ := hp.guard
    split at hp
    · rename_i e
      exact .inl (.inr (.inr ⟨_, _, _, rx.str_iff, ry.int_iff, small_le g, e, hp.now hr (by simp only [Rep])⟩))
    · exact hp.elim
  · split at hp
    · rename_i e
      obtain ⟨a, vs, rfl, h1, h2⟩ := rx.tup_seq
      obtain ⟨w, e1, r⟩ := h2.at' e
      exact .inl (.inr (.inl ⟨a, vs, _, w, rfl, ry.int_iff, h1, e1, hp.now hr r⟩))
    · exact hp.elim
  · split at hp
    · rename_i t ks vs e
      obtain ⟨g, hp⟩ := hp.guard
      split at hp
      · rename_i d e2
        obtain ⟨a, o, rfl, dg, i1, i2⟩ := dget_rep hr rx e ry g
        obtain ⟨z, rfl, r⟩ := i1 _ e2
        exact .inr ⟨a, z, rfl, dg, hp.now hr r⟩
      · exact hp.elim
    · split at hp
      · rename_i xs i e _ _
        split at hp
        · rename_i e2
          obtain ⟨a, vs, rfl, h1, h2⟩ := seqL_rep hr rx e
          obtain ⟨w, e1, r⟩ := h2.at' e2
          exact .inl (.inl ⟨a, vs, _, w, rfl, ry.int_iff, h1, e1, hp.now hr r⟩)
        · exact hp.elim
      · exact hp.elim
def cutD (xs : List Dat) (lo hi : Option Int) : List Dat := (xs.drop (HT.sIx xs.length 0 lo)).take (HT.sIx xs.length xs.length hi - HT.sIx xs.length 0 lo)
theorem RepL.cutV {F as : List Addr} {H : Hp} {xs : List Dat} {vs : List V} (h : RepL G F as H xs vs) (lo hi : Option Int) : RepL G F as H (cutD xs lo hi) (L2.cutV vs lo hi) := by
  unfold cutD L2.cutV
  rw [h.length]
  exact (h.drop _).take _
abbrev OSl := Dat → Option Int → Option Int → Sto → Res Dat
def oSl : OSl := fun x lo hi S => match x with
  | .str z => .guard (small z.length) (.ok (.str (cutS z lo hi)) S)
  | .tup xs => .ok (.tup (cutD xs lo hi)) S
  | x => match seqL x S with
    | some xs => .ok (.lst (cutD xs lo hi)) S
    | none => .stuck
def rSlAll (K : PySem.W.Frag) : V → Option Int → Option Int → Hp → VK → Prop := fun x lo hi H Q => rSlS x lo hi H Q ∨ (rSlA K x lo hi H Q ∨ rSlL K x lo hi H Q)
theorem sl_all : SlR X (rSlAll X.K) := sl_str.or (sl_tupA.or sl_list)
theorem ops_sl {F as : List Addr} {S : Sto} {H : Hp} {x : Dat} {v : V} {lo hi : Option Int} {Q : VK} {σ : L2.St} (hr : HR G F as S H) (rx : Rep G F as H x v) (hp : Post G (Rep G) W σ F as S H (oSl x lo hi S) Q) : rSlAll G.K v lo hi H Q := by
  unfold oSl at hp
  split at hp
  · obtain ⟨g, hp⟩ := hp.guard
    exact .inl ⟨_, rx.str_iff, small_le g, hp.now hr (by simp only [Rep])⟩
  · rename_i xs
    obtain ⟨a, vs, rfl, h1, h2⟩ := rx.tup_seq
    refine .inr (.inl ⟨a, vs, rfl, h1, fun hw => ?_, fun hw p np => ?_⟩)
    · refine hp.now hr ?_
      have e : cutD xs lo hi = xs := by
        unfold cutD
        rw [← h2.length] at hw
        rw [hw.1, hw.2, List.drop_zero, Nat.sub_zero, List.take_length]
      rw [e]; exact rx
    · exact hp.new hr np (Rep.new_tup hr np (h2.cutV lo hi))
  · split at hp
    · rename_i xs e
      obtain ⟨a, vs, rfl, h1, h2⟩ := seqL_rep hr rx e
      exact .inr (.inr ⟨a, vs, rfl, h1, fun p np => hp.new hr np (Rep.new_lst hr np (h2.cutV lo hi))⟩)
    · exact hp.elim
/-- a part of a slice -/
abbrev PF := Sl → Sto → Res (Option Int)
def pNo : PF := fun _ S => .ok none S
def pAt (f : EF) : PF := fun σ S => (f σ S).bind fun d S1 => match d with
  | .int i => .ok (some i) S1
  | _ => .stuck
abbrev RO : RT (Option Int) (Option Int) := fun _ _ _ a b => a = b
structure DP (G : Gc) (X : Cx) (W : WX) (e : Option Expr) (f : PF) : Prop where
  ex : ∃ t, PO X e t ∧ Snd G RO W t f
theorem dp_no : DP G X W none pNo := ⟨_, po_none, fun F as S H σd σ Q hr hs hp => hp.now hr rfl⟩
theorem dp_at {e : Expr} {f : EF} (h : DE G X W e f) : DP G X W (some e) (pAt f) := by
  obtain ⟨t, p, s⟩ := h.ex
  refine ⟨_, po_some p, fun F as S H σd σ Q hr hs hp => s F as S H σd σ _ hr hs (hp.bind fun d S1 v F1 as1 H1 e0 n1 r1 h1 => ?_)⟩
  split at h1
  · exact ⟨_, r1.int_iff, h1.now n1.hr rfl⟩
  · exact h1.elim
def eSl (f : EF) (l h : PF) : EF := fun σ S => (f σ S).bind fun x S1 => (l σ S1).bind fun lo S2 => (h σ S2).bind fun hi S3 => oSl x lo hi S3
theorem de_slice {e : Expr} {lo hi : Option Expr} {f : EF} {l h : PF} {pos p2 : Pos} (c : Ctx G X W) (he : DE G X W e f) (hl : DP G X W lo l) (hh : DP G X W hi h) : DE G X W (.Subscript e (.Slice lo hi none p2) pos) (eSl f l h) := by
  obtain ⟨t, p, s⟩ := he.ex
  obtain ⟨t1, p1, s1⟩ := hl.ex
  obtain ⟨t2, p2, s2⟩ := hh.ex
  refine ⟨_, pe_slice sl_all p p1 p2, fun F as S H σd σ Q hr hs hp => s F as S H σd σ _ hr hs (hp.bind fun d S1 v F1 as1 H1 _ n1 r1 h1 => ?_)⟩
  refine s1 F1 as1 S1 H1 σd σ _ n1.hr (hs.nxt hr n1) (h1.bind fun d2 S2 v2 F2 as2 H2 _ n2 r2 h2 => ?_)
  refine s2 F2 as2 S2 H2 σd σ _ n2.hr ((hs.nxt hr n1).nxt n1.hr n2) (h2.bind fun d3 S3 v3 F3 as3 H3 _ n3 r3 h3 => ?_)
  obtain rfl : d2 = v2 := r2
  obtain rfl : d3 = v3 := r3
  rw [c.K]
  exact ops_sl n3.hr (r1.nxt n1.hr (n2.trans n3)) h3
def toV : Dat → Option V
  | .non => some .non
  | .bl b => some (.bl b)
  | .int i => some (.int i)
  | .str x => some (.str x)
  | _ => none
def toVs : List Dat → Option (List V)
  | [] => some []
  | d :: r => match toV d, toVs r with
    | some v, some vs => some (v :: vs)
    | _, _ => none
theorem toV_rep {F as : List Addr} {H : Hp} {d : Dat} {v w : V} (e : toV d = some w) (r : Rep G F as H d v) : v = w ∧ flatV w = true := by
  cases d <;> simp only [toV] at e <;> first | cases e | skip
  · exact ⟨r.non_iff, rfl⟩
  · exact ⟨r.bl_iff, rfl⟩
  · exact ⟨r.int_iff, rfl⟩
  · exact ⟨r.str_iff, rfl⟩
theorem toVs_rep {F as : List Addr} {H : Hp} : ∀ {ds : List Dat} {vs ws : List V}, toVs ds = some ws → RepL G F as H ds vs → vs = ws ∧ ws.all flatV = true
  | [], vs, ws, e, r => by simp only [toVs] at e; cases e; simp only [RepL] at r; exact ⟨r, rfl⟩
  | d :: ds, vs, ws, e, r => by
    simp only [toVs] at e
    split at e
    · rename_i e1 e2
      cases e
      simp only [RepL] at r
      obtain ⟨v, vs', rfl, r1, r2⟩ := r
      obtain ⟨rfl, h1⟩ := toV_rep e1 r1
      obtain ⟨rfl, h2⟩ := toVs_rep e2 r2
      exact ⟨rfl, by rw [List.all_cons, h1, h2]; rfl⟩
    · cases e
def inD (x y : Dat) (S : Sto) : Option Bool := match seqD y S with
  | some (t, ks, vs) => if isKey t x then some (findD ks vs x).isSome else none
  | none => match (match seqT y with | some xs => some xs | none => seqL y S) with
    | some xs => match toV x, toVs xs with
      | some v, some vs => some (inV v vs)
      | _, _ => none
    | none => none
def oIn : O2 := fun x y S => match inD x y S with
  | some b => .ok (.bl b) S
  | none => .stuck
def oNotIn : O2 := fun x y S => match inD x y S with
  | some b => .ok (.bl !b) S
  | none => .stuck
def rInA (K : PySem.W.Frag) (neg : Bool) : R2 := fun x y H Q => rIn K neg x y H Q ∨ ∃ a o, y = .ref a ∧ DGet H a x o ∧ Q (.bl (if neg then !o.isSome else o.isSome)) H
theorem ok_in (c : Ctx G X W) : OpR X (compareOp .In) (rInA X.K false) := by
  refine OpR.or op_in_seq ?_
  intro pins s σ H x y v u Q I rx ry ⟨a, o, e, g, q⟩
  subst e
  obtain rfl : u = Value.ref a := ry
  exact d_in (by have := c.un; omega) I g rx fun s3 I3 => ⟨.bl o.isSome, H, I3, rfl, q⟩
theorem ok_notIn (c : Ctx G X W) : OpR X (compareOp .NotIn) (rInA X.K true) := by
  refine OpR.or op_notIn_seq ?_
  intro pins s σ H x y v u Q I rx ry ⟨a, o, e, g, q⟩
  subst e
  obtain rfl : u = Value.ref a := ry
  exact d_notIn (by have := c.un; omega) I g rx fun s3 I3 => ⟨.bl (!o.isSome), H, I3, rfl, q⟩
theorem inD_rep {F as : List Addr} {S : Sto} {H : Hp} (hr : HR G F as S H) {x y : Dat} {v u : V} {b : Bool} (rx : Rep G F as H x v) (ry : Rep G F as H y u) (e : inD x y S = some b) {neg : Bool} {Q : VK} (q : Q (.bl (if neg then !b else b)) H) : rInA G.K neg v u H Q := by
  unfold inD at e
  split at e
  · rename_i t ks vs e1
    split at e
    · rename_i g
      cases e
      obtain ⟨a, o, rfl, dg, i1, i2⟩ := dget_rep hr ry e1 rx g
      refine .inr ⟨a, o, rfl, dg, ?_⟩
      have : o.isSome = (findD ks vs x).isSome := by
        cases z : findD ks vs x with
        | none => rw [i2 z]; rfl
        | some d => obtain ⟨w, rfl, _⟩ := i1 _ z; rfl
      rw [this]; exact q
    · cases e
  · split at e
    · rename_i xs e1
      split at e
      · rename_i w ws e2 e3
        cases e
        obtain ⟨rfl, f1⟩ := toV_rep e2 rx
        split at e1
        · rename_i ys e4
          cases e1
          obtain ⟨a, us, rfl, h1, h2⟩ := seqT_rep ry e4
          obtain ⟨rfl, f2⟩ := toVs_rep e3 h2
          exact .inl ⟨a, _, rfl, .inr h1, f1, f2, q⟩
        · obtain ⟨a, us, rfl, h1, h2⟩ := seqL_rep hr ry e1
          obtain ⟨rfl, f2⟩ := toVs_rep e3 h2
          exact .inl ⟨a, _, rfl, .inl h1, f1, f2, q⟩
      · cases e
    · cases e
theorem op2_in : Op2 G (rInA G.K false) oIn := by
  intro F as S H x y v u Q W σ hr rx ry hp
  unfold oIn at hp
  split at hp
  · rename_i b e
    exact inD_rep hr rx ry e (neg := false) (hp.now hr (by simp only [Rep]; rfl))
  · exact hp.elim
theorem op2_notIn : Op2 G (rInA G.K true) oNotIn := by
  intro F as S H x y v u Q W σ hr rx ry hp
  unfold oNotIn at hp
  split at hp
  · rename_i b e
    exact inD_rep hr rx ry e (neg := true) (hp.now hr (by simp only [Rep]; rfl))
  · exact hp.elim
theorem RepL.one {F as : List Addr} {H : Hp} {x : Dat} {vs : List V} (h : RepL G F as H [x] vs) : ∃ v, vs = [v] ∧ Rep G F as H x v := by
  simp only [RepL] at h
  obtain ⟨v, _, rfl, r, rfl⟩ := h
  exact ⟨v, rfl, r⟩
theorem RepL.two {F as : List Addr} {H : Hp} {x y : Dat} {vs : List V} (h : RepL G F as H [x, y] vs) : ∃ v u, vs = [v, u] ∧ Rep G F as H x v ∧ Rep G F as H y u := by
  simp only [RepL] at h
  obtain ⟨v, _, rfl, r, u, _, rfl, r2, rfl⟩ := h
  exact ⟨v, u, rfl, r, r2⟩
/-- a list or tuple, or live list -/
def seqA (d : Dat) (S : Sto) : Option (List Dat) := match seqT d with
  | some xs => some xs
  | none => seqL d S
theorem seqA_rep {F as : List Addr} {S : Sto} {H : Hp} (hr : HR G F as S H) {d : Dat} {v : V} {xs : List Dat} (h : Rep G F as H d v) (e : seqA d S = some xs) : ∃ k a vs, v = .ref a ∧ SqX G.K H k a vs ∧ RepL G F as H xs vs ∧ (k = true → seqT d = some xs) ∧ (k = false → seqL d S = some xs) := by
  unfold seqA at e
  split at e
  · rename_i ys e1
    cases e
    obtain ⟨a, vs, rfl, h1, h2⟩ := seqT_rep h e1
    exact ⟨true, a, vs, rfl, h1, h2, fun _ => e1, fun z => nomatch z⟩
  · obtain ⟨a, vs, rfl, h1, h2⟩ := seqL_rep hr h e
    exact ⟨false, a, vs, rfl, h1, h2, fun z => (nomatch z), fun _ => e⟩
def oLen : OA := fun xs S => match xs with
  | [.str z] => .guard (small z.length) (.ok (.int z.length) S)
  | [x] => match seqD x S with
    | some (_, ks, _) => .ok (.int ks.length) S
    | none => match seqA x S with
      | some ys => .ok (.int ys.length) S
      | none => .stuck
  | _ => .stuck
def rLen (K : PySem.W.Frag) : List V → Hp → VK → Prop := fun xs H Q => (∃ z, xs = [.str z] ∧ z.length ≤ sizeLine ∧ Q (.int z.length) H) ∨ ((∃ p ys, xs = [.ref p] ∧ (SqL K H p ys ∨ SqT K H p ys) ∧ Q (.int ys.length) H) ∨
  ((∃ a, ∃ kvs : List (Key × V), xs = [V.ref a] ∧ Rd H a (.dK kvs) ∧ Q (.int kvs.length) H) ∨ ∃ a, ∃ kvs : List (List Key × V), xs = [V.ref a] ∧ Rd H a (.dT kvs) ∧ Q (.int kvs.length) H))
theorem ok_len : CallR X (.builtin "len") (rLen X.K) := by
  refine CallR.or call_len_str (CallR.or call_len_seq (CallR.or ?_ ?_))
  · intro pins s σ H xs us Q I r h
    obtain ⟨a, kvs, rfl, ha, q⟩ := h
    obtain ⟨u, rfl, ru⟩ := vals1 r
    cases ru
    exact d_len I ha fun t s' I' => ⟨.int kvs.length, H, I', ⟨t, rfl⟩, q⟩
  · intro pins s σ H xs us Q I r h
    obtain ⟨p, kvs, rfl, hp, q⟩ := h
    obtain ⟨u, rfl, rx⟩ := vals1 r
    obtain rfl : u = .ref p := rx
    obtain ⟨z, hd, ys, rel, dd⟩ := dt_rd I.hok hp
    have hl : kvs.length = ys.length := Paired.length rel
    refine call_len_dictH hd dd (by rw [← hl]; rw [sizeLine_eq] at z; omega) ?_
    rw [← hl]
    exact ⟨.int ((kvs.length : Nat) : Int), H, I.tok _, ⟨_, rfl⟩, q⟩
theorem dkeys_len : ∀ {ks : List Dat} {l : List Key}, dkeys ks = some l → ks.length = l.length
  | [], l, h => by simp only [dkeys] at h; cases h; rfl
  | k :: r, l, h => by
    simp only [dkeys] at h
    split at h
    · rename_i e1 e2
      cases h
      simp [dkeys_len e2]
    · cases h
theorem tkeys_len : ∀ {ks : List Dat} {l : List (List Key)}, tkeys ks = some l → ks.length = l.length
  | [], l, h => by simp only [tkeys] at h; cases h; rfl
  | k :: r, l, h => by
    simp only [tkeys] at h
    split at h
    · rename_i e1 e2
      cases h
      simp [tkeys_len e2]
    · cases h
theorem opA_len : OpA G (rLen G.K) oLen := by
  intro F as S H xs vs Q W σ hr r hp
  unfold oLen at hp
  split at hp
  · obtain ⟨g, hp⟩ := hp.guard
    obtain ⟨v, rfl, r1⟩ := r.one
    cases r1.str_iff
    exact .inl ⟨_, rfl, small_le g, hp.now hr (by simp only [Rep])⟩
  · obtain ⟨v, rfl, r1⟩ := r.one
    split at hp
    · rename_i t ks xs e
      obtain ⟨a, rfl, h⟩ := seqD_rep hr r1 e
      rcases h with ⟨_, kv, rd, h1, _⟩ | ⟨_, kv, rd, h1, _⟩
      · refine .inr (.inr (.inl ⟨a, kv, rfl, rd, ?_⟩))
        have := dkeys_len h1
        rw [List.length_map] at this
        rw [← this]
        exact hp.now hr (by simp only [Rep])
      · refine .inr (.inr (.inr ⟨a, kv, rfl, rd, ?_⟩))
        have := tkeys_len h1
        rw [List.length_map] at this
        rw [← this]
        exact hp.now hr (by simp only [Rep])
    · split at hp
      · rename_i ys e
        obtain ⟨k, a, vs, rfl, h1, h2, _, _⟩ := seqA_rep hr r1 e
        refine .inr (.inl ⟨a, vs, rfl, ?_, ?_⟩)
        · cases k with
          | true => exact .inr h1
          | false => exact .inl h1
        · rw [← h2.length]; exact hp.now hr (by simp only [Rep])
      · exact hp.elim
  · exact hp.elim
/-- tuple(x) of a list: a new tuple; of a tuple: itself -/
def oTuple : OA := fun xs S => match xs with
  | [x] => match seqA x S with
    | some ys => .ok (.tup ys) S
    | none => .stuck
  | _ => .stuck
theorem opA_tuple : OpA G (fun xs H Q => ∃ p ys, xs = [.ref p] ∧ ((SqL G.K H p ys ∧ ∀ l, H l = none → Q (.ref l) (upd H l (.tup ys))) ∨ (SqT G.K H p ys ∧ Q (.ref p) H))) oTuple := by
  intro F as S H xs vs Q W σ hr r hp
  unfold oTuple at hp
  split at hp
  · obtain ⟨v, rfl, r1⟩ := r.one
    split at hp
    · rename_i ys e
      obtain ⟨k, a, vs, rfl, h1, h2, k1, k2⟩ := seqA_rep hr r1 e
      refine ⟨a, vs, rfl, ?_⟩
      cases k with
      | false => exact .inl ⟨h1, fun l nl => hp.new hr nl (Rep.new_tup hr nl h2)⟩
      | true =>
        refine .inr ⟨h1, hp.now hr ?_⟩
        have := k1 rfl
        unfold seqT at this
        split at this
        · cases this; exact r1
        · cases this
    · exact hp.elim
  · exact hp.elim
/-- list(x): a new list, frozen or in the store -/
def oList : OA := fun xs S => match xs with
  | [x] => match seqA x S with
    | some ys => .ok (.lst ys) S
    | none => .stuck
  | _ => .stuck
def oListM : OA := fun xs S => match xs with
  | [x] => match seqA x S with
    | some ys => .ok (.ref S.length) (S ++ [.lst ys])
    | none => .stuck
  | _ => .stuck
theorem opA_list : OpA G (fun xs H Q => ∃ p ys, xs = [.ref p] ∧ (SqL G.K H p ys ∨ SqT G.K H p ys) ∧ ∀ l, H l = none → Q (.ref l) (upd H l (.lst ys))) oList := by
  intro F as S H xs vs Q W σ hr r hp
  unfold oList at hp
  split at hp
  · obtain ⟨v, rfl, r1⟩ := r.one
    split at hp
    · rename_i ys e
      obtain ⟨k, a, vs, rfl, h1, h2, k1, k2⟩ := seqA_rep hr r1 e
      refine ⟨a, vs, rfl, ?_, fun l nl => hp.new hr nl (Rep.new_lst hr nl h2)⟩
      cases k with
      | false => exact .inl h1
      | true => exact .inr h1
    · exact hp.elim
  · exact hp.elim
theorem opA_listM : OpA G (fun xs H Q => ∃ p ys, xs = [.ref p] ∧ (SqL G.K H p ys ∨ SqT G.K H p ys) ∧ ∀ l, H l = none → Q (.ref l) (upd H l (.lst ys))) oListM := by
  intro F as S H xs vs Q W σ hr r hp
  unfold oListM at hp
  split at hp
  · obtain ⟨v, rfl, r1⟩ := r.one
    split at hp
    · rename_i ys e
      obtain ⟨k, a, vs, rfl, h1, h2, k1, k2⟩ := seqA_rep hr r1 e
      refine ⟨a, vs, rfl, ?_, fun l nl => hp.live hr nl (fun H' kk e => ⟨vs, e, RepL.kp (kp_more kk) _ _ h2⟩) (Rep.refNew hr)⟩
      cases k with
      | false => exact .inl h1
      | true => exact .inr h1
    · exact hp.elim
  · exact hp.elim
def oAbs : OA := fun xs S => match xs with
  | [.int i] => .ok (.int (if i < 0 then -i else i)) S
  | _ => .stuck
theorem opA_abs : OpA G (fun xs H Q => ∃ i, xs = [.int i] ∧ Q (.int (if i < 0 then -i else i)) H) oAbs := by
  intro F as S H xs vs Q W σ hr r hp
  unfold oAbs at hp
  split at hp
  · obtain ⟨v, rfl, r1⟩ := r.one
    cases r1.int_iff
    exact ⟨_, rfl, hp.now hr (by simp only [Rep])⟩
  · exact hp.elim
def oMax2 : OA := fun xs S => match xs with
  | [.int i, .int j] => .ok (.int (if j > i then j else i)) S
  | _ => .stuck
def oMin2 : OA := fun xs S => match xs with
  | [.int i, .int j] => .ok (.int (if j < i then j else i)) S
  | _ => .stuck
theorem opA_max2 : OpA G (fun xs H Q => ∃ i j, xs = [.int i, .int j] ∧ Q (.int (if j > i then j else i)) H) oMax2 := by
  intro F as S H xs vs Q W σ hr r hp
  unfold oMax2 at hp
  split at hp
  · obtain ⟨v, u, rfl, r1, r2⟩ := r.two
    cases r1.int_iff
    cases r2.int_iff
    exact ⟨_, _, rfl, hp.now hr (by simp only [Rep])⟩
  · exact hp.elim
theorem opA_min2 : OpA G (fun xs H Q => ∃ i j, xs = [.int i, .int j] ∧ Q (.int (if j < i then j else i)) H) oMin2 := by
  intro F as S H xs vs Q W σ hr r hp
  unfold oMin2 at hp
  split at hp
  · obtain ⟨v, u, rfl, r1, r2⟩ := r.two
    cases r1.int_iff
    cases r2.int_iff
    exact ⟨_, _, rfl, hp.now hr (by simp only [Rep])⟩
  · exact hp.elim
def oInt : OA := fun xs S => match xs with
  | [.int i] => .ok (.int i) S
  | [.bl k] => .ok (.int (if k then 1 else 0)) S
  | _ => .stuck
theorem opA_int : OpA G (fun xs H Q => (∃ i, xs = [.int i] ∧ Q (.int i) H) ∨ ∃ k, xs = [.bl k] ∧ Q (.int (if k then 1 else 0)) H) oInt := by
  intro F as S H xs vs Q W σ hr r hp
  unfold oInt at hp
  split at hp
  · obtain ⟨v, rfl, r1⟩ := r.one
    cases r1.int_iff
    exact .inl ⟨_, rfl, hp.now hr (by simp only [Rep])⟩
  · obtain ⟨v, rfl, r1⟩ := r.one
    cases r1.bl_iff
    exact .inr ⟨_, rfl, hp.now hr (by simp only [Rep])⟩
  · exact hp.elim
def oStr : OA := fun xs S => match xs with
  | [.int i] => .guard (decide (i.natAbs.log2 < 1920)) (.ok (.str (toString i)) S)
  | _ => .stuck
theorem opA_str : OpA G (fun xs H Q => ∃ i, xs = [.int i] ∧ i.natAbs.log2 < 1920 ∧ Q (.str (toString i)) H) oStr := by
  intro F as S H xs vs Q W σ hr r hp
  unfold oStr at hp
  split at hp
  · obtain ⟨g, hp⟩ := hp.guard
    obtain ⟨v, rfl, r1⟩ := r.one
    cases r1.int_iff
    exact ⟨_, rfl, of_decide_eq_true g, hp.now hr (by simp only [Rep])⟩
  · exact hp.elim
/-- the truths of a list -/
def truths : List Dat → Option (List Bool)
  | [] => some []
  | .bl b :: r => match truths r with
    | some bs => some (b :: bs)
    | none => none
  | _ :: _ => none
theorem truths_rep {F as : List Addr} {H : Hp} : ∀ {ds : List Dat} {vs : List V} {bs : List Bool}, truths ds = some bs → RepL G F as H ds vs → vs = bs.map V.bl
  | [], vs, bs, e, r => by simp only [truths] at e; cases e; simp only [RepL] at r; exact r
  | d :: ds, vs, bs, e, r => by
    cases d <;> simp only [truths] at e <;> first | cases e | skip
    split at e
    · rename_i e2
      cases e
      simp only [RepL] at r
      obtain ⟨v, vs', rfl, r1, r2⟩ := r
      rw [r1.bl_iff, truths_rep e2 r2]; rfl
    · cases e
def oAll : OA := fun xs S => match xs with
  | [x] => match seqL x S with
    | some ys => match truths ys with
      | some bs => .ok (.bl (bs.all id)) S
      | none => .stuck
    | none => .stuck
  | _ => .stuck
def oAny : OA := fun xs S => match xs with
  | [x] => match seqL x S with
    | some ys => match truths ys with
      | some bs => .ok (.bl (bs.any id)) S
      | none => .stuck
    | none => .stuck
  | _ => .stuck
theorem opA_all : OpA G (rAll G.K) oAll := by
  intro F as S H xs vs Q W σ hr r hp
  unfold oAll at hp
  split at hp
  · obtain ⟨v, rfl, r1⟩ := r.one
    split at hp
    · rename_i ys e
      split at hp
      · rename_i bs e2
        obtain ⟨a, vs, rfl, h1, h2⟩ := seqL_rep hr r1 e
        rw [truths_rep e2 h2] at h1
        exact ⟨a, bs, rfl, h1, hp.now hr (by simp only [Rep])⟩
      · exact hp.elim
    · exact hp.elim
  · exact hp.elim
theorem opA_any : OpA G (rAny G.K) oAny := by
  intro F as S H xs vs Q W σ hr r hp
  unfold oAny at hp
  split at hp
  · obtain ⟨v, rfl, r1⟩ := r.one
    split at hp
    · rename_i ys e
      split at hp
      · rename_i bs e2
        obtain ⟨a, vs, rfl, h1, h2⟩ := seqL_rep hr r1 e
        rw [truths_rep e2 h2] at h1
        exact ⟨a, bs, rfl, h1, hp.now hr (by simp only [Rep])⟩
      · exact hp.elim
    · exact hp.elim
  · exact hp.elim
/-- the ints of a list -/
def intsD : List Dat → Option (List Int)
  | [] => some []
  | .int b :: r => match intsD r with
    | some bs => some (b :: bs)
    | none => none
  | _ :: _ => none
theorem intsD_rep {F as : List Addr} {H : Hp} : ∀ {ds : List Dat} {vs : List V} {bs : List Int}, intsD ds = some bs → RepL G F as H ds vs → vs = bs.map V.int
  | [], vs, bs, e, r => by simp only [intsD] at e; cases e; simp only [RepL] at r; exact r
  | d :: ds, vs, bs, e, r => by
    cases d <;> simp only [intsD] at e <;> first | cases e | skip
    split at e
    · rename_i e2
      cases e
      simp only [RepL] at r
      obtain ⟨v, vs', rfl, r1, r2⟩ := r
      rw [r1.int_iff, intsD_rep e2 r2]; rfl
    · cases e
theorem intsD_map : ∀ xs : List Int, intsD (xs.map Dat.int) = some xs
  | [] => rfl
  | x :: r => by simp only [List.map_cons, intsD, intsD_map r]
def oSum : OA := fun xs S => match xs with
  | [x] => match seqL x S with
    | some ys => match intsD ys with
      | some bs => .ok (.int bs.sum) S
      | none => .stuck
    | none => .stuck
  | _ => .stuck
theorem opA_sum : OpA G (rSum G.K) oSum := by
  intro F as S H xs vs Q W σ hr r hp
  unfold oSum at hp
  split at hp
  · obtain ⟨v, rfl, r1⟩ := r.one
    split at hp
    · rename_i ys e
      split at hp
      · rename_i bs e2
        obtain ⟨a, vs, rfl, h1, h2⟩ := seqL_rep hr r1 e
        rw [intsD_rep e2 h2] at h1
        exact ⟨a, bs, rfl, h1, hp.now hr (by simp only [Rep])⟩
      · exact hp.elim
    · exact hp.elim
  · exact hp.elim
def tyD (d : Dat) (S : Sto) : Option String := match d with
  | .non => some "NoneType"
  | .bl _ => some "bool"
  | .int _ => some "int"
  | .str _ => some "str"
  | .tup _ => some "tuple"
  | .lst _ => some "list"
  | .scr _ => some "list"
  | .dct t _ _ => if t then none else some "dict"
  | .obj _ _ _ => none
  | .ref n => match S[n]? with
    | some (.lst _) => some "list"
    | some (.dct _ _) => some "dict"
    | _ => none
def isaB (a T : String) : Bool := a == T || (a == "bool" && T == "int")
theorem tyD_rep {F as : List Addr} {S : Sto} {H : Hp} (hr : HR G F as S H) {d : Dat} {v : V} {a : String} (e : tyD d S = some a) (r : Rep G F as H d v) : TyX G.K H v (.type a) := by
  have rdK : ∀ {p : Addr} {kv : List (Key × V)}, Rd H p (.dK kv) → TyX G.K H (.ref p) (.type "dict") := fun h => by
    rcases h with h | ⟨o, h⟩
    · exact .base (.dK h)
    · exact .fDict h
  unfold tyD at e
  cases d with
  | non => cases e; cases r.non_iff; exact .base .non
  | bl b => cases e; cases r.bl_iff; exact .base (.bl b)
  | int b => cases e; cases r.int_iff; exact .base (.int b)
  | str b => cases e; cases r.str_iff; exact .base (.str b)
  | tup xs =>
    cases e
    simp only [Rep] at r
    obtain ⟨p, vs, rfl, h, _⟩ := r
    rcases h with ⟨_, h⟩ | ⟨⟨o, its, n, hk, hc, _⟩, _⟩
    · exact .base (.tup h)
    · exact .kTuple hk hc
  | lst xs =>
    cases e
    obtain ⟨p, vs, rfl, h, _⟩ := r.lst_seq
    exact .base (.lst h)
  | scr xs =>
    cases e
    simp only [Rep] at r
    obtain ⟨p, rfl, h⟩ := r
    rcases h with ⟨_, h | ⟨o, h⟩⟩ | ⟨o, its, n, hk, hc, _⟩
    · exact .base (.lst h)
    · exact .base (.frz h)
    · exact .kList hk hc
  | dct t ks vs =>
    simp only [Rep] at r
    obtain ⟨p, rfl, _, h⟩ := r
    rcases h with ⟨rfl, kv, h, _⟩ | ⟨rfl, kv, h, _⟩
    · cases e; exact rdK h
    · cases e
  | obj _ _ _ => cases e
  | ref n =>
    simp only [Rep] at r
    obtain ⟨p, rfl, ha⟩ := r
    dsimp only at e
    split at e
    · rename_i hs
      cases e
      obtain ⟨vs, h, _⟩ := hr.obs _ _ _ ha hs
      exact .base (.lst h)
    · rename_i hs
      cases e
      rcases hr.obs _ _ _ ha hs with ⟨_, kv, h, _⟩ | ⟨_, kv, h, _⟩
      · exact .base (.dK h)
      · exact .base (.dT h)
    · cases e
def tys : List String := ["NoneType", "bool", "int", "str", "tuple", "list", "dict"]
theorem kitB_all : (tys.all fun a => tys.all fun T => decide (kitB a T = some (isaB a T))) = true := by decide +kernel
theorem kitB_isa {a T : String} (h1 : a ∈ tys) (h2 : T ∈ tys) : kitB a T = some (isaB a T) := of_decide_eq_true (List.all_eq_true.mp (List.all_eq_true.mp kitB_all a h1) T h2)
theorem tyD_mem {d : Dat} {S : Sto} {a : String} (e : tyD d S = some a) : a ∈ tys := by
  unfold tyD at e
  repeat' split at e
  all_goals first | (cases e; done) | (cases e; decide)
def oIsa (T : String) : O1 := fun x S => match tyD x S with
  | some a => .ok (.bl (isaB a T)) S
  | none => .stuck
theorem de_isa {T : String} {e : Expr} {f : EF} {p p2 pos : Pos} {x2 : Str} (c : Ctx G X W) (he : DE G X W e f) (hT : T ∈ tys) (hg : Gl X "isinstance") (hm : X.mg "isinstance" = none) (hg2 : Gl X x2) (hm2 : X.mg x2 = none) (hv2 : bootBuiltins x2 = some (.type T)) (hn2 : x2 ≠ "__name__" := by decide) (hd2 : (x2 == ("__debug__" : Str)) = false := by decide)
    (hs : starEach (e :: [.Name x2 p2]) X.env = (false, eval e X.env) :: starEach [.Name x2 p2] X.env := by rfl) (hs2 : starEach [.Name x2 p2] X.env = (false, eval (.Name x2 p2) X.env) :: starEach [] X.env := by rfl) (hpl : (backTo pos (starEach [.Name x2 p2] X.env)).any (·.1) = false := by rfl) :
    DE G X W (.Call (.Name "isinstance" p) [e, .Name x2 p2] [] pos) (e1 (oIsa T) f) := by
  obtain ⟨t, q, s⟩ := he.ex
  refine ⟨_, pe_callB call_isi hg hm (by decide +kernel) (pa_cons q (pa_cons (pe_bltn (v := .ty T) hg2 hm2 hv2 rfl hn2 hd2) pa_nil hs2) hs) (by decide) (by decide) hs hpl, fun F as S H σd σ Q hr hs hp => s F as S H σd σ _ hr hs (hp.bind fun d S1 v F1 as1 H1 _ n1 r1 h1 => ?_)⟩
  unfold oIsa at h1
  split at h1
  · rename_i a e
    refine ⟨v, .ty T, .type a, .type T, isaB a T, rfl, .ty T, ?_, kit_ty (kitB_isa (tyD_mem e) hT), h1.now n1.hr (by simp only [Rep])⟩
    rw [c.K]
    exact tyD_rep n1.hr e r1
  · exact h1.elim
end
end Fx

namespace Fx
open PySem PySem.Spec PyProof.Rows L2

section
variable {G : Gc} {X : Cx} {W : WX}
theorem PI.or {tg iter : Expr} {t t' : TI} (h : PI X tg iter t) (h' : PI X tg iter t') : PI X tg iter (fun σ H R => t σ H R ∨ t' σ H R) := ⟨fun pins s σ H R I q => by
  rcases q with q | q
  · exact h.run pins s σ H R I q
  · exact h'.run pins s σ H R I q⟩
/-- it stands as it stood -/
def stands (d : Dat) (xs : List Dat) : Sto → Bool := fun S => decide (seqA d S = some xs)
def iSeq (f : EF) : IF := fun σ S => (f σ S).bind fun d S1 => match seqA d S1 with
  | some xs => .ok (xs, stands d xs) S1
  | none => .stuck
theorem seqA_kind {d : Dat} {S S' : Sto} {xs ys : List Dat} (h1 : seqA d S = some xs) (h2 : seqA d S' = some ys) : (seqT d).isSome = (seqT d).isSome := rfl
/-- the kind of sequence that d is, at any time -/
theorem seqA_at {F as : List Addr} {S : Sto} {H : Hp} (hr : HR G F as S H) {d : Dat} {v : V} {xs : List Dat} (h : Rep G F as H d v) (e : seqA d S = some xs) : ∃ a vs, v = .ref a ∧ SqX G.K H (seqT d).isSome a vs ∧ RepL G F as H xs vs := by
  obtain ⟨k, a, vs, rfl, h1, h2, k1, k2⟩ := seqA_rep hr h e
  refine ⟨a, vs, rfl, ?_, h2⟩
  cases k with
  | true => rw [k1 rfl]; exact h1
  | false =>
    have : seqT d = none := by
      cases d <;> first | rfl | skip
      have := k2 rfl
      simp [seqL] at this
    rw [this]; exact h1
/-- a walk over a list or tuple -/
def ItS (K : PySem.W.Frag) (k : Bool) (a : Addr) : It := if k = true then Itt K a else Itl K a
theorem wk_seq {F as : List Addr} {S : Sto} {H : Hp} (hr : HR G F as S H) {d : Dat} {a : Addr} {xs : List Dat} (r : Rep G F as H d (.ref a)) : Wk G (ItS G.K (seqT d).isSome a) F as S H xs (stands d xs) := by
  have go : ∀ F' as' S' H', Nxt G F as S H F' as' S' H' → stands d xs S' = true → ∃ vs, SqX G.K H' (seqT d).isSome a vs ∧ RepL G F' as' H' xs vs := fun F' as' S' H' n h => by
    obtain ⟨b, vs, e, h1, h2⟩ := seqA_at n.hr (r.nxt hr n) (of_decide_eq_true h)
    cases e
    exact ⟨vs, h1, h2⟩
  refine ⟨fun i x F' as' S' H' n h hx => ?_, fun F' as' S' H' n h => ?_⟩
  · obtain ⟨vs, h1, h2⟩ := go F' as' S' H' n h
    obtain ⟨v, e, rv⟩ := h2.get hx
    cases k : (seqT d).isSome with
    | true =>
      rw [k] at h1
      exact ⟨⟨vs, v, h1, e⟩, fun u H'' hy => by
        obtain ⟨rfl, y⟩ := hy
        have := y vs h1
        rw [e] at this; cases this
        exact ⟨F', .refl n.hr, rv⟩⟩
    | false =>
      rw [k] at h1
      exact ⟨⟨vs, v, h1, e⟩, fun u H'' hy => by
        obtain ⟨rfl, y⟩ := hy
        have := y vs h1
        rw [e] at this; cases this
        exact ⟨F', .refl n.hr, rv⟩⟩
  · obtain ⟨vs, h1, h2⟩ := go F' as' S' H' n h
    cases k : (seqT d).isSome with
    | true => rw [k] at h1; exact ⟨vs, h1, Nat.le_of_eq h2.length.symm⟩
    | false => rw [k] at h1; exact ⟨vs, h1, Nat.le_of_eq h2.length.symm⟩
theorem di_seq {tg e : Expr} {f : EF} (c : Ctx G X W) (he : DE G X W e f) : DI G X W tg e (iSeq f) := by
  obtain ⟨t, p, s⟩ := he.ex
  refine ⟨_, PI.or (pi_list p) (pi_tup p), fun F as S H σd σ R hr hs hp => ?_⟩
  unfold iSeq at hp
  cases e0 : f σd S with
  | stuck => rw [e0] at hp; exact hp.elim
  | exc e1 S1 =>
    rw [e0] at hp
    exact .inl (s F as S H σd σ _ hr hs (by rw [e0]; exact hp))
  | ok d S1 =>
    rw [e0, Res.bind_ok] at hp
    cases e1 : seqA d S1 with
    | none => rw [e1] at hp; exact hp.elim
    | some xs =>
      rw [e1] at hp
      have go : ∀ b F1 as1 H1, Nxt G F as S H F1 as1 S1 H1 → Rep G F1 as1 H1 d b → ∃ a vs, b = .ref a ∧ SqX G.K H1 (seqT d).isSome a vs ∧ R (ItS G.K (seqT d).isSome a) H1 := fun b F1 as1 H1 n r => by
        obtain ⟨a, vs, rfl, h1, h2⟩ := seqA_at n.hr r e1
        exact ⟨a, vs, rfl, h1, hp _ F1 as1 H1 n (wk_seq n.hr r)⟩
      cases k : (seqT d).isSome with
      | true =>
        refine .inr (s F as S H σd σ _ hr hs ?_)
        rw [e0]
        intro b F1 as1 H1 n r
        obtain ⟨a, vs, rfl, h1, h2⟩ := go b F1 as1 H1 n r
        rw [k] at h1 h2
        rw [c.K]
        exact ⟨a, rfl, ⟨vs, h1⟩, h2⟩
      | false =>
        refine .inl (s F as S H σd σ _ hr hs ?_)
        rw [e0]
        intro b F1 as1 H1 n r
        obtain ⟨a, vs, rfl, h1, h2⟩ := go b F1 as1 H1 n r
        rw [k] at h1 h2
        rw [c.K]
        exact ⟨a, rfl, ⟨vs, h1⟩, h2⟩
theorem snd_args {α : Type} {t : TA} {g : AF} {it : List Dat → Sto → Res (List Dat × (Sto → Bool))} {k : List V → Hp → (It → Hp → Prop) → Prop} (s : Snd G (RepL G) W t g)
    (hk : ∀ F as S H ds vs (R : It → Hp → Prop), HR G F as S H → RepL G F as H ds vs → (match it ds S with | .ok p S1 => S1 = S ∧ ∀ J F1 as1 H1, Nxt G F as S H F1 as1 S1 H1 → Wk G J F1 as1 S1 H1 p.1 p.2 → R J H1 | _ => False) → k vs H R)
    (hst : ∀ ds S p S1, it ds S = .ok p S1 → S1 = S) (hnx : ∀ ds S e S1, it ds S ≠ .exc e S1) : SndI G W (fun σ H R => t σ H fun vs H1 => k vs H1 R) (fun σ S => (g σ S).bind it) := by
  intro F as S H σd σ R hr hs hp
  cases e0 : g σd S with
  | stuck => simp only [e0, Res.bind_stuck] at hp
  | exc e1 S1 =>
    simp only [e0, Res.bind_exc] at hp
    exact s F as S H σd σ _ hr hs (by rw [e0]; exact hp)
  | ok ds S1 =>
    simp only [e0, Res.bind_ok] at hp
    refine s F as S H σd σ _ hr hs ?_
    rw [e0]
    intro vs F1 as1 H1 n r
    refine hk F1 as1 S1 H1 ds vs R n.hr r ?_
    cases e2 : it ds S1 with
    | stuck => simp only [e2] at hp
    | exc e3 S3 => exact absurd e2 (hnx _ _ _ _)
    | ok p S3 =>
      simp only [e2] at hp
      exact ⟨hst _ _ _ _ e2, fun J F2 as2 H2 n2 wk => hp J F2 as2 H2 (n.trans n2) wk⟩
def rangeD (lo c : Int) : Nat → List Dat
  | 0 => []
  | n + 1 => .int lo :: rangeD (lo + c) c n
theorem rangeD_len : ∀ (n : Nat) (lo c : Int), (rangeD lo c n).length = n
  | 0, _, _ => rfl
  | n + 1, lo, c => by simp only [rangeD, List.length_cons, rangeD_len n]
theorem rangeD_get : ∀ (n : Nat) (lo c : Int) (i : Nat), i < n → (rangeD lo c n)[i]? = some (.int (lo + (i : Nat) * c))
  | 0, _, _, i, h => absurd h (Nat.not_lt_zero _)
  | n + 1, lo, c, 0, _ => by simp [rangeD]
  | n + 1, lo, c, i + 1, h => by
    simp only [rangeD, List.getElem?_cons_succ]
    rw [rangeD_get n (lo + c) c i (Nat.lt_of_succ_lt_succ h)]
    congr 2
    rw [Int.natCast_add, Int.add_mul]
    omega
def fit62 (i : Int) : Bool := decide (-(2 ^ 62) ≤ i) && decide (i < 2 ^ 62)
theorem fit62_le {i : Int} (h : fit62 i = true) : -(2 ^ 62) ≤ i ∧ i < 2 ^ 62 := by simpa only [fit62, Bool.and_eq_true, decide_eq_true_eq] using h
def itRng1 (ds : List Dat) (S : Sto) : Res (List Dat × (Sto → Bool)) := match ds with
  | [.int j] => .guard (fit62 j) (.ok (rangeD 0 1 j.toNat, fun _ => true) S)
  | _ => .stuck
def itRng2 (ds : List Dat) (S : Sto) : Res (List Dat × (Sto → Bool)) := match ds with
  | [.int i, .int j] => .guard (fit62 i && fit62 j) (.ok (rangeD i 1 (j - i).toNat, fun _ => true) S)
  | _ => .stuck
def itRng3 (ds : List Dat) (S : Sto) : Res (List Dat × (Sto → Bool)) := match ds with
  | [.int i, .int j, .int c] => .guard (fit62 i && (fit62 j && decide (c = -1))) (.ok (rangeD i (-1) (i - j).toNat, fun _ => true) S)
  | _ => .stuck
theorem wk_rng {F as : List Addr} {S : Sto} {H : Hp} (lo c : Int) (n : Nat) (J : It) (h1 : ∀ i H, i < n → J.go i H) (h2 : ∀ i H v H', J.yld i H v H' → H' = H ∧ v = .int (lo + (i : Nat) * c)) (h3 : ∀ i H, n ≤ i → J.stop i H) : Wk G J F as S H (rangeD lo c n) (fun _ => true) := by
  refine ⟨fun i x F' as' S' H' nx _ hx => ?_, fun F' as' S' H' nx _ => h3 _ _ (by rw [rangeD_len]; exact Nat.le_refl _)⟩
  have hi : i < n := by
    have := (List.getElem?_eq_some_iff.mp hx).1
    rwa [rangeD_len] at this
  refine ⟨h1 i H' hi, fun v H'' hy => ?_⟩
  obtain ⟨rfl, rfl⟩ := h2 _ _ _ _ hy
  rw [rangeD_get n lo c i hi] at hx
  cases hx
  exact ⟨F', .refl nx.hr, by simp only [Rep]⟩
theorem guard_ok {α : Type} {b : Bool} {r : Res α} {p : α} {S1 : Sto} (h : Res.guard b r = .ok p S1) : b = true ∧ r = .ok p S1 := by
  cases b with
  | true => exact ⟨rfl, h⟩
  | false => cases h
theorem guard_exc {α : Type} {b : Bool} {r : Res α} {e : Ex} {S1 : Sto} (h : Res.guard b r = .exc e S1) : b = true ∧ r = .exc e S1 := by
  cases b with
  | true => exact ⟨rfl, h⟩
  | false => cases h
theorem di_range1 {tg a : Expr} {g : AF} {p pos : Pos} (hg : Gl X "range") (hm : X.mg "range" = none) (ha : DA G X W [a] g) (hs : starEach [a] X.env = [(false, eval a X.env)] := by rfl) : DI G X W tg (.Call (.Name "range" p) [a] [] pos) (fun σ S => (g σ S).bind itRng1) := by
  obtain ⟨t, q, s⟩ := ha.ex
  refine ⟨_, pi_range1 hg hm q hs, snd_args (α := Unit) (k := fun vs H1 R => ∃ j : Int, vs = [.int j] ∧ -(2 ^ 62) ≤ j ∧ j < 2 ^ 62 ∧ R (Itr 0 j.toNat) H1) s (fun F as S H ds vs R hr r hp => ?_) (fun ds S p S1 h => ?_) (fun ds S e S1 h => ?_)⟩
  · revert hp
    cases e : itRng1 ds S with
    | stuck => exact fun hp => hp.elim
    | exc _ _ => exact fun hp => hp.elim
    | ok p S1 =>
      rintro ⟨rfl, hp⟩
      unfold itRng1 at e
      split at e
      · rename_i j
        obtain ⟨g1, e⟩ := guard_ok e
        cases e
        obtain ⟨v, rfl, r1⟩ := r.one
        cases r1.int_iff
        exact ⟨j, rfl, (fit62_le g1).1, (fit62_le g1).2, hp _ F as H (.refl hr) (wk_rng 0 1 j.toNat (Itr 0 j.toNat) (fun i H h => h) (fun i H v H' h => ⟨h.1, by rw [h.2, Int.mul_one]⟩) (fun i H h => h))⟩
      · cases e
  · unfold itRng1 at h
    split at h
    · obtain ⟨_, h⟩ := guard_ok h; cases h; rfl
    · cases h
  · unfold itRng1 at h
    split at h
    · obtain ⟨_, h⟩ := guard_exc h; cases h
    · cases h
theorem di_range2 {tg a b : Expr} {g : AF} {p pos : Pos} (hg : Gl X "range") (hm : X.mg "range" = none) (ha : DA G X W [a, b] g) (hs : starEach [a, b] X.env = [(false, eval a X.env), (false, eval b X.env)] := by rfl) (hs2 : starEach [b] X.env = [(false, eval b X.env)] := by rfl) : DI G X W tg (.Call (.Name "range" p) [a, b] [] pos) (fun σ S => (g σ S).bind itRng2) := by
  obtain ⟨t, q, s⟩ := ha.ex
  refine ⟨_, pi_range2 hg hm q hs hs2, snd_args (α := Unit) (k := fun vs H1 R => ∃ i j : Int, vs = [.int i, .int j] ∧ (-(2 ^ 62) ≤ i ∧ i < 2 ^ 62 ∧ -(2 ^ 62) ≤ j ∧ j < 2 ^ 62) ∧ R (Itr i (j - i).toNat) H1) s (fun F as S H ds vs R hr r hp => ?_) (fun ds S p S1 h => ?_) (fun ds S e S1 h => ?_)⟩
  · revert hp
    cases e : itRng2 ds S with
    | stuck => exact fun hp => hp.elim
    | exc _ _ => exact fun hp => hp.elim
    | ok p S1 =>
      rintro ⟨rfl, hp⟩
      unfold itRng2 at e
      split at e
      · rename_i i j
        obtain ⟨g1, e⟩ := guard_ok e
        rw [Bool.and_eq_true] at g1
        cases e
        obtain ⟨v, u, rfl, r1, r2⟩ := r.two
        cases r1.int_iff
        cases r2.int_iff
        exact ⟨i, j, rfl, ⟨(fit62_le g1.1).1, (fit62_le g1.1).2, (fit62_le g1.2).1, (fit62_le g1.2).2⟩, hp _ F as H (.refl hr) (wk_rng i 1 (j - i).toNat (Itr i (j - i).toNat) (fun i H h => h) (fun i H v H' h => ⟨h.1, by rw [h.2, Int.mul_one]⟩) (fun i H h => h))⟩
      · cases e
  · unfold itRng2 at h
    split at h
    · obtain ⟨_, h⟩ := guard_ok h; cases h; rfl
    · cases h
  · unfold itRng2 at h
    split at h
    · obtain ⟨_, h⟩ := guard_exc h; cases h
    · cases h
theorem RepL.three {F as : List Addr} {H : Hp} {x y z : Dat} {vs : List V} (h : RepL G F as H [x, y, z] vs) : ∃ v u w, vs = [v, u, w] ∧ Rep G F as H x v ∧ Rep G F as H y u ∧ Rep G F as H z w := by
  simp only [RepL] at h
  obtain ⟨v, _, rfl, r, u, _, rfl, r2, w, _, rfl, r3, rfl⟩ := h
  exact ⟨v, u, w, rfl, r, r2, r3⟩
theorem di_range3 {tg a b c : Expr} {g : AF} {p pos : Pos} (hg : Gl X "range") (hm : X.mg "range" = none) (ha : DA G X W [a, b, c] g) (hs : starEach [a, b, c] X.env = (false, eval a X.env) :: starEach [b, c] X.env := by rfl) (hpl : (backTo pos (starEach [b, c] X.env)).any (·.1) = false := by rfl) : DI G X W tg (.Call (.Name "range" p) [a, b, c] [] pos) (fun σ S => (g σ S).bind itRng3) := by
  obtain ⟨t, q, s⟩ := ha.ex
  refine ⟨_, pi_range3 hg hm q hs hpl, snd_args (α := Unit) (k := fun vs H1 R => ∃ (i j c : Int) (n : Nat), vs = [.int i, .int j, .int c] ∧ RgC i j c n ∧ R (Itc i c n) H1) s (fun F as S H ds vs R hr r hp => ?_) (fun ds S p S1 h => ?_) (fun ds S e S1 h => ?_)⟩
  · revert hp
    cases e : itRng3 ds S with
    | stuck => exact fun hp => hp.elim
    | exc _ _ => exact fun hp => hp.elim
    | ok p S1 =>
      rintro ⟨rfl, hp⟩
      unfold itRng3 at e
      split at e
      · rename_i i j k
        obtain ⟨g1, e⟩ := guard_ok e
        simp only [Bool.and_eq_true, decide_eq_true_eq] at g1
        obtain ⟨g1, g2, g3⟩ := g1
        cases e
        subst g3
        obtain ⟨v, u, w', rfl, r1, r2, r3⟩ := r.three
        cases r1.int_iff
        cases r2.int_iff
        cases r3.int_iff
        exact ⟨i, j, -1, (i - j).toNat, rfl, RgC.neg (fit62_le g1).1 (fit62_le g1).2 (fit62_le g2).1 (fit62_le g2).2, hp _ F as H (.refl hr) (wk_rng i (-1) (i - j).toNat (Itc i (-1) (i - j).toNat) (fun i H h => h) (fun i H v H' h => ⟨h.1, h.2⟩) (fun i H h => h))⟩
      · cases e
  · unfold itRng3 at h
    split at h
    · obtain ⟨_, h⟩ := guard_ok h; cases h; rfl
    · cases h
  · unfold itRng3 at h
    split at h
    · obtain ⟨_, h⟩ := guard_exc h; cases h
    · cases h
def enumD : Nat → List Dat → List Dat
  | _, [] => []
  | i, x :: r => .tup [.int i, x] :: enumD (i + 1) r
theorem enumD_len : ∀ (i : Nat) (xs : List Dat), (enumD i xs).length = xs.length
  | _, [] => rfl
  | i, x :: r => by simp only [enumD, List.length_cons, enumD_len (i + 1) r]
theorem enumD_get : ∀ (k : Nat) (xs : List Dat) (i : Nat), (enumD k xs)[i]? = (xs[i]?).map fun x => .tup [.int ((k + i : Nat) : Int), x]
  | _, [], i => by simp [enumD]
  | k, x :: r, 0 => by simp [enumD]
  | k, x :: r, i + 1 => by
    simp only [enumD, List.getElem?_cons_succ]
    rw [enumD_get (k + 1) r i]
    have : k + 1 + i = k + (i + 1) := by omega
    rw [this]
def zipD : List Dat → List Dat → List Dat
  | x :: xs, y :: ys => .tup [x, y] :: zipD xs ys
  | _, _ => []
theorem zipD_len : ∀ (xs ys : List Dat), (zipD xs ys).length = min xs.length ys.length
  | [], _ => by simp [zipD]
  | _ :: _, [] => by simp [zipD]
  | x :: xs, y :: ys => by simp only [zipD, List.length_cons, zipD_len xs ys]; omega
theorem zipD_get : ∀ (xs ys : List Dat) (i : Nat) (d : Dat), (zipD xs ys)[i]? = some d → ∃ x y, xs[i]? = some x ∧ ys[i]? = some y ∧ d = .tup [x, y]
  | [], _, _, _, h => by simp [zipD] at h
  | _ :: _, [], _, _, h => by simp [zipD] at h
  | x :: xs, y :: ys, 0, d, h => by simp [zipD] at h; exact ⟨x, y, rfl, rfl, h.symm⟩
  | x :: xs, y :: ys, i + 1, d, h => by
    simp only [zipD, List.getElem?_cons_succ] at h
    exact zipD_get xs ys i d h
def zipD3 : List Dat → List Dat → List Dat → List Dat
  | x :: xs, y :: ys, z :: zs => .tup [x, y, z] :: zipD3 xs ys zs
  | _, _, _ => []
theorem zipD3_len : ∀ (xs ys zs : List Dat), (zipD3 xs ys zs).length = min (min xs.length ys.length) zs.length
  | [], _, _ => by simp [zipD3]
  | _ :: _, [], _ => by simp [zipD3]
  | _ :: _, _ :: _, [] => by simp [zipD3]
  | x :: xs, y :: ys, z :: zs => by simp only [zipD3, List.length_cons, zipD3_len xs ys zs]; omega
theorem zipD3_get : ∀ (xs ys zs : List Dat) (i : Nat) (d : Dat), (zipD3 xs ys zs)[i]? = some d → ∃ x y z, xs[i]? = some x ∧ ys[i]? = some y ∧ zs[i]? = some z ∧ d = .tup [x, y, z]
  | [], _, _, _, _, h => by simp [zipD3] at h
  | _ :: _, [], _, _, _, h => by simp [zipD3] at h
  | _ :: _, _ :: _, [], _, _, h => by simp [zipD3] at h
  | x :: xs, y :: ys, z :: zs, 0, d, h => by simp [zipD3] at h; exact ⟨x, y, z, rfl, rfl, rfl, h.symm⟩
  | x :: xs, y :: ys, z :: zs, i + 1, d, h => by
    simp only [zipD3, List.getElem?_cons_succ] at h
    exact zipD3_get xs ys zs i d h
def itEnum (ds : List Dat) (S : Sto) : Res (List Dat × (Sto → Bool)) := match ds with
  | [d] => match seqA d S with
    | some xs => .ok (enumD 0 xs, stands d xs) S
    | none => .stuck
  | _ => .stuck
def itZip (ds : List Dat) (S : Sto) : Res (List Dat × (Sto → Bool)) := match ds with
  | [d, e] => match seqA d S, seqA e S with
    | some xs, some ys => .ok (zipD xs ys, fun S => stands d xs S && stands e ys S) S
    | _, _ => .stuck
  | _ => .stuck
def itZip3 (ds : List Dat) (S : Sto) : Res (List Dat × (Sto → Bool)) := match ds with
  | [d, e, f] => match seqA d S, seqA e S, seqA f S with
    | some xs, some ys, some zs => .ok (zipD3 xs ys zs, fun S => stands d xs S && (stands e ys S && stands f zs S)) S
    | _, _, _ => .stuck
  | _ => .stuck
theorem stands_at {F as F' as' : List Addr} {S S' : Sto} {H H' : Hp} (hr : HR G F as S H) {d : Dat} {a : Addr} {xs : List Dat} (r : Rep G F as H d (.ref a)) (n : Nxt G F as S H F' as' S' H') (h : stands d xs S' = true) : ∃ vs, SqX G.K H' (seqT d).isSome a vs ∧ RepL G F' as' H' xs vs := by
  obtain ⟨b, vs, e, h1, h2⟩ := seqA_at n.hr (r.nxt hr n) (of_decide_eq_true h)
  cases e
  exact ⟨vs, h1, h2⟩
theorem di_enum {a : Expr} {elts : List Expr} {kk : Nat} {g : AF} {p pos tpos : Pos} (c : Ctx G X W) (hg : Gl X "enumerate") (hm : X.mg "enumerate" = none) (ha : DA G X W [a] g) (hs : starEach [a] X.env = [(false, eval a X.env)] := by rfl) :
    DI G X W (.Tuple elts kk tpos) (.Call (.Name "enumerate" p) [a] [] pos) (fun σ S => (g σ S).bind itEnum) := by
  obtain ⟨t, q, s⟩ := ha.ex
  refine ⟨_, pi_enumX hg hm q hs, snd_args (α := Unit) (k := fun vs H1 R => ∃ k a xs, vs = [.ref a] ∧ SqX X.K H1 k a xs ∧ R (ItE X.K k a) H1) s (fun F as S H ds vs R hr r hp => ?_) (fun ds S p S1 h => ?_) (fun ds S e S1 h => ?_)⟩
  · revert hp
    cases e : itEnum ds S with
    | stuck => exact fun hp => hp.elim
    | exc _ _ => exact fun hp => hp.elim
    | ok p S1 =>
      rintro ⟨rfl, hp⟩
      unfold itEnum at e
      split at e
      · rename_i d
        split at e
        · rename_i xs e1
          cases e
          obtain ⟨v, rfl, r1⟩ := r.one
          obtain ⟨a, vs, rfl, h1, h2⟩ := seqA_at hr r1 e1
          rw [c.K]
          refine ⟨_, a, vs, rfl, h1, hp _ F as H (.refl hr) ⟨fun i x F' as' S' H' n h hx => ?_, fun F' as' S' H' n h => ?_⟩⟩
          · obtain ⟨us, h3, h4⟩ := stands_at hr r1 n h
            rw [enumD_get] at hx
            obtain ⟨y, hy, rfl⟩ := Option.map_eq_some_iff.mp hx
            obtain ⟨w, ew, rw'⟩ := h4.get hy
            refine ⟨⟨us, w, h3, ew⟩, fun v H'' hy => ?_⟩
            obtain ⟨T, z, rfl, nT, rfl, hz⟩ := hy
            have := hz us h3
            rw [ew] at this
            cases this
            refine ⟨T :: F', Nxt.laid n.hr nT _, Rep.new_tup n.hr nT (.cons (by simp only [Rep, Nat.zero_add]) (.cons rw' .nil))⟩
          · obtain ⟨us, h3, h4⟩ := stands_at hr r1 n h
            exact ⟨us, h3, by rw [enumD_len]; exact h4.length.symm⟩
        · cases e
      · cases e
  · unfold itEnum at h
    repeat' split at h
    all_goals first | (cases h; rfl) | cases h
  · unfold itEnum at h
    repeat' split at h
    all_goals cases h
theorem di_zip {a b : Expr} {elts : List Expr} {kk : Nat} {g : AF} {p pos tpos : Pos} (c : Ctx G X W) (hg : Gl X "zip") (hm : X.mg "zip" = none) (ha : DA G X W [a, b] g) (hs : starEach [a, b] X.env = (false, eval a X.env) :: starEach [b] X.env := by rfl) (hpl : (backTo pos (starEach [b] X.env)).any (·.1) = false := by rfl) :
    DI G X W (.Tuple elts kk tpos) (.Call (.Name "zip" p) [a, b] [] pos) (fun σ S => (g σ S).bind itZip) := by
  obtain ⟨t, q, s⟩ := ha.ex
  refine ⟨_, pi_zipX hg hm q hs hpl, snd_args (α := Unit) (k := fun vs H1 R => ∃ k l a b xs ys, vs = [.ref a, .ref b] ∧ SqX X.K H1 k a xs ∧ SqX X.K H1 l b ys ∧ R (ItZ X.K k l a b) H1) s (fun F as S H ds vs R hr r hp => ?_) (fun ds S p S1 h => ?_) (fun ds S e S1 h => ?_)⟩
  · revert hp
    cases e : itZip ds S with
    | stuck => exact fun hp => hp.elim
    | exc _ _ => exact fun hp => hp.elim
    | ok p S1 =>
      rintro ⟨rfl, hp⟩
      unfold itZip at e
      split at e
      · rename_i d d'
        split at e
        · rename_i xs ys e1 e2
          cases e
          obtain ⟨v, u, rfl, r1, r2⟩ := r.two
          obtain ⟨a, vs, rfl, h1, h2⟩ := seqA_at hr r1 e1
          obtain ⟨b, us, rfl, h3, h4⟩ := seqA_at hr r2 e2
          rw [c.K]
          refine ⟨_, _, a, b, vs, us, rfl, h1, h3, hp _ F as H (.refl hr) ⟨fun i x F' as' S' H' n h hx => ?_, fun F' as' S' H' n h => ?_⟩⟩
          · dsimp only at h
            rw [Bool.and_eq_true] at h
            obtain ⟨vs', h5, h6⟩ := stands_at hr r1 n h.1
            obtain ⟨us', h7, h8⟩ := stands_at hr r2 n h.2
            obtain ⟨x1, y1, ex, ey, rfl⟩ := zipD_get _ _ _ _ hx
            obtain ⟨w, ew, rw'⟩ := h6.get ex
            obtain ⟨w2, ew2, rw2⟩ := h8.get ey
            refine ⟨⟨vs', us', w, w2, h5, h7, ew, ew2⟩, fun v H'' hy => ?_⟩
            obtain ⟨T, z, z2, rfl, nT, rfl, hz, hz2⟩ := hy
            have := hz vs' h5
            rw [ew] at this
            cases this
            have := hz2 us' h7
            rw [ew2] at this
            cases this
            exact ⟨T :: F', Nxt.laid n.hr nT _, Rep.new_tup n.hr nT (.cons rw' (.cons rw2 .nil))⟩
          · dsimp only at h
            rw [Bool.and_eq_true] at h
            obtain ⟨vs', h5, h6⟩ := stands_at hr r1 n h.1
            obtain ⟨us', h7, h8⟩ := stands_at hr r2 n h.2
            exact ⟨vs', us', h5, h7, by rw [zipD_len, h6.length, h8.length]⟩
        · cases e
      · cases e
  · unfold itZip at h
    repeat' split at h
    all_goals first | (cases h; rfl) | cases h
  · unfold itZip at h
    repeat' split at h
    all_goals cases h
theorem di_zip3 {a b c' : Expr} {elts : List Expr} {kk : Nat} {g : AF} {p pos tpos : Pos} (c : Ctx G X W) (hg : Gl X "zip") (hm : X.mg "zip" = none) (ha : DA G X W [a, b, c'] g) (hs : starEach [a, b, c'] X.env = (false, eval a X.env) :: starEach [b, c'] X.env := by rfl) (hpl : (backTo pos (starEach [b, c'] X.env)).any (·.1) = false := by rfl) :
    DI G X W (.Tuple elts kk tpos) (.Call (.Name "zip" p) [a, b, c'] [] pos) (fun σ S => (g σ S).bind itZip3) := by
  obtain ⟨t, q, s⟩ := ha.ex
  refine ⟨_, pi_zipX3 hg hm q hs hpl, snd_args (α := Unit) (k := fun vs H1 R => ∃ k l m a b c xs ys zs, vs = [.ref a, .ref b, .ref c] ∧ SqX X.K H1 k a xs ∧ SqX X.K H1 l b ys ∧ SqX X.K H1 m c zs ∧ R (ItZ3 X.K k l m a b c) H1) s (fun F as S H ds vs R hr r hp => ?_) (fun ds S p S1 h => ?_) (fun ds S e S1 h => ?_)⟩
  · revert hp
    cases e : itZip3 ds S with
    | stuck => exact fun hp => hp.elim
    | exc _ _ => exact fun hp => hp.elim
    | ok p S1 =>
      rintro ⟨rfl, hp⟩
      unfold itZip3 at e
      split at e
      · rename_i d d' d''
        split at e
        · rename_i xs ys zs e1 e2 e3
          cases e
          obtain ⟨v, u, w0, rfl, r1, r2, r3⟩ := r.three
          obtain ⟨a, vs, rfl, h1, h2⟩ := seqA_at hr r1 e1
          obtain ⟨b, us, rfl, h3, h4⟩ := seqA_at hr r2 e2
          obtain ⟨b2, us2, rfl, k3, k4⟩ := seqA_at hr r3 e3
          rw [c.K]
          refine ⟨_, _, _, a, b, b2, vs, us, us2, rfl, h1, h3, k3, hp _ F as H (.refl hr) ⟨fun i x F' as' S' H' n h hx => ?_, fun F' as' S' H' n h => ?_⟩⟩
          · dsimp only at h
            rw [Bool.and_eq_true, Bool.and_eq_true] at h
            obtain ⟨vs', h5, h6⟩ := stands_at hr r1 n h.1
            obtain ⟨us', h7, h8⟩ := stands_at hr r2 n h.2.1
            obtain ⟨ws', h9, h10⟩ := stands_at hr r3 n h.2.2
            obtain ⟨x1, y1, z1, ex, ey, ez, rfl⟩ := zipD3_get _ _ _ _ _ hx
            obtain ⟨w, ew, rw'⟩ := h6.get ex
            obtain ⟨w2, ew2, rw2⟩ := h8.get ey
            obtain ⟨w3, ew3, rw3⟩ := h10.get ez
            refine ⟨⟨vs', us', ws', w, w2, w3, h5, h7, h9, ew, ew2, ew3⟩, fun v H'' hy => ?_⟩
            obtain ⟨T, z, z2, z3, rfl, nT, rfl, hz, hz2, hz3⟩ := hy
            have := hz vs' h5
            rw [ew] at this
            cases this
            have := hz2 us' h7
            rw [ew2] at this
            cases this
            have := hz3 ws' h9
            rw [ew3] at this
            cases this
            exact ⟨T :: F', Nxt.laid n.hr nT _, Rep.new_tup n.hr nT (.cons rw' (.cons rw2 (.cons rw3 .nil)))⟩
          · dsimp only at h
            rw [Bool.and_eq_true, Bool.and_eq_true] at h
            obtain ⟨vs', h5, h6⟩ := stands_at hr r1 n h.1
            obtain ⟨us', h7, h8⟩ := stands_at hr r2 n h.2.1
            obtain ⟨ws', h9, h10⟩ := stands_at hr r3 n h.2.2
            exact ⟨vs', us', ws', h5, h7, h9, by rw [zipD3_len, h6.length, h8.length, h10.length]⟩
        · cases e
      · cases e
  · unfold itZip3 at h
    repeat' split at h
    all_goals first | (cases h; rfl) | cases h
  · unfold itZip3 at h
    repeat' split at h
    all_goals cases h
def iRev (f : EF) : IF := fun σ S => (f σ S).bind fun d S1 => match seqA d S1 with
  | some xs => .ok (xs.reverse, stands d xs) S1
  | none => .stuck
theorem di_rev {tg e : Expr} {f : EF} {p pos : Pos} (c : Ctx G X W) (hg : Gl X "reversed") (hm : X.mg "reversed" = none) (he : DE G X W e f) (hst : starEach [e] X.env = (false, eval e X.env) :: starEach [] X.env := by rfl) :
    DI G X W tg (.Call (.Name "reversed" p) [e] [] pos) (iRev f) := by
  obtain ⟨t, q, s⟩ := he.ex
  refine ⟨_, RT.pi_revA hg hm q hst, fun F as S H σd σ R hr hs hp => ?_⟩
  unfold iRev at hp
  cases e0 : f σd S with
  | stuck => rw [e0] at hp; exact hp.elim
  | exc e1 S1 =>
    rw [e0] at hp
    exact s F as S H σd σ _ hr hs (by rw [e0]; exact hp)
  | ok d S1 =>
    rw [e0, Res.bind_ok] at hp
    cases e1 : seqA d S1 with
    | none => rw [e1] at hp; exact hp.elim
    | some xs =>
      rw [e1] at hp
      refine s F as S H σd σ _ hr hs ?_
      rw [e0]
      intro b F1 as1 H1 n1 r
      obtain ⟨a, vs, rfl, h1, h2⟩ := seqA_at n1.hr r e1
      have rev : ∀ {i : Nat} {x : Dat}, xs.reverse[i]? = some x → i < vs.length ∧ xs[vs.length - 1 - i]? = some x := fun {i x} hx => by
        have hi := (List.getElem?_eq_some_iff.mp hx).1
        rw [List.length_reverse, h2.length] at hi
        refine ⟨hi, ?_⟩
        rw [List.getElem?_reverse (by rw [h2.length]; exact hi), h2.length] at hx
        exact hx
      refine ⟨a, vs, rfl, ?_⟩
      rw [c.K]
      cases k : (seqT d).isSome with
      | true =>
        rw [k] at h1
        refine .inr ⟨h1, hp _ F1 as1 H1 n1 ⟨fun i x F' as' S' H' n h hx => ?_, fun F' as' S' H' n h => by show vs.length ≤ _; rw [List.length_reverse, h2.length]; exact Nat.le_refl _⟩⟩
        obtain ⟨us, h3, h4⟩ := stands_at n1.hr r n h
        rw [k] at h3
        obtain ⟨hi, hx⟩ := rev hx
        obtain ⟨w, ew, rw'⟩ := h4.get hx
        refine ⟨⟨hi, us, w, h3, ew⟩, fun v H'' hy => ?_⟩
        obtain ⟨rfl, hz⟩ := hy
        have := hz us h3
        rw [ew] at this
        cases this
        exact ⟨F', .refl n.hr, rw'⟩
      | false =>
        rw [k] at h1
        refine .inl ⟨h1, hp _ F1 as1 H1 n1 ⟨fun i x F' as' S' H' n h hx => ?_, fun F' as' S' H' n h => by show vs.length ≤ _; rw [List.length_reverse, h2.length]; exact Nat.le_refl _⟩⟩
        obtain ⟨us, h3, h4⟩ := stands_at n1.hr r n h
        rw [k] at h3
        obtain ⟨hi, hx⟩ := rev hx
        obtain ⟨w, ew, rw'⟩ := h4.get hx
        refine ⟨⟨hi, us, w, h3, ew⟩, fun v H'' hy => ?_⟩
        obtain ⟨rfl, hz⟩ := hy
        have := hz us h3
        rw [ew] at this
        cases this
        exact ⟨F', .refl n.hr, rw'⟩

def noX {α : Type} : Res α → Res α
  | .exc _ _ => .stuck
  | r => r
def wipeD (σ : Sl) : List Nat → Sl
  | [] => σ
  | v :: vs => (wipeD σ vs).set v none
def lcGo (chk : Sto → Bool) (g : GF) (tt : BF) (te : EF) (σ0 : Sl) : List Dat → Sto → Res (List Dat)
  | [], S => .guard (chk S) (.ok [] S)
  | d :: ds, S => .guard (chk S) ((g d σ0 S).bind fun σ2 S2 => (noX (tt σ2 S2)).bind fun b S3 => if b then (noX (te σ2 S3)).bind fun y S4 => (lcGo chk g tt te σ0 ds S4).bind fun ys S5 => .ok (y :: ys) S5
      else lcGo chk g tt te σ0 ds S3)
/-- [elt for .. in .. if ..]: its items -/
def eLcA (it : IF) (g : GF) (tt : BF) (te : EF) (vs : List Nat) : AF := fun σ S => (it σ S).bind fun p S1 => .guard (small p.1.length) (lcGo p.2 g tt te (wipeD σ vs) p.1 S1)
def eLc (it : IF) (g : GF) (tt : BF) (te : EF) (vs : List Nat) : EF := fun σ S => (eLcA it g tt te vs σ S).bind fun ys S1 => .ok (.lst ys) S1
def eLcM (it : IF) (g : GF) (tt : BF) (te : EF) (vs : List Nat) : EF := fun σ S => (eLcA it g tt te vs σ S).bind fun ys S1 => .ok (.ref S1.length) (S1 ++ [.lst ys])
abbrev WF : WX := fun _ _ _ _ => False
theorem SR.wipes {F as : List Addr} {H : Hp} {σd : Sl} {σ : L2.St} (hx : G.xp = none) (h : SR G F as H σd σ) : ∀ vs : List Nat, SR G F as H (wipeD σd vs) (L2.wipe σ vs)
  | [] => h
  | v :: vs => (SR.wipes hx h vs).wipe hx v none
theorem lcGo_len {chk : Sto → Bool} {g : GF} {tt : BF} {te : EF} {σ0 : Sl} : ∀ {ds ys : List Dat} {S S' : Sto}, lcGo chk g tt te σ0 ds S = .ok ys S' → ys.length ≤ ds.length
  | [], ys, S, S', h => by
    unfold lcGo at h
    obtain ⟨_, h⟩ := guard_ok h
    cases h; exact Nat.le_refl _
  | d :: ds, ys, S, S', h => by
    unfold lcGo at h
    obtain ⟨_, h⟩ := guard_ok h
    cases e1 : g d σ0 S with
    | stuck => rw [e1] at h; cases h
    | exc _ _ => rw [e1] at h; cases h
    | ok σ2 S2 =>
      rw [e1, Res.bind_ok] at h
      cases e2 : noX (tt σ2 S2) with
      | stuck => rw [e2] at h; cases h
      | exc _ _ => rw [e2] at h; cases h
      | ok b S3 =>
        rw [e2, Res.bind_ok] at h
        cases b with
        | false =>
          simp only [Bool.false_eq_true, if_false] at h
          exact Nat.le_succ_of_le (lcGo_len h)
        | true =>
          simp only [if_true] at h
          cases e3 : noX (te σ2 S3) with
          | stuck => rw [e3] at h; cases h
          | exc _ _ => rw [e3] at h; cases h
          | ok y S4 =>
            rw [e3, Res.bind_ok] at h
            cases e4 : lcGo chk g tt te σ0 ds S4 with
            | stuck => rw [e4] at h; cases h
            | exc _ _ => rw [e4] at h; cases h
            | ok ys' S5 =>
              rw [e4, Res.bind_ok] at h
              cases h
              exact Nat.succ_le_succ (lcGo_len e4)
theorem lcGo_noX {chk : Sto → Bool} {g : GF} (hg : GF.calm g) {tt : BF} {te : EF} {σ0 : Sl} : ∀ {ds : List Dat} {S S' : Sto} {e : Ex}, lcGo chk g tt te σ0 ds S ≠ .exc e S'
  | [], S, S', e => fun h => by
    unfold lcGo at h
    obtain ⟨_, h⟩ := guard_exc h
    cases h
  | d :: ds, S, S', e => fun h => by
    unfold lcGo at h
    obtain ⟨_, h⟩ := guard_exc h
    cases e1 : g d σ0 S with
    | stuck => rw [e1] at h; cases h
    | exc _ _ => exact hg _ _ _ _ _ e1
    | ok σ2 S2 =>
      rw [e1, Res.bind_ok] at h
      cases e2 : tt σ2 S2 with
      | stuck => rw [e2] at h; cases h
      | exc _ _ => rw [e2] at h; cases h
      | ok b S3 =>
        rw [e2] at h
        simp only [noX, Res.bind_ok] at h
        cases b with
        | false =>
          simp only [Bool.false_eq_true, if_false] at h
          exact lcGo_noX hg h
        | true =>
          simp only [if_true] at h
          cases e3 : te σ2 S3 with
          | stuck => rw [e3] at h; cases h
          | exc _ _ => rw [e3] at h; cases h
          | ok y S4 =>
            rw [e3] at h
            simp only [Res.bind_ok] at h
            cases e4 : lcGo chk g tt te σ0 ds S4 with
            | stuck => rw [e4] at h; cases h
            | exc _ _ => exact lcGo_noX hg e4
            | ok ys' S5 => rw [e4, Res.bind_ok] at h; cases h
structure DTs (G : Gc) (X : Cx) (W : WX) (ifs : List Expr) (f : BF) : Prop where
  ex : ∃ t, PTs X ifs t ∧ Snd G RB W t f
def bYes : BF := fun _ S => .ok true S
theorem dts_nil : DTs G X W [] bYes := ⟨_, pts_nil, fun F as S H σd σ Q hr hs hp => hp.now hr rfl⟩
theorem dts_one {c : Expr} {f : BF} (h : DT G X W c f) : DTs G X W [c] f := by
  obtain ⟨t, p, s⟩ := h.ex
  exact ⟨_, pts_one p, s⟩
/-- what is wanted of the new list: it is no one's as yet -/
def LcK (G : Gc) (F as : List Addr) (S : Sto) (H : Hp) (Q : VK) (ys : List Dat) (S' : Sto) : Prop :=
  ∀ D us F' as' H', H D = none → Nxt G F as S H F' as' S' H' → H' D = some (.lst us) → D ∉ F' → D ∉ as' → RepL G F' as' H' ys us → Q (.ref D) H'
def PostL (G : Gc) (W : WX) (σ : L2.St) (F as : List Addr) (S : Sto) (H : Hp) (r : Res (List Dat)) (Q : VK) : Prop :=
  match r with
  | .ok ys S' => LcK G F as S H Q ys S'
  | .exc e S' => ∀ c dx F' as' H', Nxt G F as S H F' as' S' H' → ExR G F' as' H' e c dx → W c dx σ H'
  | .stuck => False
theorem snd_lc {wi : TI} {gt : TG} {tt : TT} {te : TE} {it : IF} {g : GF} {ft : BF} {fe : EF} {vs : List Nat} (s : SndI G W wi it) (sg : SndG G gt g) (hg : GF.calm g) (st : Snd G RB WF tt ft) (se : Snd G (Rep G) WF te fe) (hxp : G.xp = none)
    (hw : ∀ v σ H (Q : L2.St → Hp → Prop), gt v (wipe σ vs) H Q → gt v (wipe σ vs) H (fun σ2 H2 => wipe σ2 vs = wipe σ vs ∧ Q σ2 H2)) :
    ∀ F as S H σd σ (Q : VK), HR G F as S H → SR G F as H σd σ → PostL G W σ F as S H (eLcA it g ft fe vs σd S) Q → tLc wi gt tt te vs σ H Q := by
  intro F as S H σd σ Q hr hs hp
  refine s F as S H σd σ _ hr hs ?_
  unfold eLcA at hp
  cases e0 : it σd S with
  | stuck => rw [e0] at hp; exact hp
  | exc e1 S1 => rw [e0] at hp; exact hp
  | ok p S1 =>
    obtain ⟨items, chk⟩ := p
    rw [e0, Res.bind_ok] at hp
    cases hsm : small (items, chk).1.length with
    | false => rw [hsm] at hp; exact hp.elim
    | true =>
    rw [hsm] at hp
    simp only [Res.guard, if_true] at hp
    have hsm : items.length ≤ sizeLine := small_le hsm
    intro J F1 as1 H1 n1 wk D hD
    have hD0 : H D = none := by
      cases q : H D with
      | none => rfl
      | some o => exact absurd hD (n1.some_ D (by rw [q]; exact fun h => nomatch h))
    have hDF : D ∉ F1 := fun z => n1.hr.thereF D z hD
    have hDA : D ∉ as1 := fun z => n1.hr.there D z hD
    refine ⟨fun i m H2 => ∃ F2 as2 S2 us acc, i ≤ items.length ∧ m = items.length - i ∧ acc.length ≤ i ∧ Nxt G F1 as1 S1 H1 F2 as2 S2 H2 ∧ H2 D = some (.lst us) ∧ D ∉ F2 ∧ D ∉ as2 ∧ RepL G F2 as2 H2 acc us ∧
        (match lcGo chk g ft fe (wipeD σd vs) (items.drop i) S2 with
         | .ok ys S3 => LcK G F as S H Q (acc ++ ys) S3
         | _ => False),
      ⟨items.length, F1, as1, S1, [], [], Nat.zero_le _, rfl, Nat.le_refl _, Nxt.side (.refl n1.hr) _ hD hDF (fun l => hDA (by obtain ⟨n, o, e, _⟩ := l; exact List.mem_of_getElem? e)), upd_same, hDF, hDA, .nil, ?_⟩, ?_⟩
    · rw [List.drop_zero]
      revert hp
      cases e2 : lcGo chk g ft fe (wipeD σd vs) items S1 with
      | ok ys S3 => exact fun hp1 => hp1
      | exc e S3 => exact absurd e2 (lcGo_noX hg)
      | stuck => exact fun hp1 => hp1
    · rintro i m H2 ⟨F2, as2, S2, us, acc, hi, rfl, hacc, n2, hDl, hDF2, hDA2, hrep, hres⟩
      have nl : ¬ Live as2 S2 D := fun ⟨n, o, e, _⟩ => hDA2 (List.mem_of_getElem? e)
      by_cases hlt : i < items.length
      · rw [List.drop_eq_getElem_cons hlt] at hres
        unfold lcGo at hres
        cases hck : chk S2 with
        | false => rw [hck] at hres; exact hres.elim
        | true =>
          rw [hck] at hres
          simp only [Res.guard, if_true] at hres
          obtain ⟨g1, g2⟩ := wk.go i items[i] F2 as2 S2 H2 n2 hck (List.getElem?_eq_getElem hlt)
          refine .inr ⟨g1, fun H3 => ∃ F3 as3 S3 us acc, acc.length ≤ i + 1 ∧ Nxt G F1 as1 S1 H1 F3 as3 S3 H3 ∧ H3 D = some (.lst us) ∧ D ∉ F3 ∧ D ∉ as3 ∧ RepL G F3 as3 H3 acc us ∧
              (match lcGo chk g ft fe (wipeD σd vs) (items.drop (i + 1)) S3 with
               | .ok ys S4 => LcK G F as S H Q (acc ++ ys) S4
               | _ => False),
            fun H3 ⟨F3, as3, S3, us3, acc3, b1, b2, b3, b4, b5, b6, b7⟩ => ⟨items.length - (i + 1), by omega, F3, as3, S3, us3, acc3, by omega, rfl, b1, b2, b3, b4, b5, b6, b7⟩, fun v H3 hy => ?_⟩
          obtain ⟨F3, n3, r3⟩ := g2 v H3 hy
          refine hw _ _ _ _ (sg F3 as2 S2 H3 (wipeD σd vs) (wipe σ vs) items[i] v _ n3.hr ((SR.nxt hr (n1.trans (n2.trans n3)) hs).wipes hxp vs) r3 ?_)
          revert hres
          cases e4 : g items[i] (wipeD σd vs) S2 with
          | stuck => exact fun h => h.elim
          | exc e' S' => exact absurd e4 (hg _ _ _ _ _)
          | ok σ4 S4 =>
            intro hres σ4' F4 as4 H4 n4 hs4
            simp only [Res.bind_ok] at hres
            refine st F4 as4 S4 H4 σ4 σ4' _ n4.hr hs4 ?_
            cases e5 : ft σ4 S4 with
            | stuck => rw [e5] at hres; exact hres.elim
            | exc _ _ => rw [e5] at hres; exact hres.elim
            | ok b S5 =>
              rw [e5] at hres
              simp only [noX, Res.bind_ok] at hres
              intro b' F5 as5 H5 n5 hb
              obtain rfl : b = b' := hb
              have n25 := n3.trans (n4.trans n5)
              -- the list that is made, where others are made
              have side : ∀ {F' as' : List Addr} {S' : Sto} {H' : Hp}, Nxt G F2 as2 S2 H2 F' as' S' H' → H' D = some (.lst us) ∧ D ∉ F' ∧ D ∉ as' ∧ RepL G F' as' H' acc us := fun n => by
                refine ⟨n.keep D _ hDl nl, fun z => ?_, fun z => ?_, hrep.nxt n2.hr n⟩
                · rcases n.newF D z with q | q | q
                  · exact hDF2 q
                  · exact nl q
                  · rw [hDl] at q; cases q
                · rcases n.newA D z with q | q
                  · exact hDA2 q
                  · rw [hDl] at q; cases q
              cases b with
              | false =>
                simp only [Bool.false_eq_true, if_false] at hres ⊢
                obtain ⟨c1, c2, c3, c4⟩ := side n25
                exact ⟨F5, as5, S5, us, acc, Nat.le_succ_of_le hacc, n2.trans n25, c1, c2, c3, c4, hres⟩
              | true =>
                simp only [if_true] at hres ⊢
                refine se F5 as5 S5 H5 σ4 σ4' _ n5.hr (hs4.nxt n4.hr n5) ?_
                cases e6 : fe σ4 S5 with
                | stuck => rw [e6] at hres; exact hres.elim
                | exc _ _ => rw [e6] at hres; exact hres.elim
                | ok y S6 =>
                  rw [e6] at hres
                  simp only [Res.bind_ok] at hres
                  intro u F6 as6 H6 n6 r6
                  have n26 := n25.trans n6
                  obtain ⟨c1, c2, c3, c4⟩ := side n26
                  have nl6 : ¬ Live as6 S6 D := fun ⟨n, o, e, _⟩ => c3 (List.mem_of_getElem? e)
                  refine ⟨us, c1, by rw [← c4.length]; omega, F6, as6, S6, us ++ [u], acc ++ [y], by rw [List.length_append]; simp; exact hacc, Nxt.side (n2.trans n26) _ hD c2 nl6, upd_same, c2, c3, ?_, ?_⟩
                  · have kp : Kp F6 as6 F6 as6 H6 (upd H6 D (.lst (us ++ [u]))) := ⟨fun _ h => h, fun a h o e => by rw [upd_ne (fun (z : a = D) => c2 (z ▸ h))]; exact e, fun _ _ e => e⟩
                    exact RepL.kp kp _ _ (c4.append (.cons r6 .nil))
                  · revert hres
                    cases lcGo chk g ft fe (wipeD σd vs) (items.drop (i + 1)) S6 with
                    | stuck => exact fun h => h
                    | exc _ _ => exact fun h => h
                    | ok ys S7 =>
                      intro hres
                      simp only [Res.bind_ok] at hres
                      dsimp only
                      rw [List.append_assoc]
                      exact hres
      · have e : i = items.length := by omega
        subst e
        rw [List.drop_length] at hres
        unfold lcGo at hres
        cases hck : chk S2 with
        | false => rw [hck] at hres; exact hres.elim
        | true =>
          rw [hck] at hres
          simp only [Res.guard, if_true, List.append_nil] at hres
          exact .inl ⟨wk.stop F2 as2 S2 H2 n2 hck, hres D us F2 as2 H2 hD0 (n1.trans n2) hDl hDF2 hDA2 hrep⟩
end
end Fx

namespace Fx
open PySem PySem.Spec PyProof.Rows L2

section
variable {G : Gc} {X : Cx} {W : WX}
def tE (G : Gc) (W : WX) (f : EF) : TE := fun σ H Q => ∃ F as S σd, HR G F as S H ∧ SR G F as H σd σ ∧ Post G (Rep G) W σ F as S H (f σd S) Q
def tT (G : Gc) (W : WX) (f : BF) : TT := fun σ H Q => ∃ F as S σd, HR G F as S H ∧ SR G F as H σd σ ∧ Post G RB W σ F as S H (f σd S) Q
theorem snd_tE {f : EF} : Snd G (Rep G) W (tE G W f) f := fun F as S H σd σ Q hr hs hp => ⟨F, as, S, σd, hr, hs, hp⟩
theorem snd_tT {f : BF} : Snd G RB W (tT G W f) f := fun F as S H σd σ Q hr hs hp => ⟨F, as, S, σd, hr, hs, hp⟩
theorem DE.can {e : Expr} {f : EF} (h : DE G X W e f) : PE X e (tE G W f) := by
  obtain ⟨t, p, s⟩ := h.ex
  exact ⟨fun pins st σ H Q I ⟨F, as, S, σd, hr, hs, hp⟩ => p.run pins st σ H Q I (s F as S H σd σ Q hr hs hp)⟩
theorem DTs.can {es : List Expr} {f : BF} (h : DTs G X W es f) : PTs X es (tT G W f) := by
  obtain ⟨t, p, s⟩ := h.ex
  exact ⟨fun pins st σ H Q I ⟨F, as, S, σd, hr, hs, hp⟩ => p.run pins st σ H Q I (s F as S H σd σ Q hr hs hp)⟩
theorem wipe_get (σ : L2.St) : ∀ (vs : List Nat) (j : Nat), (wipe σ vs)[j]? = if j ∈ vs then (σ[j]?).map (fun _ => none) else σ[j]?
  | [], j => by simp [wipe]
  | v :: vs, j => by
    unfold wipe
    by_cases e : v = j
    · subst e
      by_cases h : v < (wipe σ vs).length
      · rw [List.getElem?_set_self h]
        have h' : v < σ.length := by rwa [wipe_length] at h
        simp [List.getElem?_eq_getElem h']
      · have h' : ¬ v < σ.length := by rwa [wipe_length] at h
        rw [List.getElem?_eq_none_iff.mpr (by rw [List.length_set]; exact Nat.le_of_not_lt h), List.getElem?_eq_none_iff.mpr (Nat.le_of_not_lt h')]
        simp
    · rw [List.getElem?_set_ne e, wipe_get σ vs j]
      have : j ∈ v :: vs ↔ j ∈ vs := by simp [Ne.symm e]
      by_cases h : j ∈ vs
      · rw [if_pos h, if_pos (this.mpr h)]
      · rw [if_neg h, if_neg (fun z => h (this.mp z))]
theorem wipe_set {σ : L2.St} {i : Nat} {x : Option V} {vs : List Nat} (h : i ∈ vs) : wipe (σ.set i x) vs = wipe σ vs := by
  refine List.ext_getElem? fun j => ?_
  rw [wipe_get, wipe_get]
  by_cases hj : j ∈ vs
  · rw [if_pos hj, if_pos hj]
    by_cases e : i = j
    · subst e
      by_cases hl : i < σ.length
      · rw [List.getElem?_set_self hl, List.getElem?_eq_getElem hl]; rfl
      · rw [List.getElem?_eq_none_iff.mpr (by rw [List.length_set]; exact Nat.le_of_not_lt hl), List.getElem?_eq_none_iff.mpr (Nat.le_of_not_lt hl)]
    · rw [List.getElem?_set_ne e]
  · rw [if_neg hj, if_neg hj, List.getElem?_set_ne (fun (e : i = j) => hj (e ▸ h))]
def Fills (t : TG) (vs : List Nat) : Prop := ∀ v σ H (Q : L2.St → Hp → Prop), t v σ H Q → t v σ H (fun σ2 H2 => wipe σ2 vs = wipe σ vs ∧ Q σ2 H2)
def FillsL (t : TGs) (vs : List Nat) : Prop := ∀ xs σ H (Q : L2.St → Hp → Prop), t xs σ H Q → t xs σ H (fun σ2 H2 => wipe σ2 vs = wipe σ vs ∧ Q σ2 H2)
theorem fills_name {i : Nat} {vs : List Nat} (h : i ∈ vs) : Fills (gName i) vs := fun v σ H Q q => ⟨wipe_set h, q⟩
theorem fills_nil {vs : List Nat} : FillsL gNil vs := fun xs σ H Q ⟨e, q⟩ => ⟨e, rfl, q⟩
/-- a reading of a target goes on with what follows -/
def MonoG (t : TG) : Prop := ∀ v σ H (Q Q' : L2.St → Hp → Prop), (∀ σ2 H2, Q σ2 H2 → Q' σ2 H2) → t v σ H Q → t v σ H Q'
def MonoGs (t : TGs) : Prop := ∀ v σ H (Q Q' : L2.St → Hp → Prop), (∀ σ2 H2, Q σ2 H2 → Q' σ2 H2) → t v σ H Q → t v σ H Q'
structure GW (G : Gc) (X : Cx) (tg : Expr) (t : TG) (g : GF) (vs : List Nat) : Prop where
  pg : PG X tg t
  snd : SndG G t g
  calm : GF.calm g
  fills : Fills t vs
  mono : MonoG t
structure GWs (G : Gc) (X : Cx) (tg : List Expr) (t : TGs) (g : GFs) (vs : List Nat) : Prop where
  pg : PGs X tg t
  snd : SndGs G t g
  calm : GFs.calm g
  fills : FillsL t vs
  mono : MonoGs t
theorem gw_name (i : Nat) {x : Str} {pos : Pos} {vs : List Nat} (c : X.N.Nodup) (hv : i ∈ vs := by decide) (hi : X.N[i]? = some x := by rfl) (hx : Loc X.env.scope x := by first | exact Or.inl rfl | exact Or.inr rfl)
    (hf : X.fn x = true ∨ X.env.scope.names.lookup x = some .local := by first | exact .inl rfl | exact .inr rfl | assumption) : GW G X (.Name x pos) (gName i) (gN i) vs :=
  ⟨pg_name c hi hx hf, fun F as S H σd σ d v Q hr hs r h => h _ _ _ _ (.refl hr) (hs.set i r), calm_name i, fills_name hv, fun v σ H Q Q' h q => h _ _ q⟩
theorem gws_nil {vs : List Nat} : GWs G X [] gNil gsNil vs := ⟨pgs_nil, fun F as S H σd σ ds vs Q hr hs r h => by
  unfold gsNil at h
  cases ds with
  | nil => simp only [RepL] at r; exact ⟨r, h _ _ _ _ (.refl hr) hs⟩
  | cons _ _ => exact h.elim, calm_nil, fills_nil, fun v σ H Q Q' h ⟨e, q⟩ => ⟨e, h _ _ q⟩⟩
theorem snd_gcons {t : TG} {t' : TGs} {g : GF} {h : GFs} (s : SndG G t g) (s' : SndGs G t' h) : SndGs G (gCons t t') (gsCons g h) := by
  intro F as S H σd σ ds vs Q hr hs r hp
  cases ds with
  | nil => exact hp.elim
  | cons d ds =>
    simp only [RepL] at r
    obtain ⟨v, vs', rfl, r1, r2⟩ := r
    refine ⟨v, vs', rfl, s F as S H σd σ d v _ hr hs r1 ?_⟩
    unfold gsCons at hp
    dsimp only at hp
    revert hp
    cases g d σd S with
    | ok σ1 S1 =>
      refine fun hp σ' F' as' H' m q => s' F' as' S1 H' σ1 σ' ds vs' Q m.hr q (r2.nxt hr m) ?_
      revert hp
      show (match h ds σ1 S1 with | .ok σd' S' => _ | _ => False) → _
      cases h ds σ1 S1 with
      | ok σ2 S2 => exact fun hp σ2' F2 as2 H2 m2 q2 => hp σ2' F2 as2 H2 (m.trans m2) q2
      | exc _ _ => exact fun hp => hp
      | stuck => exact fun hp => hp
    | exc _ _ => exact fun hp => hp
    | stuck => exact fun hp => hp
theorem gws_cons {e : Expr} {es : List Expr} {t : TG} {t' : TGs} {g : GF} {h : GFs} {vs : List Nat} (h1 : GW G X e t g vs) (h2 : GWs G X es t' h vs) (hs : (assignEach (e :: es) X.env).map (·.2) = assign e X.env :: (assignEach es X.env).map (·.2) := by rfl) : GWs G X (e :: es) (gCons t t') (gsCons g h) vs :=
  ⟨pgs_cons h1.pg h2.pg hs, snd_gcons h1.snd h2.snd, calm_cons h1.calm h2.calm, fun xs σ H Q ⟨v, r, e, q⟩ => by
    refine ⟨v, r, e, ?_⟩
    refine h1.mono _ _ _ _ _ (fun σ2 H2 q2 => ?_) (h1.fills _ _ _ _ q)
    refine h2.mono _ _ _ _ _ (fun σ3 H3 q3 => ?_) (h2.fills _ _ _ _ q2.2)
    exact ⟨q3.1.trans q2.1, q3.2⟩, fun v σ H Q Q' k ⟨x, r, e, q⟩ => ⟨x, r, e, h1.mono _ _ _ _ _ (fun σ2 H2 q2 => h2.mono _ _ _ _ _ k q2) q⟩⟩
theorem gw_tup {es : List Expr} {k n : Nat} {t : TGs} {h : GFs} {pos : Pos} {vs : List Nat} (hK : X.K = G.K) (hc : X.calm = true) (hg : GWs G X es t h vs) (hn : (assignEach es X.env).length = n := by rfl) (hst : (assignEach es X.env).findIdx? (·.1) = none := by rfl) :
    GW G X (.Tuple es k pos) (fun v σ H Q => gTup G.K n t v σ H Q ∨ gLst G.K n t v σ H Q) (gT n h) vs := by
  refine ⟨by rw [← hK]; exact PG.or (pg_tup hc hg.pg hn hst) (pg_lst hc hg.pg hn hst), fun F as S H σd σ d v Q hr hs r hp => ?_, calm_tup hg.calm, fun v σ H Q q => ?_, fun v σ H Q Q' k q => ?_⟩
  · unfold gT at hp
    cases e : seqT d with
    | some xs =>
      rw [e] at hp
      dsimp only at hp
      by_cases e2 : xs.length = n
      · rw [if_pos e2] at hp
        obtain ⟨a, vs, rfl, h1, h2⟩ := seqT_rep r e
        exact .inl ⟨a, vs, rfl, h1, by rw [← h2.length]; exact e2, hg.snd F as S H σd σ xs vs Q hr hs h2 hp⟩
      · rw [if_neg e2] at hp
        exact hp.elim
    | none =>
      rw [e] at hp
      dsimp only at hp
      cases e3 : seqL d S with
      | none => rw [e3] at hp; exact hp.elim
      | some xs =>
        rw [e3] at hp
        dsimp only at hp
        by_cases e2 : xs.length = n
        · rw [if_pos e2] at hp
          obtain ⟨a, vs, rfl, h1, h2⟩ := seqL_rep hr r e3
          exact .inr ⟨a, vs, rfl, h1, by rw [← h2.length]; exact e2, hg.snd F as S H σd σ xs vs Q hr hs h2 hp⟩
        · rw [if_neg e2] at hp
          exact hp.elim
  · rcases q with ⟨a, xs, e, h1, h2, q⟩ | ⟨a, xs, e, h1, h2, q⟩
    · exact .inl ⟨a, xs, e, h1, h2, hg.fills _ _ _ _ q⟩
    · exact .inr ⟨a, xs, e, h1, h2, hg.fills _ _ _ _ q⟩
  · rcases q with ⟨a, xs, e, h1, h2, q⟩ | ⟨a, xs, e, h1, h2, q⟩
    · exact .inl ⟨a, xs, e, h1, h2, hg.mono _ _ _ _ _ k q⟩
    · exact .inr ⟨a, xs, e, h1, h2, hg.mono _ _ _ _ _ k q⟩
theorem GW.dg {tg : Expr} {t : TG} {g : GF} {vs : List Nat} (h : GW G X tg t g vs) : DG G X tg g := ⟨t, h.pg, h.snd⟩
theorem wipe_wipe (σ : L2.St) (vs : List Nat) : wipe (wipe σ vs) vs = wipe σ vs := by
  refine List.ext_getElem? fun j => ?_
  rw [wipe_get, wipe_get]
  by_cases hj : j ∈ vs
  · rw [if_pos hj, if_pos hj]
    cases σ[j]? <;> rfl
  · rw [if_neg hj, if_neg hj]
theorem Ctx.blk {W : WX} (c : Ctx G X W) (s : Shared) (H : Hp) (scope : Scope) (cenv : Env) (fp : List Addr) : Ctx G (X.blk s H scope cenv fp) WF := ⟨c.K, takes0, c.nd, c.un, c.cx⟩
abbrev Blk (X : Cx) (scope : Scope) (s : Shared) (H : Hp) (C : Addr) (cl : List (Str × Addr)) (fp : List Addr) : Cx := X.blk s H scope (compEnvC scope cl C X.env) fp
section
variable {elt tg iter : Expr} {ifs : List Expr} {scope : Scope} {own : List (Str × Nat)} {pos : Pos} {it : IF} {t : TG} {g : GF} {ft : BF} {fe : EF}
theorem lc_snd {wi : TI} (s : SndI G W wi it) (hg : SndG G t g) (hgc : GF.calm g) (hf : Fills t (own.map (·.2))) (hxp : G.xp = none) : ∀ F as S H σd σ (Q : VK), HR G F as S H → SR G F as H σd σ → PostL G W σ F as S H (eLcA it g ft fe (own.map (·.2)) σd S) Q →
    tLc wi t (tT G WF ft) (tE G WF fe) (own.map (·.2)) σ H Q :=
  snd_lc s hg hgc snd_tT snd_tE hxp fun v σ H Q q => by
    have := hf v (wipe σ (own.map (·.2))) H Q q
    rw [wipe_wipe] at this
    exact this
/-- the new list as it is, frozen -/
theorem PostL.frz {F as : List Addr} {S : Sto} {H : Hp} {σ : L2.St} {r : Res (List Dat)} {Q : VK} (h : Post G (Rep G) W σ F as S H (r.bind fun ys S1 => .ok (.lst ys) S1) Q) : PostL G W σ F as S H r Q := by
  cases r with
  | stuck => exact h
  | exc e S1 => exact h
  | ok ys S1 =>
    intro D us F' as' H' hD n e hF hA r
    have nl : ¬ Live as' S1 D := fun ⟨n, o, e, _⟩ => hA (List.mem_of_getElem? e)
    have k : Kp F' as' (D :: F') as' H' H' := ⟨fun _ h => List.mem_cons_of_mem _ h, fun _ _ _ e => e, fun _ _ e => e⟩
    refine h (.ref D) (D :: F') as' H' ⟨⟨n.hr.len, n.hr.nd, n.hr.there, fun a ha => (List.mem_cons.mp ha).elim (fun z => by rw [z, e]; exact fun q => nomatch q) (n.hr.thereF a), fun a l ha => (List.mem_cons.mp ha).elim (fun z => nl (z ▸ l)) (n.hr.apart a l), fun m a o e1 e2 => (n.hr.obs m a o e1 e2).kp k fun _ q => q⟩,
      n.pre, fun a h => List.mem_cons_of_mem _ (n.fsub a h), n.keep, fun a ha => (List.mem_cons.mp ha).elim (fun z => .inr (.inr (z ▸ hD))) (n.newF a), n.newL, n.newA, n.some_⟩ ?_
    simp only [Rep]
    exact ⟨D, us, rfl, ⟨List.mem_cons_self, e⟩, RepL.kp k _ _ r⟩
/-- .. in the store -/
theorem PostL.live {F as : List Addr} {S : Sto} {H : Hp} {σ : L2.St} {r : Res (List Dat)} {Q : VK} (h : Post G (Rep G) W σ F as S H (r.bind fun ys S1 => .ok (.ref S1.length) (S1 ++ [.lst ys])) Q) : PostL G W σ F as S H r Q := by
  cases r with
  | stuck => exact h
  | exc e S1 => exact h
  | ok ys S1 =>
    intro D us F' as' H' hD n e hF hA r
    have k : Kp F' as' F' (as' ++ [D]) H' H' := kp_more fun _ _ e => e
    have live : ∀ a, Live (as' ++ [D]) (S1 ++ [.lst ys]) a → Live as' S1 a ∨ a = D := fun a l => Live.append n.hr.len l
    obtain ⟨r0, er⟩ := id n.pre
    refine h (.ref D) F' (as' ++ [D]) H' ⟨⟨by simp [n.hr.len], List.nodup_append.mpr ⟨n.hr.nd, by simp, fun a ha b hb => by rw [List.mem_singleton.mp hb]; exact fun z => hA (z ▸ ha)⟩, fun a ha => (List.mem_append.mp ha).elim (n.hr.there a) (fun z => by rw [List.mem_singleton.mp z, e]; exact fun q => nomatch q), n.hr.thereF, fun a l ha => ?_, fun m a o e1 e2 => ?_⟩,
      ⟨r0 ++ [D], by rw [er, List.append_assoc]⟩, n.fsub, n.keep, n.newF, fun a l => ?_, fun a ha => (List.mem_append.mp ha).elim (n.newA a) (fun z => by rw [List.mem_singleton.mp z]; exact .inr hD), n.some_⟩ ?_
    · rcases live a l with z | z
      · exact n.hr.apart a z ha
      · exact hF (z ▸ ha)
    · by_cases hn : m < as'.length
      · rw [List.getElem?_append_left hn] at e1
        rw [List.getElem?_append_left (n.hr.len ▸ hn)] at e2
        exact (n.hr.obs m a o e1 e2).kp k fun y q => q
      · have hn' : as'.length ≤ m := Nat.le_of_not_lt hn
        rw [List.getElem?_append_right hn'] at e1
        rw [List.getElem?_append_right (n.hr.len ▸ hn')] at e2
        obtain ⟨h1, h2⟩ := List.getElem?_eq_some_iff.mp e1
        obtain ⟨h3, h4⟩ := List.getElem?_eq_some_iff.mp e2
        have ea : a = D := by rw [← h2]; simp
        have eo : o = .lst ys := by rw [← h4]; simp
        rw [ea, eo]
        exact ⟨us, e, RepL.kp k _ _ r⟩
    · rcases live a l with z | z
      · exact n.newL a z
      · exact .inr (z ▸ hD)
    · simp only [Rep]
      exact ⟨D, rfl, by rw [← n.hr.len]; simp⟩
theorem de_lc (c : Ctx G X W) (hc : X.calm = true) (hi : DI G X W tg iter it) (ok : BlkOk X.N X.env.scope scope own) (hg : ∀ s H C cl fp, GW G (Blk X scope s H C cl fp) tg t g (own.map (·.2)))
    (ht : ∀ s H C cl fp, DTs G (Blk X scope s H C cl fp) WF ifs ft) (he : ∀ s H C cl fp, DE G (Blk X scope s H C cl fp) WF elt fe) (hs : ∀ x, foldedSetIterable iter X.env x = pure x := by intro _; rfl) :
    DE G X W (.ListComp elt [⟨tg, iter, ifs, 0⟩] scope pos) (eLc it g ft fe (own.map (·.2))) ∧ DE G X W (.ListComp elt [⟨tg, iter, ifs, 0⟩] scope pos) (eLcM it g ft fe (own.map (·.2))) := by
  obtain ⟨ti, pi, si⟩ := hi.ex
  have hg0 := hg ({} : Shared) (fun _ => none) 0 [] []
  have p := pe_lc (elt := elt) (ifs := ifs) (pos := pos) hc c.nd pi ok (fun s H C cl fp => (hg s H C cl fp).pg) (fun s H C cl fp => (ht s H C cl fp).can) (fun s H C cl fp => (he s H C cl fp).can) hs
  exact ⟨⟨_, p, fun F as S H σd σ Q hr hs hp => lc_snd si hg0.snd hg0.calm hg0.fills (c.cx hc) F as S H σd σ Q hr hs (PostL.frz hp)⟩, ⟨_, p, fun F as S H σd σ Q hr hs hp => lc_snd si hg0.snd hg0.calm hg0.fills (c.cx hc) F as S H σd σ Q hr hs (PostL.live hp)⟩⟩
/-- y = [..] on one line, y a local -/
theorem ds_setLc (i : Nat) {y : Str} {py spos : Pos} (c : Ctx G X W) (hc : X.calm = true) (hi : DI G X W tg iter it) (ok : BlkOk X.N X.env.scope scope own) (hg : ∀ s H C cl fp, GW G (Blk X scope s H C cl fp) tg t g (own.map (·.2)))
    (ht : ∀ s H C cl fp, DTs G (Blk X scope s H C cl fp) WF ifs ft) (he : ∀ s H C cl fp, DE G (Blk X scope s H C cl fp) WF elt fe) (hsw : swapsWith (.ListComp elt [⟨tg, iter, ifs, 0⟩] scope pos) (some (.Name y py)) spos.line X.env = pure true)
    (hy : X.N[i]? = some y := by rfl) (hyl : X.env.scope.names.lookup y = some .local := by rfl) (hs : ∀ x, foldedSetIterable iter X.env x = pure x := by intro _; rfl) :
    DS G X W (.Assign [.Name y py] (.ListComp elt [⟨tg, iter, ifs, 0⟩] scope pos) spos) (sSet i (eLc it g ft fe (own.map (·.2)))) ∧ DS G X W (.Assign [.Name y py] (.ListComp elt [⟨tg, iter, ifs, 0⟩] scope pos) spos) (sSet i (eLcM it g ft fe (own.map (·.2)))) := by
  obtain ⟨ti, pi, si⟩ := hi.ex
  have hg0 := hg ({} : Shared) (fun _ => none) 0 [] []
  have p := ps_setLc (elt := elt) (ifs := ifs) (pos := pos) (spos := spos) (py := py) hc c.nd hy hyl hsw pi ok (fun s H C cl fp => (hg s H C cl fp).pg) (fun s H C cl fp => (ht s H C cl fp).can) (fun s H C cl fp => (he s H C cl fp).can) hs
  refine ⟨⟨_, p, fun F as S H σd σ D hr hs hp => lc_snd si hg0.snd hg0.calm hg0.fills (c.cx hc) F as S H σd σ _ hr hs (PostL.frz (PostS.out hr hs hp fun d S1 b F1 as1 H1 _ n1 r1 hs1 h1 => h1.nxt n1.hr (hs1.set i r1)))⟩,
    ⟨_, p, fun F as S H σd σ D hr hs hp => lc_snd si hg0.snd hg0.calm hg0.fills (c.cx hc) F as S H σd σ _ hr hs (PostL.live (PostS.out hr hs hp fun d S1 b F1 as1 H1 _ n1 r1 hs1 h1 => h1.nxt n1.hr (hs1.set i r1)))⟩⟩
end
end
end Fx

namespace Fx
open PySem PySem.Spec PyProof.Rows L2

section
variable {G : Gc} {X : Cx} {W : WX}
def eM (o : OM) (f : EF) (g : AF) : EF := fun σ S => (f σ S).bind fun x S1 => .guard (seqL x S1).isSome ((g σ S1).bind fun xs S2 => o x xs S2)
def eM0 (o : OM) (f : EF) : EF := fun σ S => (f σ S).bind fun x S1 => .guard (seqL x S1).isSome (o x [] S1)
theorem snd_M {r : V → List V → Hp → VK → Prop} {o : OM} {to : TE} {t : TA} {f : EF} {g : AF} (ho : OpM G r o) (hf : Snd G (Rep G) W to f) (hg : Snd G (RepL G) W t g) : Snd G (Rep G) W (tBM G.K "list" r to t) (eM o f g) := by
  intro F as S H σd σ Q hr hs hp
  refine hf F as S H σd σ _ hr hs (hp.bind fun d S1 b F1 as1 H1 _ n1 r1 h1 => ?_)
  obtain ⟨g1, h1⟩ := h1.guard
  obtain ⟨xs, ex⟩ := Option.isSome_iff_exists.mp g1
  refine ⟨?_, hg F1 as1 S1 H1 σd σ _ n1.hr (hs.nxt hr n1) (h1.bind fun d2 S2 b2 F2 as2 H2 _ n2 r2 h2 => ho _ _ _ _ _ _ _ _ _ _ _ n2.hr (r1.nxt n1.hr n2) r2 h2)⟩
  obtain ⟨a, vs, rfl, h3, _⟩ := seqL_rep n1.hr r1 ex
  exact .inl ⟨rfl, vs, h3⟩
theorem snd_M0 {r : V → List V → Hp → VK → Prop} {o : OM} {to : TE} {f : EF} (ho : OpM G r o) (hf : Snd G (Rep G) W to f) : Snd G (Rep G) W (tBM0 G.K "list" r to) (eM0 o f) := by
  intro F as S H σd σ Q hr hs hp
  refine hf F as S H σd σ _ hr hs (hp.bind fun d S1 b F1 as1 H1 _ n1 r1 h1 => ?_)
  obtain ⟨g1, h1⟩ := h1.guard
  obtain ⟨xs, ex⟩ := Option.isSome_iff_exists.mp g1
  refine ⟨?_, ho _ _ _ _ _ _ _ _ _ _ _ n1.hr r1 .nil h1⟩
  obtain ⟨a, vs, rfl, h3, _⟩ := seqL_rep n1.hr r1 ex
  exact .inl ⟨rfl, vs, h3⟩
/-- a list of the store -/
def lstAt (x : Dat) (S : Sto) : Option (Nat × List Dat) := match x with
  | .ref n => match S[n]? with
    | some (.lst xs) => some (n, xs)
    | _ => none
  | _ => none
theorem lstAt_rep {F as : List Addr} {S : Sto} {H : Hp} (hr : HR G F as S H) {x : Dat} {v : V} {n : Nat} {xs : List Dat} (r : Rep G F as H x v) (e : lstAt x S = some (n, xs)) :
    ∃ p vs, v = .ref p ∧ as[n]? = some p ∧ S[n]? = some (.lst xs) ∧ H p = some (.lst vs) ∧ RepL G F as H xs vs := by
  unfold lstAt at e
  split at e
  · split at e
    · rename_i m ys hs
      cases e
      simp only [Rep] at r
      obtain ⟨p, rfl, ha⟩ := r
      obtain ⟨vs, h1, h2⟩ := hr.obs _ _ _ ha hs
      exact ⟨p, vs, rfl, ha, hs, h1, h2⟩
    · cases e
  · cases e
theorem lst_wrote {F as : List Addr} {S : Sto} {H : Hp} {σ : L2.St} (hr : HR G F as S H) {n : Nat} {p : Addr} {xs xs' : List Dat} {vs' : List V} {d : Dat} {v : V} {Q : VK} (ha : as[n]? = some p) (hs : S[n]? = some (.lst xs)) (r' : RepL G F as H xs' vs') (rd : Rep G F as H d v)
    (h : Post G (Rep G) W σ F as S H (.ok d (S.set n (.lst xs'))) Q) : Q v (upd H p (.lst vs')) :=
  h.wrote hr ha hs (fun z => nomatch z) (fun z => nomatch z) (fun H' k e => ⟨vs', e, RepL.kp (kp_but hr ha hs (fun z => nomatch z) k) _ _ r'⟩) (Rep.kp (kp_but hr ha hs (fun z => nomatch z) (fun b x hb e => by rw [upd_ne hb]; exact e)) _ _ rd)
def oAppend : OM := fun x ys S => match lstAt x S, ys with
  | some (n, xs), [y] => .guard (decide (xs.length < sizeLine)) (.ok .non (S.set n (.lst (xs ++ [y]))))
  | _, _ => .stuck
theorem opM_append : OpM G rAppend oAppend := by
  intro F as S H x ys v vs Q W σ hr rx ry hp
  unfold oAppend at hp
  split at hp
  · rename_i n xs y e
    obtain ⟨g, hp⟩ := hp.guard
    obtain ⟨p, us, rfl, ha, hs, h1, h2⟩ := lstAt_rep hr rx e
    obtain ⟨w, rfl, rw'⟩ := ry.one
    exact ⟨p, us, w, rfl, rfl, h1, by rw [← h2.length]; exact of_decide_eq_true g, lst_wrote hr ha hs (h2.append (.cons rw' .nil)) (by simp only [Rep]) hp⟩
  · exact hp.elim
def oInsert : OM := fun x ys S => match lstAt x S, ys with
  | some (n, xs), [.int i, y] => .guard (decide (xs.length < sizeLine) && (decide (0 ≤ i) && decide (i < 2 ^ 63))) (.ok .non (S.set n (.lst (xs.take i.toNat ++ [y] ++ xs.drop i.toNat))))
  | _, _ => .stuck
theorem opM_insert : OpM G (fun x vs H Q => ∃ (l : Addr) (xs : List V) (i : Int) (y : V), x = .ref l ∧ vs = [.int i, y] ∧ H l = some (.lst xs) ∧ xs.length < sizeLine ∧ 0 ≤ i ∧ i < 2 ^ 63 ∧
    Q .non (upd H l (.lst (xs.take i.toNat ++ [y] ++ xs.drop i.toNat)))) oInsert := by
  intro F as S H x ys v vs Q W σ hr rx ry hp
  unfold oInsert at hp
  split at hp
  · rename_i n xs i y e
    obtain ⟨g, hp⟩ := hp.guard
    simp only [Bool.and_eq_true, decide_eq_true_eq] at g
    obtain ⟨p, us, rfl, ha, hs, h1, h2⟩ := lstAt_rep hr rx e
    obtain ⟨u, w, rfl, ru, rw'⟩ := ry.two
    cases ru.int_iff
    exact ⟨p, us, i, w, rfl, rfl, h1, by rw [← h2.length]; exact g.1, g.2.1, g.2.2, lst_wrote hr ha hs (((h2.take _).append (.cons rw' .nil)).append (h2.drop _)) (by simp only [Rep]) hp⟩
  · exact hp.elim
def oExtend : OM := fun x ys S => match lstAt x S, ys with
  | some (n, xs), [y] => match seqM y S with
    | some zs => .guard (decide (xs.length + zs.length ≤ sizeLine)) (.ok .non (S.set n (.lst (xs ++ zs))))
    | none => .stuck
  | _, _ => .stuck
theorem opM_extend : OpM G rExtend oExtend := by
  intro F as S H x ys v vs Q W σ hr rx ry hp
  unfold oExtend at hp
  split at hp
  · rename_i n xs y e
    split at hp
    · rename_i zs ez
      obtain ⟨g, hp⟩ := hp.guard
      obtain ⟨p, us, rfl, ha, hs, h1, h2⟩ := lstAt_rep hr rx e
      obtain ⟨w, rfl, rw'⟩ := ry.one
      obtain ⟨b, ws, rfl, h3, h4⟩ := seqM_rep hr rw' ez
      exact ⟨p, b, us, ws, rfl, rfl, h1, h3, by rw [← h2.length, ← h4.length]; exact of_decide_eq_true g, lst_wrote hr ha hs (h2.append h4) (by simp only [Rep]) hp⟩
    · exact hp.elim
  · exact hp.elim
theorem RepL.dropLast {F as : List Addr} {H : Hp} {xs : List Dat} {vs : List V} (h : RepL G F as H xs vs) : RepL G F as H xs.dropLast vs.dropLast := by
  rw [List.dropLast_eq_take, List.dropLast_eq_take, h.length]
  exact h.take _
def oPop : OM := fun x ys S => match lstAt x S, ys with
  | some (n, xs), [] => match xs[xs.length - 1]? with
    | some y => .ok y (S.set n (.lst xs.dropLast))
    | none => .stuck
  | _, _ => .stuck
theorem opM_pop : OpM G rPop oPop := by
  intro F as S H x ys v vs Q W σ hr rx ry hp
  unfold oPop at hp
  split at hp
  · rename_i n xs e
    split at hp
    · rename_i y ey
      obtain ⟨p, us, rfl, ha, hs, h1, h2⟩ := lstAt_rep hr rx e
      simp only [RepL] at ry
      obtain ⟨w, ew, rw'⟩ := h2.get ey
      exact ⟨p, us, w, rfl, ry, h1, by rw [← h2.length]; exact ew, lst_wrote hr ha hs h2.dropLast rw' hp⟩
    · exact hp.elim
  · exact hp.elim
theorem de_append {o e : Expr} {f : EF} {g : AF} {apos cpos : Pos} (c : Ctx G X W) (ho : DE G X W o f) (ha : DA G X W [e] g)
    (hbase : attributeBase o "append" X.env (eval o X.env) = eval o X.env := by rfl)
    (hfew : ((backTo cpos (starEach [e] X.env)).all (fun x => !x.1) && (backToKw cpos (keywordEach [] X.env)).all (fun x => x.1.isSome) && decide ([e].length + ([] : List Keyword).length + (if ([] : List Keyword).isEmpty then 0 else 1) < 30)) = true := by rfl)
    (hline : (apos.endLine == cpos.line) = true := by rfl) (hs : starEach [e] X.env = (false, eval e X.env) :: starEach [] X.env := by rfl) (hplain : (backTo cpos (starEach [] X.env)).any (·.1) = false := by rfl) :
    DE G X W (.Call (.Attribute o "append" apos) [e] [] cpos) (eM oAppend f g) := by
  obtain ⟨t, p, s⟩ := ho.ex
  obtain ⟨t', p', s'⟩ := ha.ex
  exact ⟨_, pe_bm PySem.F.plainAttrs_list PySem.F.slot_list_append PySem.F.type_list_append mt_append p p' hbase hfew hline hs hplain, by rw [c.K]; exact snd_M opM_append s s'⟩
theorem de_extend {o e : Expr} {f : EF} {g : AF} {apos cpos : Pos} (c : Ctx G X W) (ho : DE G X W o f) (ha : DA G X W [e] g)
    (hbase : attributeBase o "extend" X.env (eval o X.env) = eval o X.env := by rfl)
    (hfew : ((backTo cpos (starEach [e] X.env)).all (fun x => !x.1) && (backToKw cpos (keywordEach [] X.env)).all (fun x => x.1.isSome) && decide ([e].length + ([] : List Keyword).length + (if ([] : List Keyword).isEmpty then 0 else 1) < 30)) = true := by rfl)
    (hline : (apos.endLine == cpos.line) = true := by rfl) (hs : starEach [e] X.env = (false, eval e X.env) :: starEach [] X.env := by rfl) (hplain : (backTo cpos (starEach [] X.env)).any (·.1) = false := by rfl) :
    DE G X W (.Call (.Attribute o "extend" apos) [e] [] cpos) (eM oExtend f g) := by
  obtain ⟨t, p, s⟩ := ho.ex
  obtain ⟨t', p', s'⟩ := ha.ex
  exact ⟨_, pe_bm PySem.F.plainAttrs_list PySem.F.slot_list_extend PySem.F.type_list_extend mt_extend p p' hbase hfew hline hs hplain, by rw [c.K]; exact snd_M opM_extend s s'⟩
theorem de_insert {o e e2 : Expr} {f : EF} {g : AF} {apos cpos : Pos} (c : Ctx G X W) (ho : DE G X W o f) (ha : DA G X W [e, e2] g)
    (hbase : attributeBase o "insert" X.env (eval o X.env) = eval o X.env := by rfl)
    (hfew : ((backTo cpos (starEach [e, e2] X.env)).all (fun x => !x.1) && (backToKw cpos (keywordEach [] X.env)).all (fun x => x.1.isSome) && decide ([e, e2].length + ([] : List Keyword).length + (if ([] : List Keyword).isEmpty then 0 else 1) < 30)) = true := by rfl)
    (hline : (apos.endLine == cpos.line) = true := by rfl) (hs : starEach [e, e2] X.env = (false, eval e X.env) :: starEach [e2] X.env := by rfl) (hplain : (backTo cpos (starEach [e2] X.env)).any (·.1) = false := by rfl) :
    DE G X W (.Call (.Attribute o "insert" apos) [e, e2] [] cpos) (eM oInsert f g) := by
  obtain ⟨t, p, s⟩ := ho.ex
  obtain ⟨t', p', s'⟩ := ha.ex
  exact ⟨_, pe_bm PySem.F.plainAttrs_list PySem.F.slot_list_insert PySem.F.type_list_insert mt_insert p p' hbase hfew hline hs hplain, by rw [c.K]; exact snd_M opM_insert s s'⟩
def PK (G : Gc) (F as : List Addr) (H : Hp) {κ : Type} (kf : Dat → Option κ) (p : Dat × Dat) (q : κ × V) : Prop := kf p.1 = some q.1 ∧ Rep G F as H p.2 q.2
theorem pairs_K {F as : List Addr} {H : Hp} : ∀ {kvs : List (Dat × Dat)} {kv : List (Key × V)}, (dkeys (kvs.map (·.1)) = some (kv.map (·.1)) ∧ RepL G F as H (kvs.map (·.2)) (kv.map (·.2))) ↔ Paired (PK G F as H dkey) kvs kv
  | [], kv => by
    refine ⟨fun ⟨h1, h2⟩ => ?_, fun h => ?_⟩
    · cases kv with
      | nil => exact .nil
      | cons _ _ => simp [dkeys] at h1
    · cases h; exact ⟨rfl, .nil⟩
  | p :: kvs, kv => by
    refine ⟨fun ⟨h1, h2⟩ => ?_, fun h => ?_⟩
    · cases kv with
      | nil =>
        simp only [List.map_cons, List.map_nil, dkeys] at h1
        split at h1 <;> cases h1
      | cons q kv =>
        simp only [List.map_cons, dkeys] at h1
        split at h1
        · rename_i e1 e2
          simp only [Option.some.injEq, List.cons.injEq] at h1
          obtain ⟨rfl, rfl⟩ := h1
          simp only [List.map_cons, RepL] at h2
          obtain ⟨v, vs', h3, r1, r2⟩ := h2
          simp only [List.cons.injEq] at h3
          obtain ⟨rfl, rfl⟩ := h3
          exact .cons ⟨e1, r1⟩ (pairs_K.mp ⟨e2, r2⟩)
        · cases h1
    · cases h with
      | cons h t =>
        obtain ⟨h1, h2⟩ := pairs_K.mpr t
        refine ⟨?_, .cons h.2 h2⟩
        simp only [List.map_cons, dkeys, h.1, h1]
theorem pairs_T {F as : List Addr} {H : Hp} : ∀ {kvs : List (Dat × Dat)} {kv : List (List Key × V)}, (tkeys (kvs.map (·.1)) = some (kv.map (·.1)) ∧ RepL G F as H (kvs.map (·.2)) (kv.map (·.2))) ↔ Paired (PK G F as H tkey) kvs kv
  | [], kv => by
    refine ⟨fun ⟨h1, h2⟩ => ?_, fun h => ?_⟩
    · cases kv with
      | nil => exact .nil
      | cons _ _ => simp [tkeys] at h1
    · cases h; exact ⟨rfl, .nil⟩
  | p :: kvs, kv => by
    refine ⟨fun ⟨h1, h2⟩ => ?_, fun h => ?_⟩
    · cases kv with
      | nil =>
        simp only [List.map_cons, List.map_nil, tkeys] at h1
        split at h1 <;> cases h1
      | cons q kv =>
        simp only [List.map_cons, tkeys] at h1
        split at h1
        · rename_i e1 e2
          simp only [Option.some.injEq, List.cons.injEq] at h1
          obtain ⟨rfl, rfl⟩ := h1
          simp only [List.map_cons, RepL] at h2
          obtain ⟨v, vs', h3, r1, r2⟩ := h2
          simp only [List.cons.injEq] at h3
          obtain ⟨rfl, rfl⟩ := h3
          exact .cons ⟨e1, r1⟩ (pairs_T.mp ⟨e2, r2⟩)
        · cases h1
    · cases h with
      | cons h t =>
        obtain ⟨h1, h2⟩ := pairs_T.mpr t
        refine ⟨?_, .cons h.2 h2⟩
        simp only [List.map_cons, tkeys, h.1, h1]
/-- a pair is put: in its key's place, or at the end -/
def putA (kvs : List (Dat × Dat)) (k v : Dat) : List (Dat × Dat) :=
  if (kvs.any fun p => decide (p.1 = k)) = true then kvs.map (fun p => if p.1 = k then (p.1, v) else p) else kvs ++ [(k, v)]
theorem putA_pairs {F as : List Addr} {H : Hp} {κ : Type} [DecidableEq κ] {kf : Dat → Option κ} (inj : ∀ {a b : Dat} {k : κ}, kf a = some k → kf b = some k → a = b) {k d : Dat} {key : κ} {v : V} (hk : kf k = some key) (r : Rep G F as H d v) {kvs : List (Dat × Dat)} {kv : List (κ × V)}
    (h : Paired (PK G F as H kf) kvs kv) : Paired (PK G F as H kf) (putA kvs k d) (putK kv key v) := by
  have eqk : ∀ {p : Dat × Dat} {q : κ × V}, PK G F as H kf p q → (decide (p.1 = k) = decide (q.1 = key)) := fun {p q} h => by
    by_cases e : p.1 = k
    · have : q.1 = key := by have := h.1; rw [e, hk] at this; exact (Option.some.inj this).symm
      simp [e, this]
    · have : ¬ q.1 = key := fun z => e (inj (by rw [h.1, z]) hk)
      simp [e, this]
  have hany : (kvs.any fun p => decide (p.1 = k)) = (kv.any fun q => decide (q.1 = key)) := by
    induction h with
    | nil => rfl
    | cons h t ih => rw [List.any_cons, List.any_cons, eqk h, ih]
  have hmap : Paired (PK G F as H kf) (kvs.map (fun p => if p.1 = k then (p.1, d) else p)) (kv.map (fun q => if q.1 = key then (q.1, v) else q)) := by
    clear hany
    induction h with
    | nil => exact .nil
    | @cons p q l₁ l₂ h t ih =>
      refine .cons ?_ ih
      have := eqk h
      show PK G F as H kf (if p.1 = k then (p.1, d) else p) (if q.1 = key then (q.1, v) else q)
      by_cases e : p.1 = k
      · have e2 : q.1 = key := by simpa [e] using this
        rw [if_pos e, if_pos e2]; exact ⟨h.1, r⟩
      · have e2 : ¬ q.1 = key := by simpa [e] using this
        rw [if_neg e, if_neg e2]; exact h
  unfold putA putK
  rw [hany]
  split
  · exact hmap
  · exact h.snoc ⟨hk, r⟩
/-- an object of the store -/
def putD (x y d : Dat) (S : Sto) : Option Sto := match x with
  | .ref n => match S[n]? with
    | some (.lst xs) => match y with
      | .int k => match ixN xs.length k with
        | some j => some (S.set n (.lst (xs.set j d)))
        | none => none
      | _ => none
    | some (.dct t kvs) => if isKey t y && decide (kvs.length < sizeLine) then some (S.set n (.dct t (putA kvs y d))) else none
    | _ => none
  | _ => none
def rSetA : V → V → V → Hp → (Hp → Prop) → Prop := fun o i v H Q => rSetL o i v H Q ∨ ∃ a H', o = .ref a ∧ DPut H a i v H' ∧ Q H'
theorem set_all (c : Ctx G X W) : PSet X rSetA := by
  intro pins s σ H o i v ov iv u Q I ro ri rv h
  rcases h with h | ⟨a, H', rfl, g, q⟩
  · exact set_list pins s σ H o i v ov iv u Q I ro ri rv h
  · obtain rfl : ov = .ref a := ro
    exact d_setItem (by have := c.un; omega) I g ri rv fun s' I' => ⟨H', I', q⟩
theorem putD_rep {F as : List Addr} {S S' : Sto} {H : Hp} (hr : HR G F as S H) {x y d : Dat} {v u w : V} {Q : Hp → Prop} (rx : Rep G F as H x v) (ry : Rep G F as H y u) (rd : Rep G F as H d w) (e : putD x y d S = some S')
    (q : ∀ H', Nxt G F as S H F as S' H' → Q H') : rSetA v u w H Q := by
  unfold putD at e
  split at e
  · rename_i n
    simp only [Rep] at rx
    obtain ⟨p, rfl, ha⟩ := rx
    split at e
    · rename_i xs hs
      split at e
      · rename_i k
        split at e
        · rename_i j ej
          cases e
          obtain ⟨vs, h1, h2⟩ := hr.obs _ _ _ ha hs
          cases ry.int_iff
          refine .inl ⟨p, vs, k, j, rfl, rfl, h1, by rw [← h2.length]; exact ej, q _ (Nxt.wrote hr _ ha hs (fun z => nomatch z) (fun z => nomatch z) fun H' kk e => ⟨_, e, RepL.kp (kp_but hr ha hs (fun z => nomatch z) kk) _ _ (h2.set rd j)⟩)⟩
        · cases e
      · cases e
    · rename_i t kvs hs
      split at e
      · rename_i g
        rw [Bool.and_eq_true] at g
        cases e
        rcases hr.obs _ _ _ ha hs with ⟨rfl, kv, h1, h2, h3⟩ | ⟨rfl, kv, h1, h2, h3⟩
        · have pr := pairs_K.mp ⟨h2, h3⟩
          have ik := g.1
          unfold isKey at ik
          simp only [Bool.false_eq_true, if_false] at ik
          obtain ⟨key, hkey⟩ := Option.isSome_iff_exists.mp ik
          refine .inr ⟨p, upd H p (.dK (putK kv key w)), rfl, .inl ⟨kv, key, h1, dkey_kV hkey ry, ?_, rfl⟩, q _ (Nxt.wrote hr _ ha hs (fun z => nomatch z) (fun z => nomatch z) fun H' kk e => ?_)⟩
          · rw [← Paired.length pr]; exact of_decide_eq_true g.2
          · have kp := kp_but hr ha hs (fun z => nomatch z) kk
            obtain ⟨z1, z2⟩ := pairs_K.mpr (putA_pairs (F := F) (as := as) (H := H') (kf := dkey) (fun a b => dkey_inj a b) hkey (Rep.kp kp _ _ rd) (L2.Paired.mapP pr fun a b h => ⟨h.1, Rep.kp kp _ _ h.2⟩))
            exact .inl ⟨rfl, _, e, z1, z2⟩
        · have pr := pairs_T.mp ⟨h2, h3⟩
          have ik := g.1
          unfold isKey at ik
          simp only [if_true, Bool.and_eq_true] at ik
          obtain ⟨key, hkey⟩ := Option.isSome_iff_exists.mp ik.1
          cases y <;> simp only [tkey] at hkey <;> first | cases hkey | skip
          rename_i ys
          have ry0 := ry
          simp only [Rep] at ry
          obtain ⟨b, us, rfl, hb, r⟩ := ry
          have ev := dkeys_kV hkey r
          subst ev
          rcases hb with ⟨_, hb⟩ | hb
          · refine .inr ⟨p, upd H p (.dT (putK kv key w)), rfl, .inr ⟨kv, key, b, h1, rfl, hb, ?_, rfl⟩, q _ (Nxt.wrote hr _ ha hs (fun z => nomatch z) (fun z => nomatch z) fun H' kk e => ?_)⟩
            · rw [← Paired.length pr]; exact of_decide_eq_true g.2
            · have kp := kp_but hr ha hs (fun z => nomatch z) kk
              obtain ⟨z1, z2⟩ := pairs_T.mpr (putA_pairs (F := F) (as := as) (H := H') (kf := tkey) (fun a b => tkey_inj a b) (k := .tup ys) hkey (Rep.kp kp _ _ rd) (L2.Paired.mapP pr fun a b h => ⟨h.1, Rep.kp kp _ _ h.2⟩))
              exact .inr ⟨rfl, _, e, z1, z2⟩
          · exact absurd hb.2 (of_decide_eq_true ik.2)
      · cases e
    · cases e
  · cases e
def gIx (fo fi : EF) : GF := fun d σ S => (noX (fo σ S)).bind fun x S1 => (noX (fi σ S1)).bind fun y S2 => match putD x y d S2 with
  | some S3 => .ok σ S3
  | none => .stuck
theorem noX_ok {α : Type} {r : Res α} {a : α} {S : Sto} (h : noX r = .ok a S) : r = .ok a S := by
  cases r <;> first | exact h | cases h
theorem calm_ix (fo fi : EF) : GF.calm (gIx fo fi) := fun d σ S e S' h => by
  unfold gIx at h
  cases e1 : fo σ S <;> rw [e1] at h <;> first | cases h | skip
  simp only [noX, Res.bind_ok] at h
  rename_i x S1
  cases e2 : fi σ S1 <;> rw [e2] at h <;> first | cases h | skip
  simp only [Res.bind_ok] at h
  split at h <;> cases h
theorem dg_ix {o i : Expr} {fo fi : EF} {pos : Pos} (c : Ctx G X W) (ho : DE G X W o fo) (hi : DE G X W i fi)
    (ha : ∀ v, assign (.Subscript o i pos) X.env v = (do
      let ov ← holding [v] (eval o X.env)
      let iv ← holding [v, ov] (eval i X.env)
      standAt pos
      holding [v, ov, iv] (setItem ov iv v)
      release [v, ov, iv] []) := by intro _; rfl) : DG G X (.Subscript o i pos) (gIx fo fi) := by
  obtain ⟨t, p, s⟩ := ho.ex
  obtain ⟨t', p', s'⟩ := hi.ex
  refine ⟨_, pg_sub p p' (set_all c) ha, fun F as S H σd σ d v Q hr hs r hp => s F as S H σd σ _ hr hs ?_⟩
  unfold gIx at hp
  revert hp
  cases e1 : fo σd S with
  | stuck => exact fun hp => hp.elim
  | exc _ _ => exact fun hp => hp.elim
  | ok x S1 =>
    intro hp b F1 as1 H1 n1 r1
    refine s' F1 as1 S1 H1 σd σ _ n1.hr (hs.nxt hr n1) ?_
    revert hp
    simp only [noX, Res.bind_ok]
    cases e2 : fi σd S1 with
    | stuck => exact fun hp => hp.elim
    | exc _ _ => exact fun hp => hp.elim
    | ok y S2 =>
      intro hp b2 F2 as2 H2 n2 r2
      revert hp
      simp only [Res.bind_ok]
      cases e3 : putD x y d S2 with
      | none => exact fun hp => hp.elim
      | some S3 => exact fun hp => putD_rep n2.hr (r1.nxt n1.hr n2) r2 (r.nxt hr (n1.trans n2)) e3 fun H' n3 => hp σ F2 as2 H' (n1.trans (n2.trans n3)) (hs.nxt hr (n1.trans (n2.trans n3)))
end
end Fx

namespace Fx
open PySem PySem.Spec PyProof.Rows L2

section
variable {X : Cx} {e : Expr} {es : List Expr} {ta : TA} {p1 p2 pos : Pos}
theorem pe_minit {pl : Sem Bool} {M : Str} {CM : Addr} (hg : Gl X M) (hm : X.mg M = some (.ref CM)) (rd : PySem.W.readsIn X.K CM (.type "type") = true) (ga : PySem.W.specialIn X.K (.ref CM) "__getattribute__" = some (some (.builtin "type.__getattribute__")))
    (vV : PySem.W.findCls X.K (.ref CM) (.type "type") "__init__" = some (.val (.builtin "ValueError.__init__"))) (ha : PA X (e :: es) ta) (hdb : (M == ("__debug__" : Str)) = false := by decide)
    (hc : eval (.Call (.Attribute (.Name M p1) "__init__" p2) (e :: es) [] pos) X.env = (do
      let ov ← eval (.Name M p1) X.env
      standAt p2.atName
      let (f, first) ← holding [ov] (getMethod ov "__init__" pl)
      callWith pos f first (backTo pos (starEach (e :: es) X.env)) (backToKw pos (keywordEach [] X.env))) := by rfl)
    (he : starEach (e :: es) X.env = (false, eval e X.env) :: starEach es X.env := by rfl) (hpl : (backTo pos (starEach es X.env)).any (·.1) = false := by rfl) :
    PE X (.Call (.Attribute (.Name M p1) "__init__" p2) (e :: es) [] pos) (tVeI X.K ta) := by
  refine ⟨fun pins s σ H Q I h => ?_⟩
  refine PySem.W.methodCall_KW (ld_glob I hg hm ?_ hdb) hc
  refine PySem.W.method_cls I.kIn ga (PySem.W.cls_value I.kIn rd vV (by decide +kernel) ?_)
  show wpAny _ _ (callWith pos (Value.builtin "ValueError.__init__") [] (backTo pos (starEach (e :: es) X.env)) []) _ _ _
  refine PyProof.Rows.callWith_method1 (thn (ha.run pos pins _ σ H _ (I.tok _) h) fun us s1 ⟨vs, H1, I1, r1, a, C, ws, ev, hl, T, ea, q⟩ => ?_) he hpl
  subst ev
  cases r1 with
  | @cons _ u0 _ ur ra rw' =>
    obtain rfl : u0 = Value.ref a := ra
    have hlen : ur.length ≤ sizeLine := by
      rw [← Paired.length rw', sizeLine_eq]
      omega
    exact oinit_ok T I1 ea hlen fun s' J => ⟨.non, H1, J, rfl, q⟩
end
theorem upd_upd_ne {H : Hp} {a b : Addr} {o u w : HO} (h : b ≠ a) : upd (upd (upd H b o) a u) b w = upd (upd H b w) a u := by
  funext c
  by_cases h1 : c = b
  · subst h1
    rw [upd_same, upd_ne h, upd_same]
  · rw [upd_ne h1]
    by_cases h2 : c = a
    · subst h2
      rw [upd_same, upd_same]
    · rw [upd_ne h2, upd_ne h2, upd_ne h1, upd_ne h1]
/-- what an own __init__ leaves: the fields, the last ahead -/
def spI (C : Addr) (fs : List Str) : Sp := fun vs H Q _ => ∃ a ws, vs = .ref a :: ws ∧ ws.length = fs.length ∧ H a = some (exo a C none) ∧ ∀ dx, H dx = none → dx ≠ a → Q .non (upd (upd H dx (exd dx (fs.zip ws).reverse)) a (exo a C (some dx)))
section
variable {P : Program} {w : World} {K : PySem.W.Frag} {mg : Str → Option Value} {base : Heap} {x qual : Str} {params : Arguments} {body : List Stmt} {scope : Scope} {f : Addr} {fd : FuncData} {N ps : List Str} {k : Nat} {C : Addr} {m f1 f2 : Str}
theorem init1_ok (Fu : FunD K x qual params body scope [] [] f fd) (S : FnScope N ps scope) (hn : ps.length = 2) (T : OexC K C) (h1 : PySem.W.findIn K (.ref C) f1 = some none)
    (hb : ∀ (cdv : Value) (A : Around) (outer : List Env) (s : Shared) (H : Hp) (E : XK), PSs (cxOf (L2.CX P w) P w K mg base N qual scope f cdv A outer s H E) body
      (tSeq (tDrop (tVeI K (tCons (tVar 0) (tCons (tC (.str m)) tNil)))) (tOst K f1 (tVar 0) (tVar 1)))) :
    FnOk P w K mg base (L2.CX P w) (k + 1) f fd ps (spI C [f1]) := by
  refine Fu.ok S (fun vs H Q E ⟨a, ws, e, l, _⟩ => by rw [e, hn, List.length_cons, l]; rfl) (fun cdv A outer s H vs Q E hr h => ⟨_, hb cdv A outer s H E, ?_⟩)
  obtain ⟨a, ws, rfl, hl, ea, q⟩ := h
  match ws, hl with
  | [v], _ =>
    refine ⟨.ref a, rfl, a, C, [.str m], rfl, by show 1 ≤ 1000; omega, T, ea, ?_⟩
    refine ⟨v, rfl, .ref a, rfl, a, C, rfl, T, h1, .inl ⟨ea, fun dx d1 d2 => q dx d1 d2⟩⟩
theorem init2_ok (Fu : FunD K x qual params body scope [] [] f fd) (S : FnScope N ps scope) (hn : ps.length = 3) (T : OexC K C) (h1 : PySem.W.findIn K (.ref C) f1 = some none) (h2 : PySem.W.findIn K (.ref C) f2 = some none)
    (hb : ∀ (cdv : Value) (A : Around) (outer : List Env) (s : Shared) (H : Hp) (E : XK), PSs (cxOf (L2.CX P w) P w K mg base N qual scope f cdv A outer s H E) body
      (tSeq (tDrop (tVeI K (tCons (tVar 0) (tCons (tC (.str m)) tNil)))) (tSeq (tOst K f1 (tVar 0) (tVar 1)) (tOst K f2 (tVar 0) (tVar 2))))) :
    FnOk P w K mg base (L2.CX P w) (k + 1) f fd ps (spI C [f1, f2]) := by
  refine Fu.ok S (fun vs H Q E ⟨a, ws, e, l, _⟩ => by rw [e, hn, List.length_cons, l]; rfl) (fun cdv A outer s H vs Q E hr h => ⟨_, hb cdv A outer s H E, ?_⟩)
  obtain ⟨a, ws, rfl, hl, ea, q⟩ := h
  match ws, hl with
  | [v, u], _ =>
    refine ⟨.ref a, rfl, a, C, [.str m], rfl, by show 1 ≤ 1000; omega, T, ea, ?_⟩
    refine ⟨v, rfl, .ref a, rfl, a, C, rfl, T, h1, .inl ⟨ea, fun dx d1 d2 => ?_⟩⟩
    refine ⟨u, rfl, .ref a, rfl, a, C, rfl, T, h2, .inr ⟨dx, [(f1, v)], upd_same, by rw [upd_ne d2, upd_same], by show 1 ≤ 900; omega, ?_⟩⟩
    rw [upd_upd_ne d2]
    exact q dx d1 d2
end

/-- raise C(..), C's own __init__ keeping the arguments under ns -/
def sRaise (c : String) (ns : List Str) (g : AF) : SF := fun σ S => (g σ S).out σ fun ds S1 => if ds.length = ns.length then .exc ⟨c, (ns.zip ds).reverse⟩ σ S1 else .stuck
/-- raise C('m') -/
def sRaise0 (c : String) : SF := fun σ S => .exc ⟨c, []⟩ σ S
theorem zip_fst : ∀ (ns : List Str) (ds : List Dat), ds.length = ns.length → (ns.zip ds).map (·.1) = ns := fun ns ds h => List.map_fst_zip (by omega)
theorem zip_snd {α : Type} : ∀ (ns : List Str) (ds : List α), ds.length = ns.length → (ns.zip ds).map (·.2) = ds := fun ns ds h => List.map_snd_zip (by omega)
theorem zip_fst' {α : Type} : ∀ (ns : List Str) (ds : List α), ds.length = ns.length → (ns.zip ds).map (·.1) = ns := fun ns ds h => List.map_fst_zip (by omega)
section
variable {G : Gc} {X : Cx} {W : WX}
theorem ds_raise {x : Str} {c : String} {C fI : Addr} {k : Nat} {fd : FuncData} {ps : List Str} {ns : List Str} {e : Expr} {es : List Expr} {g : AF} {p pos pos' : Pos} (cx : Ctx G X W) (hc : X.calm = true) (gc : G.cl c = C) (hne : ns ≠ []) (hz : ns.length ≤ 900)
    (T : OexC G.K C) (iC : PySem.W.findIn G.K (.ref C) "__init__" = some (some (.ref fI))) (tI : PySem.W.typeIn G.K (.ref fI) = some (.type "function"))
    (F1 : FnOk X.prog X.w G.K X.mg X.base (L2.CX X.prog X.w) k fI fd ps (spI C ns)) (hr : Room (k + 1) X.A) (hb : Binds G.K fd ps []) (hg : Gl X x) (hm : X.mg x = some (.ref C)) (ha : DA G X W (e :: es) g)
    (hdb : (x == ("__debug__" : Str)) = false := by decide) (he : starEach (e :: es) X.env = (false, eval e X.env) :: starEach es X.env := by rfl) (hpl : (backTo pos (starEach es X.env)).any (·.1) = false := by rfl) :
    DS G X W (.Raise (some (.Call (.Name x p) (e :: es) [] pos)) none pos') (sRaise c ns g) := by
  obtain ⟨t, pa, s⟩ := ha.ex
  have K := cx.K
  refine ⟨_, ps_raise hc cx.tk (pmk_oex (ds := []) (dvs := []) (CX := L2.CX X.prog X.w) (by rw [K]; exact T) (by rw [K]; exact iC) (by rw [K]; exact tI) (by rw [K]; exact F1) hr (by rw [K]; exact hb) .nil (passes_call (E := fun _ _ _ => False) (W := W) cx.tk (fun _ _ _ _ h => h.elim)) hg hm pa hdb he hpl), fun F as S H σd σ D hr' hs hp => ?_⟩
  refine s F as S H σd σ _ hr' hs (PostS.out hr' hs hp fun ds S1 vs F1 as1 H1 _ n1 r1 hs1 h1 => ?_)
  by_cases hl : ds.length = ns.length
  · rw [if_pos hl] at h1
    have hvl : vs.length = ns.length := by rw [← r1.length]; exact hl
    refine ⟨by omega, fun a ea => ⟨a, vs ++ [], rfl, by rw [List.append_nil]; exact hvl, upd_same, fun dx ed hda => ⟨rfl, dx, _, upd_same, by rw [upd_ne hda, upd_same], by rw [upd_ne hda] at ed; exact ed, ?_⟩⟩⟩
    have edx : H1 dx = none := by rw [upd_ne hda] at ed; exact ed
    have eH : upd (del (upd (upd (upd H1 a (exo a C none)) dx (exd dx (ns.zip (vs ++ [])).reverse)) a (exo a C (some dx))) a) dx (.xd (ns.zip (vs ++ [])).reverse) = upd H1 dx (.xd (ns.zip vs).reverse) := by
      rw [List.append_nil]
      funext b
      by_cases h1 : b = dx
      · subst h1; rw [upd_same, upd_same]
      · rw [upd_ne h1, upd_ne h1]
        by_cases h2 : b = a
        · subst h2; rw [del_same, ea]
        · rw [del_ne h2, upd_ne h2, upd_ne h1, upd_ne h2]
    rw [eH]
    have n2 := Nxt.laid n1.hr edx (.xd (ns.zip vs).reverse)
    refine h1 (.ref C) (some dx) σ (dx :: F1) as1 _ n2 (hs1.nxt n1.hr n2) ⟨by rw [gc], .inr ⟨dx, _, rfl, List.mem_cons_self, upd_same, ?_, ?_, ?_⟩⟩
    · intro h
      have := congrArg List.length h
      simp [hl] at this
      exact hne this
    · rw [List.map_reverse, List.map_reverse, zip_fst' _ _ hvl, zip_fst _ _ hl]
    · rw [List.map_reverse, List.map_reverse, zip_snd _ _ hvl, zip_snd _ _ hl]
      exact (r1.nxt n1.hr n2).reverse
  · rw [if_neg hl] at h1
    exact h1.elim
theorem ds_raise0 {x m : Str} {c : String} {C : Addr} {bmB : List Value} {B newId initId : String} {j : Nat} {p p2 pos pos' : Pos} (cx : Ctx G X W) (hc : X.calm = true) (gc : G.cl c = C) (F : ExcBaseFacts B newId initId bmB) (q : PySem.W.excIn G.K C bmB newId = true)
    (gC : X.mg x = some (.ref C)) (kC : PySem.W.keepIn G.K (.ref C) = true) (b1 : PySem.W.subIn G.K (.ref C) (.type "BaseException") = some true) (b2 : PySem.W.typeIn G.K (.ref C) = some (.type "type")) (hg : Gl X x) (hdb : (x == ("__debug__" : Str)) = false := by decide) :
    DS G X W (.Raise (some (.Call (.Name x p) [.Constant (.str m) j p2] [] pos)) none pos') (sRaise0 c) := by
  have K := cx.K
  refine ⟨_, ps_raise hc cx.tk (pmk_own F (by rw [K]; exact q) gC (by rw [K]; exact kC) (raises_own (by rw [K]; exact b1) (by rw [K]; exact b2)) hg hdb), fun F as S H σd σ D hr hs hp => ?_⟩
  exact hp (.ref C) none σ F as H (.refl hr) hs ⟨by rw [gc], .inl ⟨rfl, rfl⟩⟩
end

/-- within an except suite -/
def Gc.inX (G : Gc) (i : Nat) (a : Addr) (c : Value) (dx : Option Addr) (e : Ex) : Gc := ⟨G.K, G.cl, some (i, a, c, dx, e)⟩
section
variable {G : Gc} {i : Nat} {a : Addr} {c : Value} {dx : Option Addr} {e : Ex} {F as : List Addr} {H : Hp}
mutual
theorem Rep.inX : ∀ (d : Dat) (v : V), Rep (G.inX i a c dx e) F as H d v ↔ Rep G F as H d v
  | .non, v => by simp only [Rep]
  | .bl _, v => by simp only [Rep]
  | .int _, v => by simp only [Rep]
  | .str _, v => by simp only [Rep]
  | .scr _, v => by simp only [Rep, Gc.inX]
  | .ref _, v => by simp only [Rep]
  | .tup xs, v => by simp only [Rep, RepL.inX xs]; rfl
  | .lst xs, v => by simp only [Rep, RepL.inX xs]
  | .dct t ks xs, v => by simp only [Rep, RepL.inX xs]
  | .obj c ns xs, v => by simp only [Rep, RepL.inX xs]; rfl
theorem RepL.inX : ∀ (ds : List Dat) (vs : List V), RepL (G.inX i a c dx e) F as H ds vs ↔ RepL G F as H ds vs
  | [], vs => by simp only [RepL]
  | d :: ds, vs => by simp only [RepL, Rep.inX d, RepL.inX ds]
end
theorem RepO.inX {b : Addr} {o : Ob} : RepO (G.inX i a c dx e) F as H b o ↔ RepO G F as H b o := by
  cases o <;> simp only [RepO, RepL.inX] <;> rfl
theorem HR.inX {S : Sto} : HR (G.inX i a c dx e) F as S H ↔ HR G F as S H :=
  ⟨fun h => ⟨h.len, h.nd, h.there, h.thereF, h.apart, fun n b o x y => RepO.inX.mp (h.obs n b o x y)⟩, fun h => ⟨h.len, h.nd, h.there, h.thereF, h.apart, fun n b o x y => RepO.inX.mpr (h.obs n b o x y)⟩⟩
theorem Nxt.inX {S S' : Sto} {F' as' : List Addr} {H' : Hp} : Nxt (G.inX i a c dx e) F as S H F' as' S' H' ↔ Nxt G F as S H F' as' S' H' :=
  ⟨fun h => ⟨HR.inX.mp h.hr, h.pre, h.fsub, h.keep, h.newF, h.newL, h.newA, h.some_⟩, fun h => ⟨HR.inX.mpr h.hr, h.pre, h.fsub, h.keep, h.newF, h.newL, h.newA, h.some_⟩⟩
theorem ExR.inX {e' : Ex} {c' : Value} {dx' : Option Addr} : ExR (G.inX i a c dx e) F as H e' c' dx' ↔ ExR G F as H e' c' dx' := by
  unfold ExR
  simp only [RepL.inX]
  rfl
/-- into the suite -/
theorem SR.inX {σd : Sl} {σ : L2.St} (h : SR G F as H σd σ) (hx : G.xp = none) (hi : i < σd.length) (r : ExR G F as H e c dx) : SR (G.inX i a c dx e) F as H (σd.set i none) (σ.set i (some (.ref a))) := by
  have w := SR.wipe hx h i (some (.ref a))
  refine ⟨w.1, fun j d q => let ⟨v, e1, e2⟩ := w.2.1 j d q; ⟨v, e1, (Rep.inX d v).mpr e2⟩, fun j a' c' dx' e' x1 x2 => ?_⟩
  cases x1
  exact ⟨by rw [List.getElem?_set_self (by rw [h.1]; exact hi)], ExR.inX.mpr r⟩
/-- .. without a name -/
theorem SR.inX0 {σd : Sl} {σ : L2.St} (h : SR G F as H σd σ) (hi : σd.length ≤ i) : SR (G.inX i a c dx e) F as H σd σ := by
  refine ⟨h.1, fun j d q => let ⟨v, e1, e2⟩ := h.2.1 j d q; ⟨v, e1, (Rep.inX d v).mpr e2⟩, fun j a' c' dx' e' x1 x2 => ?_⟩
  cases x1
  rw [List.getElem?_eq_none hi] at x2
  cases x2
/-- out of it -/
theorem SR.outX {σd : Sl} {σ : L2.St} (h : SR (G.inX i a c dx e) F as H σd σ) (hx : G.xp = none) : SR G F as H σd σ :=
  ⟨h.1, fun j d q => let ⟨v, e1, e2⟩ := h.2.1 j d q; ⟨v, e1, (Rep.inX d v).mp e2⟩, fun j a' c' dx' e' x1 x2 => by rw [hx] at x1; cases x1⟩
end

/-- the reading that says all -/
def tSt (G : Gc) (W : WX) (f : SF) : TS := fun D σ H => ∃ F as S σd, HR G F as S H ∧ SR G F as H σd σ ∧ PostS G W F as S H (f σd S) D
theorem DB.can {G : Gc} {X : Cx} {W : WX} {st : List Stmt} {f : SF} (h : DB G X W st f) : PSs X st (tSt G W f) := by
  obtain ⟨t, p, s⟩ := h.ex
  exact ⟨fun pins sh σ H D I ⟨F, as, S, σd, hr, hs, hp⟩ => p.run pins sh σ H D I (s F as S H σd σ D hr hs hp)⟩
/-- try: f, except a class that is told by t, as slot i: g -/
def sTry (t : String → Option Bool) (i : Nat) (f : SF) (g : Ex → SF) : SF := fun σ S => match f σ S with
  | .exc e σ1 S1 => match t e.cls with
    | some true => match g e (σ1.set i none) S1 with
      | .nx σ2 S2 => .nx (σ2.set i none) S2
      | .bk σ2 S2 => .bk (σ2.set i none) S2
      | .ct σ2 S2 => .ct (σ2.set i none) S2
      | .rt d S2 => .rt d S2
      | _ => .stuck
    | some false => .exc e σ1 S1
    | none => .stuck
  | r => r
/-- .. without a name -/
def sTry0 (t : String → Option Bool) (f : SF) (g : SF) : SF := fun σ S => match f σ S with
  | .exc e σ1 S1 => match t e.cls with
    | some true => match g σ1 S1 with
      | .exc _ _ _ => .stuck
      | r => r
    | some false => .exc e σ1 S1
    | none => .stuck
  | r => r
/-- .. of two clauses -/
def sTry2 (t : String → Option Bool) (t2 : String → Option Bool) (f : SF) (g g2 : SF) : SF := fun σ S => match f σ S with
  | .exc e σ1 S1 => match t e.cls with
    | some true => match g σ1 S1 with
      | .exc _ _ _ => .stuck
      | r => r
    | some false => match t2 e.cls with
      | some true => match g2 σ1 S1 with
        | .exc _ _ _ => .stuck
        | r => r
      | some false => .exc e σ1 S1
      | none => .stuck
    | none => .stuck
  | r => r
abbrev WN : WX := fun _ _ _ _ => False
/-- what t tells of the classes -/
def Tells (G : Gc) (c : Value) (t : String → Option Bool) : Prop := ∀ n b, t n = some b → PySem.W.exmOne G.K (.ref (G.cl n)) c = some b
section
variable {G : Gc} {X : Cx} {W : WX} {x n : Str} {c : Value} {body suite : List Stmt} {b₀ : Stmt} {np pos pos' : Pos} {t : String → Option Bool} {f : SF}
/-- a suite's context, by the exception -/
abbrev SuX (X : Cx) (a : Addr) (oe : Obj) (pn : List (Addr × Obj)) : Cx := X.suite a ((a, oe) :: pn)
theorem sndS_can {G : Gc} {W : WX} {t : TS} {f : SF} (s : SndS G W t f) {D : Ends} {σ : L2.St} {H : Hp} (h : tSt G W f D σ H) : t D σ H := by
  obtain ⟨F, as, S, σd, hr, hs, hp⟩ := h
  exact s F as S H σd σ D hr hs hp
theorem ds_try {g : Ex → SF} (i : Nat) (cx : Ctx G X W) (hxp : G.xp = none) (hs : X.stack = X.env :: X.outer) (hf : X.env.frame = some X.env.locals) (hc : Names X x c) (ht : Tells G c t)
    (hb : ∀ (W' : WX) (pn : List (Addr × Obj)) (xe : Value → Shared → Prop), Ctx G (X.tr pn xe) W' → PassesOwn (model X.prog X.w) X.A X.env xe → DB G (X.tr pn xe) W' body f)
    (hsu : ∀ (a : Addr) (oe : Obj) (cls : Value) (d : Option Addr) (pn : List (Addr × Obj)) (e : Ex), Zc cls d oe → (∃ vs, oe.data = .fields vs) → t e.cls = some true → Ctx (G.inX i a cls d e) (SuX X a oe pn) WN → DB (G.inX i a cls d e) (SuX X a oe pn) WN (b₀ :: suite) (g e))
    (hi : X.N[i]? = some n := by rfl) (hln : X.env.kindOf n = some .local := by rfl) :
    DS G X W (.Try body [.ExceptHandler (some (.Name x np)) (some n) (b₀ :: suite) pos'] [] [] pos) (sTry t i f g) := by
  refine ⟨_, ps_try_as (tb := fun W' => tSt G W' f) (ts := fun a cls d D σ H => ∃ e, t e.cls = some true ∧ tSt (G.inX i a cls d e) WN (g e) D σ H) (Wout := W) hs hf cx.nd hi hln hc cx.tk (fun W' pn xe tk hpo => (hb W' pn xe ⟨cx.K, tk, cx.nd, cx.un, cx.cx⟩ hpo).can) (fun a oe cls d pn z hv => ?_), fun F as S H σd σ D hr hsr hp => ?_⟩
  · exact ⟨fun pins sh σ H D I ⟨e, he, h⟩ => ((hsu a oe cls d pn e z hv he ⟨cx.K, takes0, cx.nd, cx.un, fun h => nomatch h⟩).can).run pins sh σ H D I h⟩
  · refine ⟨F, as, S, σd, hr, hsr, ?_⟩
    unfold sTry at hp
    revert hp
    cases e0 : f σd S with
    | nx σ1 S1 => exact fun hp => hp
    | rt d S1 => exact fun hp => hp
    | bk σ1 S1 => exact fun hp => hp
    | ct σ1 S1 => exact fun hp => hp
    | stuck => exact fun hp => hp
    | exc e σ1 S1 =>
      intro hp cl dx σ' F' as' H' n1 s1 r1
      dsimp only at hp
      have kc := r1.1
      cases e1 : t e.cls with
      | none => rw [e1] at hp; exact hp.elim
      | some b =>
        have hex := ht _ _ e1
        rw [← kc, ← cx.K] at hex
        refine ⟨b, hex, fun hbt a ha => ?_, fun hbf => ?_⟩
        · subst hbt
          rw [e1] at hp
          dsimp only at hp
          refine ⟨e, e1, F', as', S1, σ1.set i none, HR.inX.mpr n1.hr, ?_, ?_⟩
          · by_cases hil : i < σ1.length
            · exact s1.inX hxp hil r1
            · have h1 : σ1.length ≤ i := by omega
              have h2 : σ'.length ≤ i := by rw [s1.1]; exact h1
              rw [List.set_eq_of_length_le h1, List.set_eq_of_length_le h2]
              exact s1.inX0 h1
          · revert hp
            cases g e (σ1.set i none) S1 with
            | nx σ2 S2 => exact fun hp σ3 F3 as3 H3 n3 s3 => hp _ F3 as3 H3 (n1.trans (Nxt.inX.mp n3)) ((s3.outX hxp).wipe hxp i none)
            | bk σ2 S2 => exact fun hp σ3 F3 as3 H3 n3 s3 => hp _ F3 as3 H3 (n1.trans (Nxt.inX.mp n3)) ((s3.outX hxp).wipe hxp i none)
            | ct σ2 S2 => exact fun hp σ3 F3 as3 H3 n3 s3 => hp _ F3 as3 H3 (n1.trans (Nxt.inX.mp n3)) ((s3.outX hxp).wipe hxp i none)
            | rt d S2 => exact fun hp v F3 as3 H3 n3 r3 => hp v F3 as3 H3 (n1.trans (Nxt.inX.mp n3)) ((Rep.inX d v).mp r3)
            | exc _ _ _ => exact fun hp => hp.elim
            | stuck => exact fun hp => hp.elim
        · subst hbf
          rw [e1] at hp
          exact hp cl dx σ' F' as' H' n1 s1 r1
theorem PostS.noX {G : Gc} {F as : List Addr} {S : Sto} {H : Hp} {r : Out} {D : Ends} {W : WX} (h : PostS G W F as S H (match r with | .exc _ _ _ => .stuck | r => r) D) {i a c dx e} : PostS (G.inX i a c dx e) WN F as S H r D → True := fun _ => trivial
theorem ds_try0 {g : SF} (cx : Ctx G X W) (hs : X.stack = X.env :: X.outer) (hf : X.env.frame = some X.env.locals) (hc : Names X x c) (ht : Tells G c t)
    (hb : ∀ (W' : WX) (pn : List (Addr × Obj)) (xe : Value → Shared → Prop), Ctx G (X.tr pn xe) W' → PassesOwn (model X.prog X.w) X.A X.env xe → DB G (X.tr pn xe) W' body f)
    (hsu : ∀ (a : Addr) (oe : Obj) (pn : List (Addr × Obj)), Ctx G (SuX X a oe pn) WN → DB G (SuX X a oe pn) WN (b₀ :: suite) g) :
    DS G X W (.Try body [.ExceptHandler (some (.Name x np)) none (b₀ :: suite) pos'] [] [] pos) (sTry0 t f g) := by
  refine ⟨_, ps_try_only (tb := fun W' => tSt G W' f) (ts := fun a cls d D σ H => tSt G WN g D σ H) (Wout := W) hs hf hc cx.tk (fun W' pn xe tk hpo => (hb W' pn xe ⟨cx.K, tk, cx.nd, cx.un, cx.cx⟩ hpo).can) (fun a oe cls d pn z hv => ?_), fun F as S H σd σ D hr hsr hp => ?_⟩
  · exact (hsu a oe pn ⟨cx.K, takes0, cx.nd, cx.un, fun h => nomatch h⟩).can
  · refine ⟨F, as, S, σd, hr, hsr, ?_⟩
    unfold sTry0 at hp
    revert hp
    cases e0 : f σd S with
    | nx σ1 S1 => exact fun hp => hp
    | rt d S1 => exact fun hp => hp
    | bk σ1 S1 => exact fun hp => hp
    | ct σ1 S1 => exact fun hp => hp
    | stuck => exact fun hp => hp
    | exc e σ1 S1 =>
      intro hp cl dx σ' F' as' H' n1 s1 r1
      dsimp only at hp
      have kc := r1.1
      cases e1 : t e.cls with
      | none => rw [e1] at hp; exact hp.elim
      | some b =>
        have hex := ht _ _ e1
        rw [← kc, ← cx.K] at hex
        refine ⟨b, hex, fun hbt a ha => ?_, fun hbf => ?_⟩
        · subst hbt
          rw [e1] at hp
          dsimp only at hp
          refine ⟨F', as', S1, σ1, n1.hr, s1, ?_⟩
          revert hp
          cases g σ1 S1 with
          | nx σ2 S2 => exact fun hp σ3 F3 as3 H3 n3 s3 => hp _ F3 as3 H3 (n1.trans n3) s3
          | bk σ2 S2 => exact fun hp σ3 F3 as3 H3 n3 s3 => hp _ F3 as3 H3 (n1.trans n3) s3
          | ct σ2 S2 => exact fun hp σ3 F3 as3 H3 n3 s3 => hp _ F3 as3 H3 (n1.trans n3) s3
          | rt d S2 => exact fun hp v F3 as3 H3 n3 r3 => hp v F3 as3 H3 (n1.trans n3) r3
          | exc _ _ _ => exact fun hp => hp.elim
          | stuck => exact fun hp => hp.elim
        · subst hbf
          rw [e1] at hp
          exact hp cl dx σ' F' as' H' n1 s1 r1
/-- e.f in the suite -/
def eXf (i : Nat) (e : Ex) (f : Str) : EF := fun σ S => if σ[i]? = some none then (match e.fs.lookup f with | some d => .ok d S | none => .stuck) else .stuck
theorem lookup_rep {G : Gc} {F as : List Addr} {H : Hp} : ∀ {ds : List (Str × Dat)} {vs : List (Str × V)} {f : Str} {d : Dat}, vs.map (·.1) = ds.map (·.1) → RepL G F as H (ds.map (·.2)) (vs.map (·.2)) → ds.lookup f = some d → ∃ v, vs.lookup f = some v ∧ Rep G F as H d v
  | [], vs, f, d, _, _, e => by cases e
  | (a, x) :: ds, [], f, d, h, _, e => by cases h
  | (a, x) :: ds, (b, y) :: vs, f, d, h, r, e => by
    simp only [List.map_cons, List.cons.injEq] at h
    simp only [List.map_cons, RepL] at r
    obtain ⟨v, vs', e1, r1, r2⟩ := r
    cases e1
    rw [L2.lookup_put]
    have e' : ((a, x) :: ds).lookup f = if f = a then some x else ds.lookup f := by
      by_cases h : f = a
      · subst h
        simp [List.lookup]
      · have e : (f == a) = false := by simpa using h
        rw [if_neg h]
        simp [List.lookup, e]
    rw [e'] at e
    rw [h.1]
    by_cases hfa : f = a
    · rw [if_pos hfa] at e ⊢
      cases e
      exact ⟨y, rfl, r1⟩
    · rw [if_neg hfa] at e ⊢
      exact lookup_rep h.2 r2 e
theorem de_xf {a : Addr} {oe : Obj} {cls : Value} {d : Option Addr} {pn : List (Addr × Obj)} {i : Nat} {e : Ex} {f x : Str} {W' : WX} {p pos : Pos} (K : X.K = G.K) (hC : cls = .ref (G.cl e.cls) → XfC G.K (G.cl e.cls) ∧ PySem.W.findIn G.K (.ref (G.cl e.cls)) f = some none) (hz : Zc cls d oe) (hf : ∃ vs, oe.data = .fields vs)
    (hN : X.N[i]? = some x := by rfl) (hv : Vis X.env.scope x := by first | exact Or.inl rfl | exact Or.inr (Or.inl rfl) | exact Or.inr (Or.inr rfl)) (hd : (x == ("__debug__" : Str)) = false := by decide)
    (hcd : (x == ("__classdict__" : Str)) = false := by decide) (hb : attributeBase (.Name x p) f (SuX X a oe pn).env (eval (.Name x p) (SuX X a oe pn).env) = eval (.Name x p) (SuX X a oe pn).env := by rfl) :
    DE (G.inX i a cls d e) (SuX X a oe pn) W' (.Attribute (.Name x p) f pos) (eXf i e f) := by
  by_cases hcl : cls = .ref (G.cl e.cls)
  · obtain ⟨T, hno⟩ := hC hcl
    refine ⟨_, pe_xf (te := tVar i) (C := G.cl e.cls) (by show XfC X.K _; rw [K]; exact T) (by rw [K]; exact hno) hz hf (pe_var (X := SuX X a oe pn) hN hv hd hcd) hb, fun F as S H σd σ Q hr hs hp => ?_⟩
    unfold eXf at hp
    split at hp
    · rename_i h1
      obtain ⟨q1, q2⟩ := hs.2.2 i a cls d e rfl h1
      split at hp
      · rename_i dd h2
        refine ⟨.ref a, q1, rfl, hcl, ?_⟩
        rcases q2.2 with ⟨z, _⟩ | ⟨d0, fs, z1, z2, z3, z4, z5, z6⟩
        · rw [z] at h2; cases h2
        · obtain ⟨v, y1, y2⟩ := lookup_rep z5 z6 h2
          exact ⟨d0, fs, v, z1, z3, y1, hp.now hr y2⟩
      · exact hp.elim
    · exact hp.elim
  · refine ⟨fun _ _ _ => False, ⟨fun _ _ _ _ _ _ h => h.elim⟩, fun F as S H σd σ Q hr hs hp => ?_⟩
    unfold eXf at hp
    split at hp
    · rename_i h1
      obtain ⟨q1, q2⟩ := hs.2.2 i a cls d e rfl h1
      exact absurd q2.1 hcl
    · exact hp.elim
end
end Fx

namespace Fx
open PySem PySem.Spec PyProof.Rows L2

def mergeT (kvs more : List (List Key × V)) : List (List Key × V) := more.foldl (fun acc kv => putK acc kv.1 kv.2) kvs
theorem length_mergeT : ∀ (more kvs : List (List Key × V)), (mergeT kvs more).length ≤ kvs.length + more.length
  | [], kvs => Nat.le_refl _
  | p :: r, kvs => by
    have h1 := length_mergeT r (putK kvs p.1 p.2)
    have h2 := length_putK kvs p.1 p.2
    show (mergeT (putK kvs p.1 p.2) r).length ≤ _
    rw [List.length_cons]
    omega
theorem KTmerge {H : Hp} : ∀ {more : List (List Key × V)} {rs : List (List Key × Addr × Value)} {kvs : List (List Key × V)} {xs : List (List Key × Addr × Value)}, L2.KT H more rs → L2.KT H kvs xs → L2.KT H (mergeT kvs more) (storedAllH xs rs)
  | _, _, _, _, .nil, h => h
  | _, _, kvs, xs, .cons (a := p) (b := q) hpq t, h => by
    obtain ⟨e1, e2, e3⟩ := hpq
    show L2.KT H (mergeT (putK kvs p.1 p.2) _) (storedAllH (storedH xs q.1 q.2.1 q.2.2) _)
    refine KTmerge t ?_
    rw [← e1]
    exact L2.KT.put h p.1 e2 e3
section
variable {X : Cx} {pins : List (Addr × Obj)} {σ : L2.St} {H : Hp} {s : Shared}
theorem pairs_ofT (I : Inv X pins σ H s) : ∀ {ps : List Addr} {kvs : List (List Key × V)}, Paired (fun p kv => ∃ b, SqT X.K H p [.ref b, kv.2] ∧ H b = some (.tup (kv.1.map kV))) ps kvs →
    ∃ prs : List (List Key × Addr × Value), L2.KT H kvs prs ∧ prs.length = ps.length ∧ ∀ (j : Nat) (q : List Key × Addr × Value), prs[j]? = some q → ∃ b : Addr, ps[j]? = some b ∧ IsTup s.heap b #[.ref q.2.1, q.2.2]
  | _, _, .nil => ⟨[], .nil, rfl, fun j q e => by simp at e⟩
  | _, _, .cons (a := p) (b := kv) h t => by
    obtain ⟨prs, r, hl, hp⟩ := pairs_ofT I t
    obtain ⟨b, h, hb⟩ := h
    obtain ⟨its, rv, ht, _⟩ := I.tuple h
    obtain ⟨u, y, ei, ru, ry⟩ := vals2 rv
    subst ei
    obtain rfl : u = Value.ref b := ru
    refine ⟨(kv.1, b, y) :: prs, .cons ⟨rfl, hb, ry⟩ r, by rw [List.length_cons, List.length_cons, hl], fun j q e => ?_⟩
    cases j with
    | zero =>
      have e' : (kv.1, b, y) = q := Option.some.inj e
      subst e'
      exact ⟨p, rfl, ht⟩
    | succ j =>
      obtain ⟨b', e1, e2⟩ := hp j q (by simpa using e)
      exact ⟨b', by simpa using e1, e2⟩
theorem call_dictT (hcalm : X.calm = true) (hu : X.A.units + 2 < cLine) : CallR X (.type "dict") (fun xs H Q => ∃ (a : Addr) (ps : List Addr) (kvs : List (List Key × V)), xs = [.ref a] ∧ SqL X.K H a (ps.map V.ref) ∧ Paired (fun p kv => ∃ b, SqT X.K H p [.ref b, kv.2] ∧ H b = some (.tup (kv.1.map kV))) ps kvs ∧
    ∀ p, H p = none → Q (.ref p) (upd H p (.dT (mergeT [] kvs)))) := by
  intro pins s σ H xs us Q I r q
  obtain ⟨a, ps, kvs, ex, hq, hp, q⟩ := q
  subst ex
  obtain ⟨u, eu, rx⟩ := vals1 r
  subst eu
  cases rx
  obtain ⟨its, rv, pl, hz⟩ := I.list hq
  have ei := refs_at rv
  subst ei
  rw [List.length_map] at hz
  obtain ⟨prs, rel, hl, hpr⟩ := pairs_ofT I hp
  obtain ⟨o, n, ho, hc, hd, hdat⟩ := pl
  have hlen : prs.length ≤ sizeLine := by rw [hl]; exact hz
  have hroom : (tupleKind (mixKind X.prog X.w)).room X.A.in1.in1 := by
    have : X.A.units + 1 + 1 < cLine := by omega
    exact this
  have hitems : PairItems s.heap (ps.map Value.ref).toArray (fun j => ps.getD j 0) (prs.map fun x => ((Value.ref x.2.1 : Value), x.2.2)) := by
    refine ⟨by simp [hl], fun j k v e => ?_⟩
    rw [List.getElem?_map] at e
    cases e0 : prs[j]? with
    | none => rw [e0] at e; cases e
    | some x =>
      rw [e0] at e
      cases e
      obtain ⟨b, e1, e2⟩ := hpr j x e0
      refine ⟨by simp [e1, List.getD], .inl ?_⟩
      simp only [List.getD, e1, Option.getD_some]
      obtain ⟨o', h1, h2, n', h3⟩ := e2
      exact ⟨o', h1, h2, n', h3⟩
  have hhave : PairsHaveH (tupleKind (mixKind X.prog X.w)) (prs.map fun x => ((Value.ref x.2.1 : Value), x.2.2)).length (PairRel (prs.map fun x => ((Value.ref x.2.1 : Value), x.2.2))) prs := by
    refine ⟨by simp, fun i key v e => ?_⟩
    have e' : (prs.map fun x => ((Value.ref x.2.1 : Value), x.2.2))[i]? = some (key, v) := e
    rw [List.getElem?_map] at e'
    cases e0 : prs[i]? with
    | none => rw [e0] at e'; cases e'
    | some x =>
      rw [e0] at e'
      cases e'
      exact ⟨x.1, x.2.1, rfl, rfl⟩
  have all : ∀ {l : List (List Key × V)} {m : List (List Key × Addr × Value)}, L2.KT H l m → ∀ x ∈ m, (tupleKind (mixKind X.prog X.w)).is s.heap x.1 x.2.1 := by
    intro l m q
    induction q with
    | nil => intro x hx; exact nomatch hx
    | @cons p q ps qs hq t ih =>
      intro x hx
      rcases List.mem_cons.mp hx with e | hx
      · subst e
        exact key_of I.hok (by rw [← hq.1]; exact hq.2.1)
      · exact ih x hx
  have hst : KeysStay (tupleKind (mixKind X.prog X.w)) s.heap s.heap.objs.size [] prs := fun h' hk x hx => by
    obtain ⟨o2, items, n2, z1, z2, z3, z4⟩ := all rel x hx
    exact ⟨o2, items, n2, hk _ _ (Nat.ne_of_lt (Heap.lt_size z1)) (fun q => nomatch q) z1, z2, z3, z4⟩
  refine call_dict_pairsH (PairArg.list a (ps.map Value.ref).toArray (fun j => ps.getD j 0) (prs.map fun x => ((Value.ref x.2.1 : Value), x.2.2))) (I.ok.hd hcalm) hroom ⟨⟨o, n, ho, hc, hd, hdat⟩, hitems⟩ hhave hst (by rw [List.length_map]; exact hlen) fun h' tk hd' k => ?_
  · have hm : (s.heap.objs.size == sysModules) = false := beq_eq_false_iff_ne.mpr (Nat.ne_of_gt I.big)
    have hlen2 : (mergeT [] kvs).length ≤ sizeLine := by
      refine Nat.le_trans (length_mergeT kvs []) ?_
      rw [List.length_nil, Nat.zero_add, Paired.length rel]
      exact hlen
    obtain ⟨q2, es, ep, hq2, h2, h3, h4, _, h5⟩ := hd'
    have hnew : H s.heap.objs.size = none := I.hok.fresh (Nat.le_refl _)
    refine ⟨.ref s.heap.objs.size, upd H s.heap.objs.size (.dT (mergeT [] kvs)), I.laid (t' := tk) (fun b o e => k b o (fun q => nomatch q) e) (Nat.le_refl _)
      (show ObjOk X.prog X.w _ _ _ (.dT (mergeT [] kvs)) from ⟨hlen2, hm, storedAllH [] prs, L2.KT.keeps (KTmerge rel .nil) fun c ys ec => ?_, q2, es, ep, hq2, h2, h3, h4, h5⟩), rfl, q _ hnew⟩
    rw [upd_ne (ne_of_none ec hnew)]
    exact ec
end

def mergeD (kvs more : List (Dat × Dat)) : List (Dat × Dat) := more.foldl (fun acc p => putA acc p.1 p.2) kvs
def pairsD : List Dat → Option (List (Dat × Dat))
  | [] => some []
  | .tup [k, v] :: r => match pairsD r with
    | some ps => some ((k, v) :: ps)
    | none => none
  | _ :: _ => none
/-- t: its keys are tuples -/
def oDict (t : Bool) : OA := fun xs S => match xs with
  | [x] => match seqL x S with
    | some ds => match pairsD ds with
      | some ps => .guard (ps.all fun p => isKey t p.1) (.ok (.dct t ((mergeD [] ps).map (·.1)) ((mergeD [] ps).map (·.2))) S)
      | none => .stuck
    | none => .stuck
  | _ => .stuck
section
variable {G : Gc} {X : Cx} {W : WX} {F as : List Addr} {H : Hp}
theorem mergeD_pairs {κ : Type} [DecidableEq κ] {kf : Dat → Option κ} (inj : ∀ {a b : Dat} {k : κ}, kf a = some k → kf b = some k → a = b) : ∀ {more : List (Dat × Dat)} {mk : List (κ × V)} {kvs : List (Dat × Dat)} {kv : List (κ × V)},
    Paired (PK G F as H kf) more mk → Paired (PK G F as H kf) kvs kv → Paired (PK G F as H kf) (mergeD kvs more) (mk.foldl (fun acc kv => putK acc kv.1 kv.2) kv)
  | _, _, _, _, .nil, h => h
  | _, _, kvs, kv, .cons (a := p) (b := q) hpq t, h => by
    show Paired _ (mergeD (putA kvs p.1 p.2) _) (List.foldl _ (putK kv q.1 q.2) _)
    exact mergeD_pairs inj t (putA_pairs inj hpq.1 hpq.2 h)
theorem pairsD_T {K : PySem.W.Frag} (hK : G.K = K) : ∀ {ds : List Dat} {ps : List (Dat × Dat)} {vs : List V}, pairsD ds = some ps → RepL G F as H ds vs → (ps.all fun p => isKey true p.1) = true →
    ∃ (pa : List Addr) (kvs : List (List Key × V)), vs = pa.map V.ref ∧ Paired (PK G F as H tkey) ps kvs ∧ Paired (fun p kv => ∃ b, SqT K H p [.ref b, kv.2] ∧ H b = some (.tup (kv.1.map kV))) pa kvs
  | [], ps, vs, e, r, _ => by
    simp only [pairsD] at e; cases e
    simp only [RepL] at r; subst r
    exact ⟨[], [], rfl, .nil, .nil⟩
  | d :: ds, ps, vs, e, r, hk => by
    unfold pairsD at e
    split at e
    · rename_i h0
      cases h0
    · rename_i k v r' heq
      cases heq
      split at e
      · rename_i ps' e2
        cases e
        simp only [List.all_cons, Bool.and_eq_true] at hk
        simp only [RepL] at r
        obtain ⟨u, vs', rfl, r1, r2⟩ := r
        obtain ⟨pa, kvs, e3, q1, q2⟩ := pairsD_T hK e2 r2 hk.2
        subst e3
        obtain ⟨a, ws, rfl, hs, rr⟩ := r1.tup_seq
        obtain ⟨w1, w2, rfl, y1, y2⟩ := rr.two
        have ik := hk.1
        unfold isKey at ik
        simp only [if_true, Bool.and_eq_true] at ik
        obtain ⟨key, hkey⟩ := Option.isSome_iff_exists.mp ik.1
        have hkey0 := hkey
        cases k <;> simp only [tkey] at hkey <;> first | cases hkey | skip
        rename_i ys
        have y10 := y1
        simp only [Rep] at y1
        obtain ⟨b, vs, rfl, hb, rk⟩ := y1
        have ev := dkeys_kV hkey rk
        subst ev
        rcases hb with ⟨_, hb⟩ | hb
        · exact ⟨a :: pa, (key, w2) :: kvs, rfl, .cons ⟨hkey0, y2⟩ q1, .cons ⟨b, by rw [← hK]; exact hs, hb⟩ q2⟩
        · exact absurd hb.2 (of_decide_eq_true ik.2)
      · cases e
    · cases e
theorem pairsD_K {K : PySem.W.Frag} (hK : G.K = K) : ∀ {ds : List Dat} {ps : List (Dat × Dat)} {vs : List V}, pairsD ds = some ps → RepL G F as H ds vs → (ps.all fun p => isKey false p.1) = true →
    ∃ (pa : List Addr) (kvs : List (Key × V)), vs = pa.map V.ref ∧ Paired (PK G F as H dkey) ps kvs ∧ Paired (fun p kv => SqT K H p [kV kv.1, kv.2]) pa kvs
  | [], ps, vs, e, r, _ => by
    simp only [pairsD] at e; cases e
    simp only [RepL] at r; subst r
    exact ⟨[], [], rfl, .nil, .nil⟩
  | d :: ds, ps, vs, e, r, hk => by
    unfold pairsD at e
    split at e
    · rename_i h0
      cases h0
    · rename_i k v r' heq
      cases heq
      split at e
      · rename_i ps' e2
        cases e
        simp only [List.all_cons, Bool.and_eq_true] at hk
        simp only [RepL] at r
        obtain ⟨u, vs', rfl, r1, r2⟩ := r
        obtain ⟨pa, kvs, e3, q1, q2⟩ := pairsD_K hK e2 r2 hk.2
        subst e3
        obtain ⟨a, ws, rfl, hs, rr⟩ := r1.tup_seq
        obtain ⟨w1, w2, rfl, y1, y2⟩ := rr.two
        have ik := hk.1
        unfold isKey at ik
        simp only [Bool.false_eq_true, if_false] at ik
        obtain ⟨key, hkey⟩ := Option.isSome_iff_exists.mp ik
        have ew := dkey_kV hkey y1
        subst ew
        exact ⟨a :: pa, (key, w2) :: kvs, rfl, .cons ⟨hkey, y2⟩ q1, .cons (by rw [← hK]; exact hs) q2⟩
      · cases e
    · cases e
def rDict (K : PySem.W.Frag) : List V → Hp → VK → Prop := fun xs H Q =>
  (∃ (a : Addr) (ps : List Addr) (kvs : List (Key × V)), xs = [.ref a] ∧ SqL K H a (ps.map V.ref) ∧ Paired (fun p kv => SqT K H p [kV kv.1, kv.2]) ps kvs ∧ ∀ p, H p = none → Q (.ref p) (upd H p (.dK (mergeK [] kvs)))) ∨
  (∃ (a : Addr) (ps : List Addr) (kvs : List (List Key × V)), xs = [.ref a] ∧ SqL K H a (ps.map V.ref) ∧ Paired (fun p kv => ∃ b, SqT K H p [.ref b, kv.2] ∧ H b = some (.tup (kv.1.map kV))) ps kvs ∧ ∀ p, H p = none → Q (.ref p) (upd H p (.dT (mergeT [] kvs))))
theorem ok_dict (c : Ctx G X W) (hc : X.calm = true) : CallR X (.type "dict") (rDict X.K) := by
  intro pins s σ H xs us Q I r q
  rcases q with q | q
  · exact call_dictP hc pins s σ H xs us Q I r q
  · exact call_dictT hc (by have := c.un; omega) pins s σ H xs us Q I r q
theorem Rep.new_dT {S : Sto} (hr : HR G F as S H) {p : Addr} (hp : H p = none) {kvs : List (Dat × Dat)} {kv : List (List Key × V)} (r : Paired (PK G F as H tkey) kvs kv) : Rep G (p :: F) as (upd H p (.dT kv)) (.dct true (kvs.map (·.1)) (kvs.map (·.2))) (.ref p) := by
  unfold Rep
  obtain ⟨h1, h2⟩ := pairs_T.mpr r
  exact ⟨p, rfl, List.mem_cons_self, .inr ⟨rfl, kv, .inl upd_same, h1, RepL.kp (Kp.laid hr hp _) _ _ h2⟩⟩
theorem Rep.new_dK {S : Sto} (hr : HR G F as S H) {p : Addr} (hp : H p = none) {kvs : List (Dat × Dat)} {kv : List (Key × V)} (r : Paired (PK G F as H dkey) kvs kv) : Rep G (p :: F) as (upd H p (.dK kv)) (.dct false (kvs.map (·.1)) (kvs.map (·.2))) (.ref p) := by
  unfold Rep
  obtain ⟨h1, h2⟩ := pairs_K.mpr r
  exact ⟨p, rfl, List.mem_cons_self, .inl ⟨rfl, kv, .inl upd_same, h1, RepL.kp (Kp.laid hr hp _) _ _ h2⟩⟩
theorem opA_dict (t : Bool) : OpA G (rDict G.K) (oDict t) := by
  intro F as S H xs vs Q W σ hr rx hp
  unfold oDict at hp
  split at hp
  · rename_i x
    obtain ⟨v, rfl, r⟩ := rx.one
    split at hp
    · rename_i ds e1
      split at hp
      · rename_i ps e2
        obtain ⟨g, hp⟩ := hp.guard
        obtain ⟨a, ws, rfl, h1, h2⟩ := seqL_rep hr r e1
        cases t with
        | true =>
          obtain ⟨pa, kvs, rfl, q1, q2⟩ := pairsD_T rfl e2 h2 g
          exact .inr ⟨a, pa, kvs, rfl, h1, q2, fun p np => hp.new hr np (Rep.new_dT hr np (mergeD_pairs (fun a b => tkey_inj a b) q1 .nil))⟩
        | false =>
          obtain ⟨pa, kvs, rfl, q1, q2⟩ := pairsD_K rfl e2 h2 g
          exact .inl ⟨a, pa, kvs, rfl, h1, q2, fun p np => hp.new hr np (Rep.new_dK hr np (mergeD_pairs (fun a b => dkey_inj a b) q1 .nil))⟩
      · exact hp.elim
    · exact hp.elim
  · exact hp.elim
end
end Fx

namespace Fx
open PySem PySem.Spec PyProof.Rows L2

abbrev GG (K : PySem.W.Frag) : Gc := ⟨K, fun c => He.ga K c, none⟩
/-- the def at f does as fn, given n arguments -/
def FnG (P : Program) (w : World) (K : PySem.W.Frag) (mg : Str → Option Value) (base : Heap) (k n : Nat) (f : Addr) (ps : List Str) (fn : Fn) : Prop :=
  ∃ fd, FnOk P w K mg base (L2.CX P w) k f fd ps (spF (GG K) n fn) ∧ Binds K fd ps [] ∧ PySem.W.keepIn K (.ref f) = true
section
variable {P : Program} {w : World} {K : PySem.W.Frag} {mg : Str → Option Value} {base : Heap}
theorem FnG.mono {j k n : Nat} {f : Addr} {ps : List Str} {fn : Fn} (h : FnG P w K mg base j n f ps fn) (hk : j ≤ k) : FnG P w K mg base k n f ps fn := by
  obtain ⟨fd, h1, h2, h3⟩ := h
  exact ⟨fd, h1.mono hk, h2, h3⟩
abbrev XO (P : Program) (w : World) (K : PySem.W.Frag) (mg : Str → Option Value) (base : Heap) (N : List Str) (qual : Str) (scope : Scope) (f : Addr) (cdv : Value) (A : Around) (outer : List Env) (s : Shared) (H : Hp) (E : XK) : Cx :=
  cxOf (L2.CX P w) P w K mg base N qual scope f cdv A outer s H E
abbrev WO (E : XK) : WX := fun c d _ H => E c d H
theorem fnG_of {x qual : Str} {params : Arguments} {body : List Stmt} {scope : Scope} {f : Addr} {N ps : List Str} {k n m : Nat} {b : SF} (F : ∃ fd, FunD K x qual params body scope [] [] f fd) (S : FnScope N ps scope) (hn : ps.length = n) (hm : N.length = m)
    (hbd : ∀ (kV doc pm : Value) (an : Option Addr) (cdv ct : Value) (us : List Value), us.length = ps.length → bindArgs (PySem.W.fnOf x qual params body scope .none kV doc pm an cdv ct) ⟨us, []⟩ = pure (ps.zip us))
    (hb : ∀ (cdv : Value) (A : Around) (outer : List Env) (s : Shared) (H : Hp) (E : XK), Ctx (GG K) (XO P w K mg base N qual scope f cdv A outer s H E) (WO E) → Room k (XO P w K mg base N qual scope f cdv A outer s H E).A →
      PassesOwn (model P w) (XO P w K mg base N qual scope f cdv A outer s H E).A (XO P w K mg base N qual scope f cdv A outer s H E).env (XO P w K mg base N qual scope f cdv A outer s H E).xe →
      DB (GG K) (XO P w K mg base N qual scope f cdv A outer s H E) (WO E) body b) : FnG P w K mg base (k + 1) n f ps (mkFn n m b) := by
  obtain ⟨fd, F⟩ := F
  refine ⟨fd, ?_, F.bindsN hbd, F.kp⟩
  refine F.ok S (fun vs H Q E h => by rw [hn]; exact h.1) (fun cdv A outer s H vs Q E hr h => ?_)
  obtain ⟨hl, F, as, S', ds, h1, h2, h3⟩ := h
  have c : Ctx (GG K) (XO P w K mg base N qual scope f cdv A outer s H E) (WO E) := ⟨rfl, takes_of rfl rfl rfl rfl, S.nd, by have := hr.un; show (A.deeper _).units + 70 < cLine; omega, fun _ => rfl⟩
  obtain ⟨t, p, sn⟩ := (hb cdv A outer s H E c hr (passes_of rfl)).ex
  refine ⟨t, p, sn F as S' H _ _ _ h1 (SR.start rfl h2 hm) ?_⟩
  unfold mkFn at h3
  have hd : ds.length = n := by rw [h2.length]; exact hl
  rw [if_pos hd] at h3
  rw [hd]
  revert h3
  cases b (ds.map some ++ List.replicate (m - n) none) S' with
  | nx σ1 S1 => exact fun h3 σ' F' as' H' m q => PostC.trunc (d := .non) h1 h3 .non F' as' H' m (by simp only [Rep])
  | rt d S1 => exact fun h3 v F' as' H' m r => PostC.trunc h1 h3 v F' as' H' m r
  | exc e σ1 S1 => exact fun h3 c dx σ' F' as' H' m q r => PostC.truncX h1 h3 c dx F' as' H' m r
  | bk _ _ => exact fun h3 => h3.elim
  | ct _ _ => exact fun h3 => h3.elim
  | stuck => exact fun h3 => h3.elim
/-- the promise of a def that lets nothing out -/
def spL (G : Gc) (n : Nat) (fn : Fn) : Sp := fun vs H Q _ => vs.length = n ∧ ∃ F as S ds, HR G F as S H ∧ RepL G F as H ds vs ∧ PostC G F as S H (fn ds S) Q (fun _ _ _ => False)
def FnL (P : Program) (w : World) (K : PySem.W.Frag) (mg : Str → Option Value) (k n : Nat) (f : Addr) (ps : List Str) (fn : Fn) : Prop :=
  ∃ fd, (∀ (s : Shared) (us : List Value), us.length = ps.length → BindsTo s fd ⟨us, []⟩ (ps.zip us)) ∧ ∀ base : Heap, FnOk P w K mg base L2.CX0 k f fd ps (spL (GG K) n fn)
abbrev XL0 (P : Program) (w : World) (K : PySem.W.Frag) (mg : Str → Option Value) (base : Heap) (N : List Str) (qual : Str) (scope : Scope) (f : Addr) (cdv : Value) (A : Around) (outer : List Env) (s : Shared) (H : Hp) (E : XK) : Cx :=
  cxOf L2.CX0 P w K mg base N qual scope f cdv A outer s H E
theorem fnL_of {x qual : Str} {params : Arguments} {body : List Stmt} {scope : Scope} {f : Addr} {N ps : List Str} {k n m : Nat} {b : SF} (F : ∃ fd, FunD K x qual params body scope [] [] f fd) (S : FnScope N ps scope) (hn : ps.length = n) (hm : N.length = m)
    (hbd : ∀ (kV doc pm : Value) (an : Option Addr) (cdv ct : Value) (us : List Value), us.length = ps.length → bindArgs (PySem.W.fnOf x qual params body scope .none kV doc pm an cdv ct) ⟨us, []⟩ = pure (ps.zip us))
    (hb : ∀ (base : Heap) (cdv : Value) (A : Around) (outer : List Env) (s : Shared) (H : Hp) (E : XK), Ctx (GG K) (XL0 P w K mg base N qual scope f cdv A outer s H E) WF → Room k (XL0 P w K mg base N qual scope f cdv A outer s H E).A →
      PassesOwn (model P w) (XL0 P w K mg base N qual scope f cdv A outer s H E).A (XL0 P w K mg base N qual scope f cdv A outer s H E).env (XL0 P w K mg base N qual scope f cdv A outer s H E).xe →
      DB (GG K) (XL0 P w K mg base N qual scope f cdv A outer s H E) WF body b) : FnL P w K mg (k + 1) n f ps (mkFn n m b) := by
  obtain ⟨fd, F⟩ := F
  refine ⟨fd, fun s us hl => F.bindsA hbd s us hl, fun base => ?_⟩
  refine F.ok S (fun vs H Q E h => by rw [hn]; exact h.1) (fun cdv A outer s H vs Q E hr h => ?_)
  obtain ⟨hl, F, as, S', ds, h1, h2, h3⟩ := h
  have c : Ctx (GG K) (XL0 P w K mg base N qual scope f cdv A outer s H E) WF := ⟨rfl, takes0, S.nd, by have := hr.un; show (A.deeper _).units + 70 < cLine; omega, fun _ => rfl⟩
  obtain ⟨t, p, sn⟩ := (hb base cdv A outer s H E c hr (passes_of rfl)).ex
  refine ⟨t, p, sn F as S' H _ _ _ h1 (SR.start rfl h2 hm) ?_⟩
  unfold mkFn at h3
  have hd : ds.length = n := by rw [h2.length]; exact hl
  rw [if_pos hd] at h3
  rw [hd]
  revert h3
  cases b (ds.map some ++ List.replicate (m - n) none) S' with
  | nx σ1 S1 => exact fun h3 σ' F' as' H' m q => PostC.trunc (d := .non) h1 h3 .non F' as' H' m (by simp only [Rep])
  | rt d S1 => exact fun h3 v F' as' H' m r => PostC.trunc h1 h3 v F' as' H' m r
  | exc e σ1 S1 => exact fun h3 c dx σ' F' as' H' m q r => PostC.truncX (E := fun _ _ _ => False) h1 h3 c dx F' as' H' m r
  | bk _ _ => exact fun h3 => h3.elim
  | ct _ _ => exact fun h3 => h3.elim
  | stuck => exact fun h3 => h3.elim
/-- the end: the law's def answers True at every script -/
theorem law_end {k n : Nat} {f fa : Addr} {x : Str} {fn : Fn} {h : Heap} (KX : K.In h) (F : FnL P w K mg k 1 f [x] fn) (h1 : mg "law" = some (.ref fa)) (h2 : mg "law" = some (.ref f)) (hl : ∀ ns : List Int, ns.length ≤ n → fn [.scr ns] [] = .ok (.bl true) []) :
    ∃ (K : PySem.W.Frag) (fd : FuncData) (sp : Sp), K.In h ∧ (∀ (s : Shared) (u : Value), BindsTo s fd ⟨[u], []⟩ [(x, u)]) ∧
      (∀ (H : Hp) (a : Addr) (ns : List Int), ns.length ≤ n → Only H → SqL K H a (ns.map V.int) → sp [.ref a] H (fun v _ => v = .bl true) fun _ _ _ => False) ∧
      ∀ base : Heap, K.In base → base.Ns mainGlobals mg → FnOk P w K mg base L2.CX0 k fa fd [x] sp := by
  have e := h1.symm.trans h2
  cases e
  obtain ⟨fd, hb, hF⟩ := F
  refine ⟨K, fd, _, KX, fun s u => hb s [u] rfl, fun H a ns hn _ hS => ⟨rfl, ?_⟩, fun base _ _ => hF base⟩
  have fin : ∀ (F : List Addr) (hF : ∀ b ∈ F, H b ≠ none), HR (GG K) F [] [] H := fun F hF => ⟨rfl, List.nodup_nil, (fun a h => (by cases h)), hF, fun a ⟨n, o, e, _⟩ => (by simp at e), fun n a o e => (by simp at e)⟩
  have post : ∀ F, PostC (GG K) F [] [] H (fn [.scr ns] []) (fun v _ => v = .bl true) (fun _ _ _ => False) := fun F => by
    rw [hl ns hn]
    exact fun v F' as' H' _ r => r.bl_iff
  rcases hS with hS | hS
  · refine ⟨[a], [], [], [.scr ns], fin [a] (fun b hb => ?_), .cons ?_ .nil, post _⟩
    · rw [List.mem_singleton.mp hb]
      rcases hS with z | ⟨o, z⟩
      · rw [z]; exact fun q => nomatch q
      · rw [z]; exact fun q => nomatch q
    · simp only [Rep]
      exact ⟨a, rfl, .inl ⟨List.mem_singleton.mpr rfl, hS⟩⟩
  · refine ⟨[], [], [], [.scr ns], fin [] (fun b hb => by cases hb), .cons ?_ .nil, post _⟩
    simp only [Rep]
    exact ⟨a, rfl, .inr hS⟩
end
section
variable {K : PySem.W.Frag} {X : Cx} {W : WX}
theorem de_callG {f : Addr} {j k n : Nat} {ps : List Str} {fn : Fn} {x : Str} {e : Expr} {es : List Expr} {g : AF} {p pos : Pos} (c : Ctx (GG K) X W)
    (h : FnG X.prog X.w K X.mg X.base j n f ps fn) (hr : Room k X.A) (hm : X.mg x = some (.ref f)) (ha : DA (GG K) X W (e :: es) g) (hjk : j ≤ k := by decide) (hg : Gl X x := by rfl) (hdb : (x == ("__debug__" : Str)) = false := by decide)
    (he : starEach (e :: es) X.env = (false, eval e X.env) :: starEach es X.env := by rfl) (hpl : (backTo pos (starEach es X.env)).any (·.1) = false := by rfl) :
    DE (GG K) X W (.Call (.Name x p) (e :: es) [] pos) (eCall n fn g) := by
  obtain ⟨fd, h1, h2, h3⟩ := h
  exact de_call (P := X.prog) (w := X.w) (mg := X.mg) (base := X.base) c (h1.mono hjk) hr hg hm h3 h2 ha hdb he hpl
theorem boot_any : bootBuiltins "any" = some (.builtin "any") := by decide +kernel
theorem boot_range : bootBuiltins "range" = some (.type "range") := by decide +kernel
section
variable {G : Gc} {e : Expr} {es : List Expr} {g : AF} {p pos : Pos}
theorem de_len (c : Ctx G X W) (hm : X.mg "len" = none) (ha : DA G X W [e] g) (hg : Gl X "len" := by rfl) (he : starEach [e] X.env = (false, eval e X.env) :: starEach [] X.env := by rfl) (hpl : (backTo pos (starEach [] X.env)).any (·.1) = false := by rfl) :
    DE G X W (.Call (.Name "len" p) [e] [] pos) (eA oLen g) := de_blt ok_len (by rw [c.K]; exact opA_len) hg hm boot_len ha (by decide) (by decide) he hpl
theorem de_tuple (c : Ctx G X W) (hm : X.mg "tuple" = none) (ha : DA G X W [e] g) (hg : Gl X "tuple" := by rfl) (he : starEach [e] X.env = (false, eval e X.env) :: starEach [] X.env := by rfl) (hpl : (backTo pos (starEach [] X.env)).any (·.1) = false := by rfl) :
    DE G X W (.Call (.Name "tuple" p) [e] [] pos) (eA oTuple g) := de_typ call_tuple_of (by rw [c.K]; exact opA_tuple) hg hm boot_tuple ha (by decide) (by decide) he hpl
theorem de_list (c : Ctx G X W) (hm : X.mg "list" = none) (ha : DA G X W [e] g) (hg : Gl X "list" := by rfl) (he : starEach [e] X.env = (false, eval e X.env) :: starEach [] X.env := by rfl) (hpl : (backTo pos (starEach [] X.env)).any (·.1) = false := by rfl) :
    DE G X W (.Call (.Name "list" p) [e] [] pos) (eA oList g) := de_typ call_list_of (by rw [c.K]; exact opA_list) hg hm boot_list ha (by decide) (by decide) he hpl
theorem de_listM (c : Ctx G X W) (hm : X.mg "list" = none) (ha : DA G X W [e] g) (hg : Gl X "list" := by rfl) (he : starEach [e] X.env = (false, eval e X.env) :: starEach [] X.env := by rfl) (hpl : (backTo pos (starEach [] X.env)).any (·.1) = false := by rfl) :
    DE G X W (.Call (.Name "list" p) [e] [] pos) (eA oListM g) := de_typ call_list_of (by rw [c.K]; exact opA_listM) hg hm boot_list ha (by decide) (by decide) he hpl
theorem de_all (c : Ctx G X W) (hc : X.calm = true) (hm : X.mg "all" = none) (ha : DA G X W [e] g) (hg : Gl X "all" := by rfl) (he : starEach [e] X.env = (false, eval e X.env) :: starEach [] X.env := by rfl) (hpl : (backTo pos (starEach [] X.env)).any (·.1) = false := by rfl) :
    DE G X W (.Call (.Name "all" p) [e] [] pos) (eA oAll g) := de_blt (cr_all hc) (by rw [c.K]; exact opA_all) hg hm boot_all ha (by decide) (by decide) he hpl
theorem de_any (c : Ctx G X W) (hc : X.calm = true) (hm : X.mg "any" = none) (ha : DA G X W [e] g) (hg : Gl X "any" := by rfl) (he : starEach [e] X.env = (false, eval e X.env) :: starEach [] X.env := by rfl) (hpl : (backTo pos (starEach [] X.env)).any (·.1) = false := by rfl) :
    DE G X W (.Call (.Name "any" p) [e] [] pos) (eA oAny g) := de_blt (cr_any hc) (by rw [c.K]; exact opA_any) hg hm boot_any ha (by decide) (by decide) he hpl
theorem de_sum (c : Ctx G X W) (hc : X.calm = true) (hm : X.mg "sum" = none) (ha : DA G X W [e] g) (hg : Gl X "sum" := by rfl) (he : starEach [e] X.env = (false, eval e X.env) :: starEach [] X.env := by rfl) (hpl : (backTo pos (starEach [] X.env)).any (·.1) = false := by rfl) :
    DE G X W (.Call (.Name "sum" p) [e] [] pos) (eA oSum g) := de_blt (cr_sum hc) (by rw [c.K]; exact opA_sum) hg hm boot_sum ha (by decide) (by decide) he hpl
theorem de_abs (hm : X.mg "abs" = none) (ha : DA G X W [e] g) (hg : Gl X "abs" := by rfl) (he : starEach [e] X.env = (false, eval e X.env) :: starEach [] X.env := by rfl) (hpl : (backTo pos (starEach [] X.env)).any (·.1) = false := by rfl) :
    DE G X W (.Call (.Name "abs" p) [e] [] pos) (eA oAbs g) := de_blt call_abs opA_abs hg hm boot_abs ha (by decide) (by decide) he hpl
theorem de_int1 (hm : X.mg "int" = none) (ha : DA G X W [e] g) (hg : Gl X "int" := by rfl) (he : starEach [e] X.env = (false, eval e X.env) :: starEach [] X.env := by rfl) (hpl : (backTo pos (starEach [] X.env)).any (·.1) = false := by rfl) :
    DE G X W (.Call (.Name "int" p) [e] [] pos) (eA oInt g) := de_typ call_int1 opA_int hg hm boot_int ha (by decide) (by decide) he hpl
theorem de_strI (hm : X.mg "str" = none) (ha : DA G X W [e] g) (hg : Gl X "str" := by rfl) (he : starEach [e] X.env = (false, eval e X.env) :: starEach [] X.env := by rfl) (hpl : (backTo pos (starEach [] X.env)).any (·.1) = false := by rfl) :
    DE G X W (.Call (.Name "str" p) [e] [] pos) (eA oStr g) := de_typ call_str_int opA_str hg hm boot_str ha (by decide) (by decide) he hpl
theorem de_dict (t : Bool) (c : Ctx G X W) (hc : X.calm = true) (hm : X.mg "dict" = none) (ha : DA G X W [e] g) (hg : Gl X "dict" := by rfl) (he : starEach [e] X.env = (false, eval e X.env) :: starEach [] X.env := by rfl) (hpl : (backTo pos (starEach [] X.env)).any (·.1) = false := by rfl) :
    DE G X W (.Call (.Name "dict" p) [e] [] pos) (eA (oDict t) g) := de_typ (ok_dict c hc) (by rw [c.K]; exact opA_dict t) hg hm boot_dict ha (by decide) (by decide) he hpl
variable {ee : Expr}
theorem de_max (hc : X.calm = true) (hm : X.mg "max" = none) (ha : DA G X W [e, ee] g) (hg : Gl X "max" := by rfl) (he : starEach [e, ee] X.env = (false, eval e X.env) :: starEach [ee] X.env := by rfl) (hpl : (backTo pos (starEach [ee] X.env)).any (·.1) = false := by rfl) :
    DE G X W (.Call (.Name "max" p) [e, ee] [] pos) (eA oMax2 g) := de_blt (call_max2 hc) opA_max2 hg hm boot_max ha (by decide) (by decide) he hpl
theorem de_min (hc : X.calm = true) (hm : X.mg "min" = none) (ha : DA G X W [e, ee] g) (hg : Gl X "min" := by rfl) (he : starEach [e, ee] X.env = (false, eval e X.env) :: starEach [ee] X.env := by rfl) (hpl : (backTo pos (starEach [ee] X.env)).any (·.1) = false := by rfl) :
    DE G X W (.Call (.Name "min" p) [e, ee] [] pos) (eA oMin2 g) := de_blt (call_min2 hc) opA_min2 hg hm boot_min ha (by decide) (by decide) he hpl
def iRng1 (g : AF) : IF := fun σ S => (g σ S).bind itRng1
def iRng2 (g : AF) : IF := fun σ S => (g σ S).bind itRng2
def iRng3 (g : AF) : IF := fun σ S => (g σ S).bind itRng3
def iEnum (g : AF) : IF := fun σ S => (g σ S).bind itEnum
def iZip (g : AF) : IF := fun σ S => (g σ S).bind itZip
def iZip3 (g : AF) : IF := fun σ S => (g σ S).bind itZip3
variable {a b op : Expr} {f f' : EF}
theorem de_add (c : Ctx G X W) (ha : DE G X W a f) (hb : DE G X W b f') : DE G X W (.BinOp a .Add b pos) (e2 oAdd f f') := de_op ok_add (by rw [c.K]; exact op2_add) ha hb
theorem de_sub (ha : DE G X W a f) (hb : DE G X W b f') : DE G X W (.BinOp a .Sub b pos) (e2 oSub f f') := de_op op_sub op2_sub ha hb
theorem de_mul (ha : DE G X W a f) (hb : DE G X W b f') : DE G X W (.BinOp a .Mult b pos) (e2 oMl f f') := de_op ok_ml op2_ml ha hb
theorem de_fdiv (ha : DE G X W a f) (hb : DE G X W b f') : DE G X W (.BinOp a .FloorDiv b pos) (e2 oFd f f') := de_op op_fdivW op2_fd ha hb
theorem de_mod (ha : DE G X W a f) (hb : DE G X W b f') : DE G X W (.BinOp a .Mod b pos) (e2 oMd f f') := de_op op_mod op2_md ha hb
theorem de_pow (ha : DE G X W a f) (hb : DE G X W b f') : DE G X W (.BinOp a .Pow b pos) (e2 oPw f f') := de_op op_pow op2_pw ha hb
theorem de_neg (ha : DE G X W a f) : DE G X W (.UnaryOp .USub a pos) (e1 oNeg f) := de_un un_neg op1_neg ha
theorem de_sbs (c : Ctx G X W) (ha : DE G X W a f) (hb : DE G X W b f') (hm : PlainIx b := by exact fun _ _ => rfl) : DE G X W (.Subscript a b pos) (e2 oIx f f') := de_ix (ix_all c) (by rw [c.K]; exact op2_ix) ha hb hm
end
end

/-- an own __init__ keeps its arguments under ns -/
def InG (P : Program) (w : World) (K : PySem.W.Frag) (mg : Str → Option Value) (base : Heap) (k : Nat) (C f : Addr) (ps ns : List Str) : Prop :=
  ∃ fd, FnOk P w K mg base (L2.CX P w) k f fd ps (spI C ns) ∧ Binds K fd ps []
theorem ds_raiseG {K : PySem.W.Frag} {X : Cx} {W : WX} {x : Str} {c : String} {j k : Nat} {ps ns : List Str} {e : Expr} {es : List Expr} {g : AF} {p pos pos' : Pos} (cx : Ctx (GG K) X W) (hc : X.calm = true)
    (T : OexC K (He.ga K c)) (hi : PySem.W.findIn K (.ref (He.ga K c)) "__init__" = some (some (.ref (He.ma K (He.ga K c) "__init__"))) ∧ PySem.W.typeIn K (.ref (He.ma K (He.ga K c) "__init__")) = some (.type "function"))
    (h : InG X.prog X.w K X.mg X.base j (He.ga K c) (He.ma K (He.ga K c) "__init__") ps ns) (hr : Room k X.A) (hm : X.mg x = some (.ref (He.ga K c))) (ha : DA (GG K) X W (e :: es) g) (hjk : j + 1 ≤ k := by decide) (hne : ns ≠ [] := by decide) (hz : ns.length ≤ 900 := by decide)
    (hg : Gl X x := by rfl) (hdb : (x == ("__debug__" : Str)) = false := by decide) (he : starEach (e :: es) X.env = (false, eval e X.env) :: starEach es X.env := by rfl) (hpl : (backTo pos (starEach es X.env)).any (·.1) = false := by rfl) :
    DS (GG K) X W (.Raise (some (.Call (.Name x p) (e :: es) [] pos)) none pos') (sRaise c ns g) := by
  obtain ⟨fd, h1, h2⟩ := h
  exact ds_raise cx hc rfl hne hz T hi.1 hi.2 h1 (hr.mono hjk) h2 hg hm ha hdb he hpl
/-- what a list of pairs tells -/
def tellL (l : List (String × Bool)) (n : String) : Option Bool := l.lookup n
theorem tells_nil {G : Gc} {c : Value} : Tells G c (tellL []) := fun n b e => by cases e
theorem tells_cons {G : Gc} {c : Value} {x : String} {k : Bool} {l : List (String × Bool)} (h : PySem.W.exmOne G.K (.ref (G.cl x)) c = some k) (t : Tells G c (tellL l)) : Tells G c (tellL ((x, k) :: l)) := fun n b e => by
  unfold tellL at e
  simp only [List.lookup] at e
  split at e
  · rename_i h1
    cases e
    rw [beq_iff_eq.mp h1]
    exact h
  · exact t n b e

def blkB (N : List Str) (sc scope : Scope) (own : List (Str × Nat)) : Bool := decide (scope.kind = .function) && (scope.names.all (fun y => decide (scope.names.lookup y.1 = some y.2)) && (own.all (fun p => decide (N[p.2]? = some p.1)) &&
  (scope.names.all (fun y => !decide (y.2 = .free) || (decide (sc.names.lookup y.1 = some .cell) || decide (sc.names.lookup y.1 = some .free))) &&
   scope.names.all (fun y => !(decide (y.2 = .local) || decide (y.2 = .cell)) || (decide (y.1 ∈ own.map (·.1)) || !decide (y.1 ∈ N))))))
theorem blk_ok {N : List Str} {sc scope : Scope} {own : List (Str × Nat)} (h : blkB N sc scope own = true) : BlkOk N sc scope own := by
  unfold blkB at h
  simp only [Bool.and_eq_true, decide_eq_true_eq, List.all_eq_true, Bool.or_eq_true, Bool.not_eq_true', decide_eq_false_iff_not] at h
  obtain ⟨h1, h2, h3, h4, h5⟩ := h
  refine ⟨h1, h2, h3, fun y hy e => ?_, fun y hy e => ?_⟩
  · rcases h4 y hy with z | z
    · exact absurd e z
    · exact z
  · rcases h5 y hy with z | z
    · rcases e with e | e
      · rw [e] at z; simp at z
      · rw [e] at z; simp at z
    · exact z

abbrev AlX : Type := He.AlD × Bool
def obsX (n : Nat) (fa : List He.Fa) (fn : List He.DefD) (ex : List (PySem.W.Frag → Bool)) (g : Addr → Option Obj) : AlX := (He.obsD fa fn (He.frG g (cStatics :: He.asD g n)), ex.all fun p => p (He.frG g (cStatics :: He.asD g n)))
def SaysX (fa : List He.Fa) (fn : List He.DefD) (ex : List (PySem.W.Frag → Bool)) (K : PySem.W.Frag) : Prop := He.SaysD fa fn K ∧ (ex.all fun p => p K) = true
def hookX (n : Nat) (fa : List He.Fa) (fn : List He.DefD) (ex : List (PySem.W.Frag → Bool)) : PySem.W.Hook where
  α := AlX
  obs := fun s => obsX n fa fn ex s.heap.get?
  val := fun _ => (He.valD fn, true)
  says := fun _ h => ∃ K : PySem.W.Frag, K.In h ∧ SaysX fa fn ex K
  of := fun _ s e => ⟨_, He.frG_in, congrArg Prod.fst e, congrArg Prod.snd e⟩
  keeps := fun _ _ _ ⟨K, hK, c⟩ k => ⟨K, PySem.W.Frag.In.keeps hK k, c⟩
theorem obsX_eq {n : Nat} {fa : List He.Fa} {fn : List He.DefD} {ex : List (PySem.W.Frag → Bool)} {g : Addr → Option Obj} {s : Shared} (h : ∀ a, g a = s.heap.get? a) : obsX n fa fn ex g = (hookX n fa fn ex).obs s := by
  have e : g = s.heap.get? := funext h
  rw [e] <;> rfl
theorem SaysX.ex {fa : List He.Fa} {fn : List He.DefD} {ex : List (PySem.W.Frag → Bool)} {K : PySem.W.Frag} (c : SaysX fa fn ex K) (i : Nat) {p : PySem.W.Frag → Bool} (h : ex[i]? = some p := by rfl) : p K = true :=
  List.all_eq_true.mp c.2 p (List.mem_of_getElem? h)
/-- the i-th statement of a class's body -/
def clsAt (st : Stmt) (i : Nat) : Stmt := match st with
  | .ClassDef _ _ _ b _ _ _ _ _ _ _ => b.getD i (.Pass ⟨0, 0, 0, 0⟩)
  | _ => .Pass ⟨0, 0, 0, 0⟩
def oexB (C : PySem.W.Frag → Addr) (K : PySem.W.Frag) : Bool := (match K.lookup (C K) with
  | some ⟨.type "type", _, .cls cd, sl⟩ => (match cd.mro, sl.toList with
    | .ref C' :: bm, [_, _, _, _, some (.builtin n), _] => C' == C K && (n == "ValueError.__new__" && (!cd.hasDel && (cd.hasDict && PySem.HandSPX.refsVE bm)))
    | _, _ => false)
  | _ => false) && (decide (PySem.W.findIn K (.ref (C K)) "__setattr__" = some (some (.builtin "object.__setattr__"))) && (decide (PySem.W.subIn K (.ref (C K)) (.type "BaseException") = some true) &&
    (decide (PySem.W.typeIn K (.ref (C K)) = some (.type "type")) && PySem.W.keepIn K (.ref (C K)))))
theorem oexB_ok {C : PySem.W.Frag → Addr} {K : PySem.W.Frag} (h : oexB C K = true) : OexC K (C K) := by
  unfold oexB at h
  obtain ⟨h1, h⟩ := Bool.and_eq_true_iff.mp h
  obtain ⟨h2, h⟩ := Bool.and_eq_true_iff.mp h
  obtain ⟨h3, h⟩ := Bool.and_eq_true_iff.mp h
  obtain ⟨h4, h5⟩ := Bool.and_eq_true_iff.mp h
  refine ⟨?_, of_decide_eq_true h2, of_decide_eq_true h3, of_decide_eq_true h4, h5⟩
  split at h1
  · rename_i dd cd sl ho
    split at h1
    · rename_i C' bm k0 k1 k2 k3 n k5 hm hs
      simp only [Bool.and_eq_true, beq_iff_eq, Bool.not_eq_true'] at h1
      obtain ⟨rfl, rfl, hdel, hdct, ht⟩ := h1
      obtain ⟨nm, bs, mro, ns, qn, hd, sn, sub, ab, col, del⟩ := cd
      dsimp only at hm hdel hdct
      subst hm hdel hdct
      have hsl : sl = #[k0, k1, k2, k3, some (.builtin "ValueError.__new__"), k5] := by
        obtain ⟨l⟩ := sl
        simp only at hs
        rw [hs]
      subst hsl
      exact ⟨_, _, _, _, _, _, _, _, _, _, _, _, _, _, _, ho, ht⟩
    · cases h1
  · cases h1
def initB (C : PySem.W.Frag → Addr) (K : PySem.W.Frag) : Bool := decide (PySem.W.findIn K (.ref (C K)) "__init__" = some (some (.ref (He.ma K (C K) "__init__")))) && decide (PySem.W.typeIn K (.ref (He.ma K (C K) "__init__")) = some (.type "function"))
theorem initB_ok {C : PySem.W.Frag → Addr} {K : PySem.W.Frag} (h : initB C K = true) : PySem.W.findIn K (.ref (C K)) "__init__" = some (some (.ref (He.ma K (C K) "__init__"))) ∧ PySem.W.typeIn K (.ref (He.ma K (C K) "__init__")) = some (.type "function") := by
  obtain ⟨h1, h2⟩ := Bool.and_eq_true_iff.mp h
  exact ⟨of_decide_eq_true h1, of_decide_eq_true h2⟩
def minitB (C : PySem.W.Frag → Addr) (K : PySem.W.Frag) : Bool := PySem.W.readsIn K (C K) (.type "type") && (decide (PySem.W.specialIn K (.ref (C K)) "__getattribute__" = some (some (.builtin "type.__getattribute__"))) &&
  (match PySem.W.findCls K (.ref (C K)) (.type "type") "__init__" with
  | some (.val (.builtin n)) => decide (n = "ValueError.__init__")
  | _ => false))
theorem minitB_ok {C : PySem.W.Frag → Addr} {K : PySem.W.Frag} (h : minitB C K = true) : PySem.W.readsIn K (C K) (.type "type") = true ∧ PySem.W.specialIn K (.ref (C K)) "__getattribute__" = some (some (.builtin "type.__getattribute__")) ∧
    PySem.W.findCls K (.ref (C K)) (.type "type") "__init__" = some (.val (.builtin "ValueError.__init__")) := by
  obtain ⟨h1, h⟩ := Bool.and_eq_true_iff.mp h
  obtain ⟨h2, h3⟩ := Bool.and_eq_true_iff.mp h
  refine ⟨h1, of_decide_eq_true h2, ?_⟩
  split at h3
  · rename_i n e
    have := of_decide_eq_true h3
    subst this
    exact e
  · cases h3
end Fx

namespace Fx
open PySem PySem.Spec PyProof.Rows L2

section ev
variable {σ : Sl} {S S' : Sto} {f f' h' : EF} {g : AF} {c k : BF} {b b' : SF} {i j : Nat} {d : Dat}
@[simp] theorem ev_cV (h : σ[i]? = some (some d)) : cV i σ S = .ok d S := by unfold cV; rw [h]
@[simp] theorem ev_cC : cC d σ S = .ok d S := id rfl
@[simp] theorem ev_aNil : aNil σ S = .ok [] S := id rfl
@[simp] theorem ev_aCons : aCons f g σ S = (f σ S).bind fun d S1 => (g σ S1).bind fun ds S2 => .ok (d :: ds) S2 := id rfl
@[simp] theorem ev_e1 {o : O1} : e1 o f σ S = (f σ S).bind fun x S1 => o x S1 := id rfl
@[simp] theorem ev_e2 {o : O2} : e2 o f f' σ S = (f σ S).bind fun x S1 => (f' σ S1).bind fun y S2 => o x y S2 := id rfl
@[simp] theorem ev_eA {o : OA} : eA o g σ S = (g σ S).bind fun xs S1 => o xs S1 := id rfl
@[simp] theorem ev_eCall {n : Nat} {fn : Fn} : eCall n fn g σ S = (g σ S).bind fun ds S1 => if ds.length = n then fn ds S1 else .stuck := id rfl
@[simp] theorem ev_eTup : eTup g σ S = (g σ S).bind fun ds S1 => .guard (small ds.length) (.ok (.tup ds) S1) := id rfl
@[simp] theorem ev_eLst : eLst g σ S = (g σ S).bind fun ds S1 => .guard (small ds.length) (.ok (.lst ds) S1) := id rfl
@[simp] theorem ev_eLstM : eLstM g σ S = (g σ S).bind fun ds S1 => .guard (small ds.length) (.ok (.ref S1.length) (S1 ++ [.lst ds])) := id rfl
@[simp] theorem ev_guard_true {α : Type} {r : Res α} : Res.guard true r = r := id rfl
@[simp] theorem ev_bV : bV f σ S = (f σ S).bind fun d S1 => match d with | .bl b => .ok b S1 | _ => .stuck := id rfl
@[simp] theorem ev_bNot : bNot c σ S = (c σ S).bind fun b S1 => .ok (!b) S1 := id rfl
@[simp] theorem ev_bAnd : bAnd c k σ S = (c σ S).bind fun b S1 => if b then k σ S1 else .ok false S1 := id rfl
@[simp] theorem ev_bOr : bOr c k σ S = (c σ S).bind fun b S1 => if b then .ok true S1 else k σ S1 := id rfl
@[simp] theorem ev_eNot : eNot f σ S = (f σ S).bind fun d S1 => match d with | .bl b => .ok (.bl !b) S1 | _ => .stuck := id rfl
@[simp] theorem ev_eAnd : eAnd f f' σ S = (f σ S).bind fun d S1 => match d with | .bl b => if b then f' σ S1 else .ok (.bl false) S1 | _ => .stuck := id rfl
@[simp] theorem ev_eOr : eOr f f' σ S = (f σ S).bind fun d S1 => match d with | .bl b => if b then .ok (.bl true) S1 else f' σ S1 | _ => .stuck := id rfl
@[simp] theorem ev_eIf : eIf c f f' σ S = (c σ S).bind fun b S1 => if b then f σ S1 else f' σ S1 := id rfl
@[simp] theorem ev_eChain {o o' : O2} : eChain o o' f f' h' σ S = (f σ S).bind fun x S1 => (f' σ S1).bind fun y S2 => (o x y S2).bind fun r S3 => match r with
  | .bl b => if b then (h' σ S3).bind fun z S4 => o' y z S4 else .ok (.bl false) S3
  | _ => .stuck := id rfl
@[simp] theorem ev_eM {o : OM} : eM o f g σ S = (f σ S).bind fun x S1 => .guard (seqL x S1).isSome ((g σ S1).bind fun ys S2 => o x ys S2) := id rfl
@[simp] theorem ev_sNil : sNil σ S = .nx σ S := id rfl
@[simp] theorem ev_sSeq : sSeq b b' σ S = match b σ S with | .nx σ1 S1 => b' σ1 S1 | r => r := id rfl
@[simp] theorem ev_sExpr : sExpr f σ S = (f σ S).out σ fun _ S1 => .nx σ S1 := id rfl
@[simp] theorem ev_sRet : sRet f σ S = (f σ S).out σ fun d S1 => .rt d S1 := id rfl
@[simp] theorem ev_sIf : sIf c b b' σ S = (c σ S).out σ fun q S1 => if q then b σ S1 else b' σ S1 := id rfl
@[simp] theorem ev_sSet : sSet i f σ S = (f σ S).out σ fun d S1 => .nx (σ.set i (some d)) S1 := id rfl
@[simp] theorem ev_sAsg {q : GF} : sAsg f q σ S = (f σ S).out σ fun d S1 => (q d σ S1).out σ fun σ2 S2 => .nx σ2 S2 := id rfl
@[simp] theorem ev_sPar : sPar i j g σ S = (g σ S).out σ fun ds S1 => match ds with
  | [a, b] => .nx ((σ.set i (some a)).set j (some b)) S1
  | _ => .stuck := id rfl
@[simp] theorem ev_gN : gN i d σ S = .ok (σ.set i (some d)) S := id rfl
@[simp] theorem ev_gsNil : gsNil [] σ S = .ok σ S := id rfl
@[simp] theorem ev_gsCons {q : GF} {qs : GFs} {r : List Dat} : gsCons q qs (d :: r) σ S = (q d σ S).bind fun σ1 S1 => qs r σ1 S1 := id rfl
@[simp] theorem ev_gT {n : Nat} {qs : GFs} {xs : List Dat} : gT n qs (.tup xs) σ S = if xs.length = n then qs xs σ S else .stuck := id rfl
@[simp] theorem ev_sFor {it : IF} {q : GF} : sFor it q b σ S = (it σ S).out σ fun p S1 => forGo p.2 q b p.1 σ S1 := id rfl
@[simp] theorem ev_sWhile {n : Nat} : sWhile n c b σ S = whileGo c b n σ S := id rfl
@[simp] theorem ev_bYes : bYes σ S = .ok true S := id rfl
@[simp] theorem ev_noX_ok {α : Type} {a : α} : noX (Res.ok a S) = .ok a S := id rfl
@[simp] theorem ev_eLc {it : IF} {q : GF} {vs : List Nat} : eLc it q c f vs σ S = (eLcA it q c f vs σ S).bind fun ys S1 => .ok (.lst ys) S1 := id rfl
@[simp] theorem ev_eLcM {it : IF} {q : GF} {vs : List Nat} : eLcM it q c f vs σ S = (eLcA it q c f vs σ S).bind fun ys S1 => .ok (.ref S1.length) (S1 ++ [.lst ys]) := id rfl
@[simp] theorem ev_eLcA {it : IF} {q : GF} {vs : List Nat} : eLcA it q c f vs σ S = (it σ S).bind fun p S1 => .guard (small p.1.length) (lcGo p.2 q c f (wipeD σ vs) p.1 S1) := id rfl
@[simp] theorem ev_iSeq : iSeq f σ S = (f σ S).bind fun d S1 => match seqA d S1 with | some xs => .ok (xs, stands d xs) S1 | none => .stuck := id rfl
@[simp] theorem ev_iRng1 : iRng1 g σ S = (g σ S).bind itRng1 := id rfl
@[simp] theorem ev_iRng2 : iRng2 g σ S = (g σ S).bind itRng2 := id rfl
@[simp] theorem ev_iRng3 : iRng3 g σ S = (g σ S).bind itRng3 := id rfl
@[simp] theorem ev_iEnum : iEnum g σ S = (g σ S).bind itEnum := id rfl
@[simp] theorem ev_iZip : iZip g σ S = (g σ S).bind itZip := id rfl
@[simp] theorem ev_iZip3 : iZip3 g σ S = (g σ S).bind itZip3 := id rfl
@[simp] theorem ev_wipe0 : wipeD σ [] = σ := id rfl
@[simp] theorem ev_wipe1 {v : Nat} {vs : List Nat} : wipeD σ (v :: vs) = (wipeD σ vs).set v none := id rfl
@[simp] theorem ev_seqA_tup {xs : List Dat} : seqA (.tup xs) S = some xs := id rfl
@[simp] theorem ev_seqA_lst {xs : List Dat} : seqA (.lst xs) S = some xs := id rfl
@[simp] theorem ev_seqA_scr {xs : List Int} : seqA (.scr xs) S = some (xs.map .int) := id rfl
@[simp] theorem ev_seqA_ref {n : Nat} {xs : List Dat} (h : S[n]? = some (.lst xs)) : seqA (.ref n) S = some xs := by show seqL (.ref n) S = _; unfold seqL; dsimp only; rw [h]
@[simp] theorem ev_seqL_ref {n : Nat} {xs : List Dat} (h : S[n]? = some (.lst xs)) : seqL (.ref n) S = some xs := by unfold seqL; dsimp only; rw [h]
@[simp] theorem ev_seqL_lst {xs : List Dat} : seqL (.lst xs) S = some xs := id rfl
@[simp] theorem ev_stands_tup {xs : List Dat} : stands (.tup xs) xs S = true := decide_eq_true rfl
@[simp] theorem ev_stands_lst {xs : List Dat} : stands (.lst xs) xs S = true := decide_eq_true rfl
@[simp] theorem ev_stands_scr {xs : List Int} : stands (.scr xs) (xs.map .int) S = true := decide_eq_true rfl
@[simp] theorem ev_stands_ref {n : Nat} {xs : List Dat} (h : S[n]? = some (.lst xs)) : stands (.ref n) xs S = true := decide_eq_true (ev_seqA_ref h)
@[simp] theorem ev_add {x y : Int} : oAdd (.int x) (.int y) S = .ok (.int (x + y)) S := id rfl
@[simp] theorem ev_sub {x y : Int} : oSub (.int x) (.int y) S = .ok (.int (x - y)) S := id rfl
theorem ev_md {x y : Int} (h : 0 < y) : oMd (.int x) (.int y) S = .ok (.int (x % y)) S := by show Res.guard (cMd x y) _ = _; rw [show cMd x y = true from decide_eq_true h]; rfl
theorem ev_fd {x y : Int} (h : 0 < y) (h2 : y.natAbs.log2 < 9000) : oFd (.int x) (.int y) S = .ok (.int (x / y)) S := by
  show Res.guard (cFd x y) _ = _
  rw [show cFd x y = true from by simp only [cFd, Bool.and_eq_true, decide_eq_true_eq]; exact ⟨h, h2⟩]; rfl
theorem ev_ml {x y : Int} (h : x.natAbs.log2 + y.natAbs.log2 < 1000000) : oMl (.int x) (.int y) S = .ok (.int (x * y)) S := by
  show Res.guard (cMl x y) _ = _
  rw [show cMl x y = true from decide_eq_true h]; rfl
theorem log2_le {x k : Nat} (h : x < 2 ^ k) : x.log2 ≤ k := by
  by_cases h0 : x = 0
  · subst h0; simp
  · exact Nat.le_of_lt ((Nat.log2_lt h0).mpr h)
theorem ev_ml' {x y : Int} (a b : Nat) (hx : x.natAbs < 2 ^ a) (hy : y.natAbs < 2 ^ b) (h : a + b < 1000000) : oMl (.int x) (.int y) S = .ok (.int (x * y)) S :=
  ev_ml (by have := log2_le hx; have := log2_le hy; omega)
@[simp] theorem ev_lt {x y : Int} : oLt (.int x) (.int y) S = .ok (.bl (decide (x < y))) S := id rfl
@[simp] theorem ev_le {x y : Int} : oLe (.int x) (.int y) S = .ok (.bl (decide (x ≤ y))) S := id rfl
@[simp] theorem ev_gt {x y : Int} : oGt (.int x) (.int y) S = .ok (.bl (decide (y < x))) S := id rfl
@[simp] theorem ev_ge {x y : Int} : oGe (.int x) (.int y) S = .ok (.bl (decide (y ≤ x))) S := id rfl
@[simp] theorem ev_eqI {x y : Int} : oEq (.int x) (.int y) S = .ok (.bl (decide (x = y))) S := id rfl
@[simp] theorem ev_neI {x y : Int} : oNe (.int x) (.int y) S = .ok (.bl (!decide (x = y))) S := id rfl
@[simp] theorem ev_neg {x : Int} : oNeg (.int x) S = .ok (.int (-x)) S := id rfl
theorem ev_ix_tup {xs : List Dat} {x : Int} (h : atD xs x = some d) : oIx (.tup xs) (.int x) S = .ok d S := by unfold oIx; dsimp only; rw [h]
theorem ev_ix_lst {xs : List Dat} {x : Int} (h : atD xs x = some d) : oIx (.lst xs) (.int x) S = .ok d S := by
  have e : oIx (.lst xs) (.int x) S = (match atD xs x with | some d => Res.ok d S | none => .stuck) := id rfl
  rw [e, h]
theorem ev_ix_scr {xs : List Int} {x : Int} (h : atD (xs.map Dat.int) x = some d) : oIx (.scr xs) (.int x) S = .ok d S := by
  have e : oIx (.scr xs) (.int x) S = (match atD (xs.map Dat.int) x with | some d => Res.ok d S | none => .stuck) := id rfl
  rw [e, h]
theorem ev_ix_ref {n : Nat} {xs : List Dat} {x : Int} (e : S[n]? = some (.lst xs)) (h : atD xs x = some d) : oIx (.ref n) (.int x) S = .ok d S := by
  have h1 : seqD (.ref n) S = none := by unfold seqD; dsimp only; rw [e]
  have h2 : oIx (.ref n) (.int x) S = (match seqD (.ref n) S with
    | some (t, ks, vs) => Res.guard (isKey t (.int x)) (match findD ks vs (.int x) with
      | some d => .ok d S
      | none => .stuck)
    | none => match seqL (.ref n) S, Dat.int x with
      | some xs, .int i => match atD xs i with
        | some d => .ok d S
        | none => .stuck
      | _, _ => .stuck) := id rfl
  rw [h2, h1, ev_seqL_ref e]
  dsimp only
  rw [h]
@[simp] theorem ev_len_tup {xs : List Dat} : oLen [.tup xs] S = .ok (.int xs.length) S := id rfl
@[simp] theorem ev_len_lst {xs : List Dat} : oLen [.lst xs] S = .ok (.int xs.length) S := id rfl
@[simp] theorem ev_len_scr {xs : List Int} : oLen [.scr xs] S = .ok (.int xs.length) S := by
  have e : oLen [.scr xs] S = Res.ok (Dat.int ((xs.map Dat.int).length : Nat)) S := id rfl
  rw [e, List.length_map]
@[simp] theorem ev_tuple_lst {xs : List Dat} : oTuple [.lst xs] S = .ok (.tup xs) S := id rfl
@[simp] theorem ev_tuple_tup {xs : List Dat} : oTuple [.tup xs] S = .ok (.tup xs) S := id rfl
theorem ev_tuple_ref {n : Nat} {xs : List Dat} (h : S[n]? = some (.lst xs)) : oTuple [.ref n] S = .ok (.tup xs) S := by unfold oTuple; dsimp only; rw [ev_seqA_ref h]
theorem truths_map (bs : List Bool) : truths (bs.map .bl) = some bs := by
  induction bs with
  | nil => rfl
  | cons b r ih => simp [truths, ih]
@[simp] theorem ev_all {bs : List Bool} : oAll [.lst (bs.map .bl)] S = .ok (.bl (bs.all id)) S := by
  have e : oAll [.lst (bs.map .bl)] S = (match truths (bs.map .bl) with | some bs => Res.ok (.bl (bs.all id)) S | none => .stuck) := id rfl
  rw [e, truths_map]
theorem ev_append {n : Nat} {xs : List Dat} (h : S[n]? = some (.lst xs)) (hl : xs.length < sizeLine) : oAppend (.ref n) [d] S = .ok .non (S.set n (.lst (xs ++ [d]))) := by
  have : lstAt (.ref n) S = some (n, xs) := by unfold lstAt; dsimp only; rw [h]
  unfold oAppend; rw [this]; dsimp only; rw [decide_eq_true hl]; rfl
@[simp] theorem small_of {n : Nat} (h : n ≤ 16777216) : small n = true := by unfold small; exact decide_eq_true (by rw [sizeLine_eq]; exact h)
theorem ev_rng1 {x : Int} (h : 0 ≤ x) (h2 : x < 2 ^ 62) : itRng1 [.int x] S = .ok (rangeD 0 1 x.toNat, fun _ => true) S := by
  show Res.guard (fit62 x) _ = _
  rw [show fit62 x = true from by unfold fit62; simp only [Bool.and_eq_true, decide_eq_true_eq]; omega]; rfl
theorem ev_rng2 {x y : Int} (h : 0 ≤ x) (h2 : x < 2 ^ 62) (h3 : 0 ≤ y) (h4 : y < 2 ^ 62) : itRng2 [.int x, .int y] S = .ok (rangeD x 1 (y - x).toNat, fun _ => true) S := by
  show Res.guard (fit62 x && fit62 y) _ = _
  rw [show fit62 x = true from by unfold fit62; simp only [Bool.and_eq_true, decide_eq_true_eq]; omega, show fit62 y = true from by unfold fit62; simp only [Bool.and_eq_true, decide_eq_true_eq]; omega]; rfl
@[simp] theorem ev_sTry {t : String → Option Bool} {q : Ex → SF} : sTry t i b q σ S = (match b σ S with
  | .exc e σ1 S1 => match t e.cls with
    | some true => match q e (σ1.set i none) S1 with
      | .nx σ2 S2 => .nx (σ2.set i none) S2
      | .bk σ2 S2 => .bk (σ2.set i none) S2
      | .ct σ2 S2 => .ct (σ2.set i none) S2
      | .rt d S2 => .rt d S2
      | _ => .stuck
    | some false => .exc e σ1 S1
    | none => .stuck
  | r => r) := id rfl
theorem ev_eXf {e : Ex} {x : Str} (h : σ[i]? = some none) (h2 : e.fs.lookup x = some d) : eXf i e x σ S = .ok d S := by unfold eXf; rw [if_pos h, h2]
@[simp] theorem ev_sRaise {x : String} {ns : List Str} : sRaise x ns g σ S = (g σ S).out σ fun ds S1 => if ds.length = ns.length then .exc ⟨x, (ns.zip ds).reverse⟩ σ S1 else .stuck := id rfl
end ev

section fin
variable {S G : Sto} {d : Dat} {σ : Sl}
theorem okTr_app : ∀ (n : Nat) (S G : Sto), okTr n S (S ++ G) = true
  | n, [], G => rfl
  | n, o :: S, G => by simp [okTr, okTr_app n S G]
theorem okTr_set {n : Nat} {o : Ob} (ho : o.lt n = true) : ∀ (S : Sto) (i : Nat) (G : Sto), okTr n S (S.set i o ++ G) = true
  | [], i, G => rfl
  | x :: S, 0, G => by simp [okTr, ho, okTr_app n S G]
  | x :: S, i + 1, G => by simp [okTr, okTr_set ho S i G]
@[simp] theorem fin_rt : fin S (.rt d S) = .ok d S := by
  show trunc S _ d S = _
  unfold trunc
  split
  · rw [List.take_length]
  · rfl
@[simp] theorem fin_nx : fin S (.nx σ S) = .ok .non S := by
  show trunc S _ _ S = _
  unfold trunc
  split
  · rw [List.take_length]
  · rfl
@[simp] theorem fin_exc {e : Ex} : fin S (.exc e σ S) = .exc e S := by
  show truncX S _ S = _
  unfold truncX
  split
  · rw [List.take_length]
  · rfl
theorem fin_rt_app (h : d.lt S.length = true) : fin S (.rt d (S ++ G)) = .ok d S := by
  show trunc S _ d _ = _
  unfold trunc
  rw [h, okTr_app, Bool.and_self, if_pos rfl, List.take_left']
  rfl
theorem fin_rt_set {i : Nat} {o : Ob} (h : d.lt S.length = true) (ho : o.lt S.length = true) : fin S (.rt d (S.set i o ++ G)) = .ok d (S.set i o) := by
  show trunc S _ d _ = _
  unfold trunc
  rw [h, okTr_set ho, Bool.and_self, if_pos rfl, List.take_left' (by simp)]
theorem fin_rt_set0 {S : Sto} {d : Dat} {i : Nat} {o : Ob} (h : d.lt S.length = true) (ho : o.lt S.length = true) : fin S (.rt d (S.set i o)) = .ok d (S.set i o) := by
  have := fin_rt_set (G := []) (i := i) h ho
  rwa [List.append_nil] at this
theorem fin_exc_app {e : Ex} (h : (e.fs.all fun p => p.2.lt S.length) = true) : fin S (.exc e σ (S ++ G)) = .exc e S := by
  show truncX S _ _ = _
  unfold truncX
  rw [h, okTr_app, Bool.and_self, if_pos rfl, List.take_left']
  rfl
theorem lt_ints (n : Nat) : ∀ xs : List Int, Dat.ltL n (xs.map .int) = true
  | [] => by simp [Dat.ltL]
  | x :: r => by simp [Dat.ltL, Dat.lt, lt_ints n r]
end fin

theorem forGo_ind {chk : Sto → Bool} {g : GF} {body : SF} (Inv : List Dat → Sl → Sto → Prop) (Post : Out → Prop) (h0 : ∀ σ S, Inv [] σ S → chk S = true ∧ Post (.nx σ S))
    (h1 : ∀ d r σ S, Inv (d :: r) σ S → chk S = true ∧ ∃ σ1 S1, g d σ S = .ok σ1 S1 ∧ (match body σ1 S1 with
      | .nx σ2 S2 => Inv r σ2 S2
      | .ct σ2 S2 => Inv r σ2 S2
      | .bk σ2 S2 => Post (.nx σ2 S2)
      | .rt d S2 => Post (.rt d S2)
      | .exc e σ2 S2 => Post (.exc e σ2 S2)
      | .stuck => False)) : ∀ (ds : List Dat) (σ : Sl) (S : Sto), Inv ds σ S → Post (forGo chk g body ds σ S)
  | [], σ, S, h => by
    obtain ⟨a, b⟩ := h0 σ S h
    unfold forGo
    rw [if_pos a]
    exact b
  | d :: ds, σ, S, h => by
    obtain ⟨a, σ1, S1, e, b⟩ := h1 d ds σ S h
    unfold forGo
    rw [if_pos a, e]
    simp only [Res.out_ok]
    revert b
    cases body σ1 S1 with
    | nx σ2 S2 => exact fun b => forGo_ind Inv Post h0 h1 ds σ2 S2 b
    | ct σ2 S2 => exact fun b => forGo_ind Inv Post h0 h1 ds σ2 S2 b
    | bk σ2 S2 => exact fun b => b
    | rt d S2 => exact fun b => b
    | exc e σ2 S2 => exact fun b => b
    | stuck => exact fun b => b.elim
theorem whileGo_ind {c : BF} {body : SF} (Inv : Sl → Sto → Prop) (m : Sl → Sto → Nat) (Post : Out → Prop)
    (h : ∀ σ S, Inv σ S → ∃ b, c σ S = .ok b S ∧ (b = false → Post (.nx σ S)) ∧ (b = true → (match body σ S with
      | .nx σ2 S2 => Inv σ2 S2 ∧ m σ2 S2 < m σ S
      | .ct σ2 S2 => Inv σ2 S2 ∧ m σ2 S2 < m σ S
      | .bk σ2 S2 => Post (.nx σ2 S2)
      | .rt d S2 => Post (.rt d S2)
      | .exc e σ2 S2 => Post (.exc e σ2 S2)
      | .stuck => False))) : ∀ (n : Nat) (σ : Sl) (S : Sto), Inv σ S → m σ S < n → Post (whileGo c body n σ S)
  | 0, σ, S, _, hn => absurd hn (Nat.not_lt_zero _)
  | n + 1, σ, S, hi, hn => by
    obtain ⟨b, e, hf, ht⟩ := h σ S hi
    unfold whileGo
    rw [e]
    simp only [Res.out_ok]
    cases b with
    | false => exact hf rfl
    | true =>
      have ht := ht rfl
      rw [if_pos rfl]
      revert ht
      cases body σ S with
      | nx σ2 S2 => exact fun q => whileGo_ind Inv m Post h n σ2 S2 q.1 (by have := q.2; omega)
      | ct σ2 S2 => exact fun q => whileGo_ind Inv m Post h n σ2 S2 q.1 (by have := q.2; omega)
      | bk σ2 S2 => exact fun b => b
      | rt d S2 => exact fun b => b
      | exc e σ2 S2 => exact fun b => b
      | stuck => exact fun b => b.elim
/-- a comprehension that turns nothing -/
theorem lcGo_map {chk : Sto → Bool} {g : GF} {te : EF} {σ0 : Sl} {S : Sto} (f : Dat → Dat) (hc : chk S = true) : ∀ (ds : List Dat), (∀ d ∈ ds, ∃ σ2, g d σ0 S = .ok σ2 S ∧ te σ2 S = .ok (f d) S) → lcGo chk g bYes te σ0 ds S = .ok (ds.map f) S
  | [], _ => by unfold lcGo; rw [hc]; rfl
  | d :: ds, h => by
    obtain ⟨σ2, e1, e2⟩ := h d List.mem_cons_self
    unfold lcGo
    rw [hc, e1]
    simp only [ev_guard_true, Res.bind_ok, ev_bYes, ev_noX_ok, if_true, e2]
    rw [lcGo_map f hc ds fun d' hd => h d' (List.mem_cons_of_mem _ hd)]
    rfl
/-- .. that draws: P stays, each item keeps Q -/
theorem lcGo_rel {chk : Sto → Bool} {g : GF} {te : EF} {σ0 : Sl} (P : Sto → Prop) (Q : Dat → Prop) (hc : ∀ S, P S → chk S = true) : ∀ (ds : List Dat) (S : Sto), (∀ d ∈ ds, ∀ S, P S → ∃ σ2 S2 y S3, g d σ0 S = .ok σ2 S2 ∧ te σ2 S2 = .ok y S3 ∧ P S3 ∧ Q y) → P S →
    ∃ ys S', lcGo chk g bYes te σ0 ds S = .ok ys S' ∧ P S' ∧ ys.length = ds.length ∧ ∀ y ∈ ys, Q y
  | [], S, _, hp => ⟨[], S, by unfold lcGo; rw [hc S hp]; rfl, hp, rfl, fun y hy => by cases hy⟩
  | d :: ds, S, h, hp => by
    obtain ⟨σ2, S2, y, S3, e1, e2, p3, q⟩ := h d List.mem_cons_self S hp
    obtain ⟨ys, S', e, p', hl, hq⟩ := lcGo_rel P Q hc ds S3 (fun d' hd => h d' (List.mem_cons_of_mem _ hd)) p3
    refine ⟨y :: ys, S', ?_, p', by simp [hl], fun z hz => ?_⟩
    · unfold lcGo
      rw [hc S hp, e1]
      simp only [ev_guard_true, Res.bind_ok, ev_bYes, ev_noX_ok, if_true, e2, e]
    · rcases List.mem_cons.mp hz with z' | z'
      · rw [z']; exact q
      · exact hq z z'
theorem rangeD_map (n : Nat) : ∀ (lo : Int), rangeD lo 1 n = (List.range n).map fun k => .int (lo + (k : Nat)) := by
  induction n with
  | zero => intro lo; rfl
  | succ n ih =>
    intro lo
    rw [rangeD, ih, List.range_succ_eq_map, List.map_cons, List.map_map]
    congr 1
    · simp
    · refine List.map_congr_left fun k _ => ?_
      simp only [Function.comp]
      congr 1
      push_cast
      omega
end Fx

namespace Law
open PySem PySem.Spec PyProof.Rows L2 Fx
def top (i : Nat) : Stmt := PySem.Challenge.pw_partmill_k94_whole_rests_of_one_number.main.body.getD i (.Pass ⟨0, 0, 0, 0⟩)
def b_law_cell_at : SF := (sSeq (sIf (bV (e2 oLt (cV 1) (eA oLen (aCons (cV 0) aNil)))) (sRet (e2 oIx (cV 0) (cV 1))) sNil) (sRet (cC (.int 0))))
def F_law_cell_at : Fn := mkFn 2 2 b_law_cell_at
def b_law_left : SF := (sSeq (sSet 2 (eCall 2 F_law_cell_at (aCons (cV 0) (aCons (e2 oMd (cV 1) (eA oMax2 (aCons (cC (.int 1)) (aCons (eA oLen (aCons (cV 0) aNil)) aNil)))) aNil)))) (sSeq (sSet 3 (e2 oMd (e2 oMl (e2 oAdd (e2 oAdd (e2 oMd (cV 2) (cC (.int 2147483629))) (e2 oMl (e2 oMl (cC (.int 7919)) (cV 1)) (cV 1))) (cC (.int 11))) (cC (.int 48271))) (cC (.int 2147483647)))) (sSeq (sSet 3 (e2 oMd (e2 oAdd (e2 oAdd (e2 oMl (cV 3) (cC (.int 69621))) (e2 oMl (cC (.int 7)) (cV 1))) (cC (.int 1))) (cC (.int 2147483629)))) (sSeq (sIf (bV (e2 oLt (cV 2) (e2 oPw (cC (.int 10)) (cC (.int 18))))) (sSet 2 (cC (.int 0))) sNil) (sRet (eLstM (aCons (cV 2) (aCons (cV 3) (aCons (cC (.int 60)) aNil)))))))))
def F_law_left : Fn := mkFn 2 4 b_law_left
def L1_law_all : SF := (sSet 1 (e2 oMl (cV 1) (cV 2)))
def b_law_all : SF := (sSeq (sSet 1 (cC (.int 1))) (sSeq (sFor (iSeq (cV 0)) (gN 2) L1_law_all) (sRet (cV 1))))
def F_law_all : Fn := mkFn 1 3 b_law_all
def L1_common : SF := (sPar 0 1 (aCons (cV 1) (aCons (e2 oMd (cV 0) (cV 1)) aNil)))
def b_common : SF := (sSeq (sWhile 18446744073709551616 (bV (e2 oGt (cV 1) (cC (.int 0)))) L1_common) (sRet (cV 0)))
def F_common : Fn := mkFn 2 2 b_common
def L2_shared : SF := (sIf (bV (e2 oGt (eCall 2 F_common (aCons (e2 oIx (cV 0) (cV 1)) (aCons (e2 oIx (cV 0) (cV 2)) aNil))) (cC (.int 1)))) (sRet (eTup (aCons (cV 1) (aCons (cV 2) aNil)))) sNil)
def L1_shared : SF := (sFor (iRng2 (aCons (e2 oAdd (cV 1) (cC (.int 1))) (aCons (eA oLen (aCons (cV 0) aNil)) aNil))) (gN 2) L2_shared)
def b_shared : SF := (sSeq (sFor (iRng1 (aCons (eA oLen (aCons (cV 0) aNil)) aNil)) (gN 1) L1_shared) (sRet (cC .non)))
def F_shared : Fn := mkFn 1 3 b_shared
def b_look_apart : SF := (sSeq (sSet 1 (eCall 1 F_shared (aCons (cV 0) aNil))) (sIf (bV (e2 oIsNot (cV 1) (cC .non))) (sRaise "Shared" ["first", "second"] (aCons (e2 oIx (cV 1) (cC (.int 0))) (aCons (e2 oIx (cV 1) (cC (.int 1))) aNil))) sNil))
def F_look_apart : Fn := mkFn 1 2 b_look_apart
def L1_told_rest : SF := (sSeq (sSet 3 (e2 oMd (e2 oAdd (cV 3) (e2 oMl (cV 5) (cV 4))) (cV 2))) (sSet 4 (e2 oMd (e2 oMl (cV 4) (cV 6)) (cV 2))))
def b_told_rest : SF := (sSeq (sAsg (eTup (aCons (cC (.int 0)) (aCons (cC (.int 1)) aNil))) (gT 2 (gsCons (gN 3) (gsCons (gN 4) gsNil)))) (sSeq (sFor (iZip (aCons (cV 1) (aCons (cV 0) aNil))) (gT 2 (gsCons (gN 5) (gsCons (gN 6) gsNil))) L1_told_rest) (sRet (eTup (aCons (cV 3) (aCons (cV 4) aNil))))))
def F_told_rest : Fn := mkFn 3 7 b_told_rest
def L1_inverse : SF := (sSeq (sSet 6 (e2 oFd (cV 2) (cV 3))) (sSeq (sPar 2 3 (aCons (cV 3) (aCons (e2 oSub (cV 2) (e2 oMl (cV 6) (cV 3))) aNil))) (sPar 4 5 (aCons (cV 5) (aCons (e2 oSub (cV 4) (e2 oMl (cV 6) (cV 5))) aNil)))))
def b_inverse : SF := (sSeq (sPar 2 3 (aCons (cV 1) (aCons (e2 oMd (cV 0) (cV 1)) aNil))) (sSeq (sAsg (eTup (aCons (cC (.int 0)) (aCons (cC (.int 1)) aNil))) (gT 2 (gsCons (gN 4) (gsCons (gN 5) gsNil)))) (sSeq (sWhile 18446744073709551616 (bV (e2 oGt (cV 3) (cC (.int 0)))) L1_inverse) (sRet (e2 oMd (cV 4) (cV 1))))))
def F_inverse : Fn := mkFn 2 7 b_inverse
def L1_mixed : SF := (sSeq (sAsg (eCall 3 F_told_rest (aCons (cV 0) (aCons (cV 2) (aCons (cV 3) aNil)))) (gT 2 (gsCons (gN 5) (gsCons (gN 6) gsNil)))) (sExpr (eM oAppend (cV 2) (aCons (e2 oMd (e2 oMl (e2 oSub (cV 4) (cV 5)) (eCall 2 F_inverse (aCons (cV 6) (aCons (cV 3) aNil)))) (cV 3)) aNil))))
def b_mixed : SF := (sSeq (sExpr (eCall 1 F_look_apart (aCons (cV 0) aNil))) (sSeq (sSet 2 (eLstM aNil)) (sSeq (sFor (iZip (aCons (cV 0) (aCons (cV 1) aNil))) (gT 2 (gsCons (gN 3) (gsCons (gN 4) gsNil))) L1_mixed) (sRet (eA oTuple (aCons (cV 2) aNil))))))
def F_mixed : Fn := mkFn 2 7 b_mixed
def b_law_pick : SF := (sSeq (sIf (bAnd (bV (e2 oGt (e2 oIx (cV 0) (cC (.int 0))) (cC (.int 0)))) (bV (e2 oGt (e2 oIx (cV 0) (cC (.int 2))) (cC (.int 0))))) (sSeq (sSet 2 (e2 oMd (e2 oIx (cV 0) (cC (.int 0))) (cV 1))) (sSeq (sAsg (e2 oFd (e2 oIx (cV 0) (cC (.int 0))) (cV 1)) (gIx (cV 0) (cC (.int 0)))) (sSeq (sAsg (e2 oSub (e2 oIx (cV 0) (cC (.int 2))) (cC (.int 1))) (gIx (cV 0) (cC (.int 2)))) (sRet (cV 2))))) sNil) (sSeq (sAsg (e2 oMd (e2 oAdd (e2 oMl (e2 oIx (cV 0) (cC (.int 1))) (cC (.int 48271))) (cC (.int 12345))) (cC (.int 2147483647))) (gIx (cV 0) (cC (.int 1)))) (sRet (e2 oMd (e2 oMd (e2 oMl (e2 oIx (cV 0) (cC (.int 1))) (e2 oIx (cV 0) (cC (.int 1)))) (cC (.int 1999999973))) (cV 1)))))
def F_law_pick : Fn := mkFn 2 3 b_law_pick
def b_rests : SF := (sRet (eA oTuple (aCons (eLc (iSeq (cV 0)) (gN 2) bYes (e2 oMd (cV 1) (cV 2)) [2]) aNil)))
def F_rests : Fn := mkFn 2 3 b_rests
def L1_law_below : SF := (sSet 2 (e2 oAdd (e2 oMl (cV 2) (e2 oPw (cC (.int 10)) (cC (.int 6)))) (eCall 2 F_law_pick (aCons (cV 0) (aCons (e2 oPw (cC (.int 10)) (cC (.int 6))) aNil)))))
def b_law_below : SF := (sSeq (sSet 2 (cC (.int 0))) (sSeq (sFor (iRng1 (aCons (e2 oAdd (cC (.int 1)) (e2 oFd (eA oLen (aCons (eA oStr (aCons (cV 1) aNil)) aNil)) (cC (.int 6)))) aNil)) (gN 3) L1_law_below) (sRet (e2 oIx (eLst (aCons (cC (.int 0)) (aCons (e2 oSub (cV 1) (cC (.int 1))) (aCons (e2 oFd (cV 1) (cC (.int 2))) (aCons (e2 oMd (cV 2) (cV 1)) (aCons (e2 oMd (cV 2) (cV 1)) (aCons (e2 oMd (cC (.int 1)) (cV 1)) aNil))))))) (eCall 2 F_law_pick (aCons (cV 0) (aCons (cC (.int 6)) aNil)))))))
def F_law_below : Fn := mkFn 2 4 b_law_below
def b_are_digits : SF := (sSeq (sIf (bOr (bNot (bV (e1 (oIsa "tuple") (cV 1)))) (bV (e2 oNe (eA oLen (aCons (cV 1) aNil)) (eA oLen (aCons (cV 0) aNil))))) (sRet (cC (.bl false))) sNil) (sSeq (sIf (bNot (bV (eA oAll (aCons (eLc (iSeq (cV 1)) (gN 2) bYes (eAnd (e1 (oIsa "int") (cV 2)) (eNot (e1 (oIsa "bool") (cV 2)))) [2]) aNil)))) (sRet (cC (.bl false))) sNil) (sRet (eA oAll (aCons (eLc (iZip (aCons (cV 1) (aCons (cV 0) aNil))) (gT 2 (gsCons (gN 2) (gsCons (gN 3) gsNil))) bYes (eChain oLe oLt (cC (.int 0)) (cV 2) (cV 3)) [2, 3]) aNil)))))
def F_are_digits : Fn := mkFn 2 4 b_are_digits
def L1_number_told : SF := (sSeq (sSet 2 (e2 oAdd (cV 2) (e2 oMl (cV 4) (cV 3)))) (sSet 3 (e2 oMl (cV 3) (cV 5))))
def b_number_told : SF := (sSeq (sAsg (eTup (aCons (cC (.int 0)) (aCons (cC (.int 1)) aNil))) (gT 2 (gsCons (gN 2) (gsCons (gN 3) gsNil)))) (sSeq (sFor (iZip (aCons (cV 1) (aCons (cV 0) aNil))) (gT 2 (gsCons (gN 4) (gsCons (gN 5) gsNil))) L1_number_told) (sRet (cV 2))))
def F_number_told : Fn := mkFn 2 6 b_number_told
def b_shows_mixed : SF := (sSeq (sIf (bOr (bV (e2 oIsNot (eCall 1 F_shared (aCons (cV 0) aNil)) (cC .non))) (bNot (bV (eCall 2 F_are_digits (aCons (cV 0) (aCons (cV 2) aNil)))))) (sRet (cC (.bl false))) sNil) (sRet (e2 oEq (eCall 2 F_rests (aCons (cV 0) (aCons (eCall 2 F_number_told (aCons (cV 0) (aCons (cV 2) aNil))) aNil))) (eA oTuple (aCons (cV 1) aNil)))))
def F_shows_mixed : Fn := mkFn 3 3 b_shows_mixed
def L1_law_gcd : SF := (sSeq (sSet 2 (e2 oMd (cV 0) (cV 1))) (sSeq (sSet 0 (cV 1)) (sSet 1 (cV 2))))
def b_law_gcd : SF := (sSeq (sWhile 18446744073709551616 (bV (e2 oGt (cV 1) (cC (.int 0)))) L1_law_gcd) (sRet (cV 0)))
def F_law_gcd : Fn := mkFn 2 3 b_law_gcd
def L1_law_apart : SF := (sIf (bV (eA oAll (aCons (eLc (iSeq (cV 1)) (gN 3) bYes (e2 oEq (eCall 2 F_law_gcd (aCons (cV 2) (aCons (cV 3) aNil))) (cC (.int 1))) [3]) aNil))) (sExpr (eM oAppend (cV 1) (aCons (cV 2) aNil))) sNil)
def b_law_apart : SF := (sSeq (sSet 1 (eLstM aNil)) (sSeq (sFor (iSeq (cV 0)) (gN 2) L1_law_apart) (sRet (eA oTuple (aCons (cV 1) aNil)))))
def F_law_apart : Fn := mkFn 1 4 b_law_apart
def L1_law_few : SF := (sSeq (sSet 3 (e2 oAdd (cC (.int 2)) (eCall 2 F_law_pick (aCons (cV 0) (aCons (cC (.int 12)) aNil))))) (sIf (bAnd (bV (e2 oLe (e2 oMl (eCall 1 F_law_all (aCons (cV 1) aNil)) (cV 3)) (cC (.int 3000)))) (bV (eA oAll (aCons (eLc (iSeq (cV 1)) (gN 4) bYes (e2 oEq (eCall 2 F_law_gcd (aCons (cV 3) (aCons (cV 4) aNil))) (cC (.int 1))) [4]) aNil)))) (sSet 1 (e2 oAdd (cV 1) (eTup (aCons (cV 3) aNil)))) sNil))
def b_law_few : SF := (sSeq (sSet 1 (eTup aNil)) (sSeq (sFor (iRng1 (aCons (cC (.int 5)) aNil)) (gN 2) L1_law_few) (sRet (cV 1))))
def F_law_few : Fn := mkFn 1 5 b_law_few
def b_put_back : SF := (sRet (eCall 2 F_number_told (aCons (cV 0) (aCons (eCall 2 F_mixed (aCons (cV 0) (aCons (cV 1) aNil))) aNil))))
def F_put_back : Fn := mkFn 2 2 b_put_back
def L2_law_right : SF := (sExpr (eM oAppend (cV 9) (aCons (e2 oMd (e2 oIx (eLst (aCons (e2 oAdd (cV 10) (cV 11)) (aCons (e2 oSub (cV 10) (cV 11)) (aCons (e2 oMl (cV 10) (cV 11)) aNil)))) (cV 8)) (cV 12)) aNil)))
def L1_law_right : SF := (sSeq (sSet 9 (eLstM aNil)) (sSeq (sFor (iZip3 (aCons (cV 5) (aCons (cV 6) (aCons (cV 1) aNil)))) (gT 3 (gsCons (gN 10) (gsCons (gN 11) (gsCons (gN 12) gsNil)))) L2_law_right) (sIf (bOr (bV (e2 oNe (eCall 2 F_rests (aCons (cV 1) (aCons (e2 oMd (cV 7) (cV 4)) aNil))) (eA oTuple (aCons (cV 9) aNil)))) (bV (e2 oNe (eCall 2 F_put_back (aCons (cV 1) (aCons (eA oTuple (aCons (cV 9) aNil)) aNil))) (e2 oMd (cV 7) (cV 4))))) (sRet (cC (.bl false))) sNil)))
def L3_law_right : SF := (sExpr (eM oInsert (cV 13) (aCons (eCall 2 F_law_pick (aCons (cV 0) (aCons (e2 oAdd (cV 14) (cC (.int 1))) aNil))) (aCons (cV 14) aNil))))
def L4_law_right : SF := (sSeq (sSet 7 (e2 oAdd (cV 7) (e2 oMl (cV 17) (cV 16)))) (sSeq (sSet 16 (e2 oMl (cV 16) (cV 12))) (sIf (bNot (bV (eChain oLe oLt (cC (.int 0)) (cV 17) (cV 12)))) (sRet (cC (.bl false))) sNil)))
def b_law_right : SF := (sSeq (sSet 4 (eCall 1 F_law_all (aCons (cV 1) aNil))) (sSeq (sAsg (eTup (aCons (eCall 2 F_rests (aCons (cV 1) (aCons (cV 2) aNil))) (aCons (eCall 2 F_rests (aCons (cV 1) (aCons (cV 3) aNil))) aNil))) (gT 2 (gsCons (gN 5) (gsCons (gN 6) gsNil)))) (sSeq (sFor (iSeq (eTup (aCons (eTup (aCons (e2 oAdd (cV 2) (cV 3)) (aCons (cC (.int 0)) aNil))) (aCons (eTup (aCons (e2 oSub (cV 2) (cV 3)) (aCons (cC (.int 1)) aNil))) (aCons (eTup (aCons (e2 oMl (cV 2) (cV 3)) (aCons (cC (.int 2)) aNil))) aNil))))) (gT 2 (gsCons (gN 7) (gsCons (gN 8) gsNil))) L1_law_right) (sSeq (sSet 13 (eLstM aNil)) (sSeq (sFor (iRng1 (aCons (eA oLen (aCons (cV 1) aNil)) aNil)) (gN 14) L3_law_right) (sSeq (sIf (bV (e2 oNe (eCall 2 F_put_back (aCons (eA oTuple (aCons (eLc (iSeq (cV 13)) (gN 14) bYes (e2 oIx (cV 1) (cV 14)) [14]) aNil)) (aCons (eA oTuple (aCons (eLc (iSeq (cV 13)) (gN 14) bYes (e2 oIx (cV 5) (cV 14)) [14]) aNil)) aNil))) (cV 2))) (sRet (cC (.bl false))) sNil) (sSeq (sSet 15 (eCall 2 F_mixed (aCons (cV 1) (aCons (cV 5) aNil)))) (sSeq (sAsg (eTup (aCons (cC (.int 1)) (aCons (cC (.int 0)) aNil))) (gT 2 (gsCons (gN 16) (gsCons (gN 7) gsNil)))) (sSeq (sFor (iZip (aCons (cV 15) (aCons (cV 1) aNil))) (gT 2 (gsCons (gN 17) (gsCons (gN 12) gsNil))) L4_law_right) (sRet (eAnd (e2 oEq (cV 7) (cV 2)) (e2 oIs (eCall 3 F_shows_mixed (aCons (cV 1) (aCons (cV 5) (aCons (cV 15) aNil)))) (cC (.bl true))))))))))))))
def F_law_right : Fn := mkFn 4 18 b_law_right
def b_law_refused : SF := (sSeq (sSet 3 (cC .non)) (sSeq (sTry (tellL [("Shared", true)]) 4 (sIf (bV (e2 oEq (cV 0) (cC (.int 0)))) (sExpr (eCall 2 F_mixed (aCons (cV 1) (aCons (cV 2) aNil)))) (sExpr (eCall 2 F_put_back (aCons (cV 1) (aCons (cV 2) aNil))))) (fun e => (sSet 3 (eTup (aCons (eXf 4 e "first") (aCons (eXf 4 e "second") aNil)))))) (sRet (cV 3))))
def F_law_refused : Fn := mkFn 3 5 b_law_refused
def b_law_modulus : SF := (sSeq (sSet 1 (eLst (aCons (e2 oAdd (cC (.int 2)) (eCall 2 F_law_pick (aCons (cV 0) (aCons (cC (.int 4)) aNil)))) (aCons (e2 oAdd (cC (.int 2)) (eCall 2 F_law_pick (aCons (cV 0) (aCons (cC (.int 40)) aNil)))) (aCons (e2 oAdd (cC (.int 2)) (eCall 2 F_law_pick (aCons (cV 0) (aCons (cC (.int 999998)) aNil)))) (aCons (cC (.int 999983)) (aCons (e2 oPw (cC (.int 2)) (cC (.int 19))) (aCons (e2 oPw (cC (.int 3)) (cC (.int 12))) aNil)))))))) (sRet (e2 oIx (cV 1) (eCall 2 F_law_pick (aCons (cV 0) (aCons (cC (.int 6)) aNil))))))
def F_law_modulus : Fn := mkFn 1 2 b_law_modulus
def b_law_moduli : SF := (sSeq (sSet 1 (e2 oIx (eLst (aCons (cC (.int 7)) (aCons (cC (.int 40)) aNil))) (eA oInt (aCons (e2 oEq (eCall 2 F_law_pick (aCons (cV 0) (aCons (cC (.int 8)) aNil))) (cC (.int 7))) aNil)))) (sRet (eA oTuple (aCons (eLc (iRng1 (aCons (e2 oAdd (cC (.int 1)) (eCall 2 F_law_pick (aCons (cV 0) (aCons (cV 1) aNil)))) aNil)) (gN 2) bYes (eCall 1 F_law_modulus (aCons (cV 0) aNil)) [2]) aNil))))
def F_law_moduli : Fn := mkFn 1 3 b_law_moduli
def L1_law : SF := (sSeq (sSet 2 (eCall 2 F_law_left (aCons (cV 0) (aCons (cV 1) aNil)))) (sSeq (sSet 3 (e2 oIx (eLst (aCons (eCall 1 F_law_apart (aCons (eSl (eCall 1 F_law_moduli (aCons (cV 2) aNil)) pNo (pAt (cC (.int 39)))) aNil)) (aCons (eCall 1 F_law_few (aCons (cV 2) aNil)) aNil))) (eCall 2 F_law_pick (aCons (cV 2) (aCons (cC (.int 2)) aNil))))) (sSeq (sSet 4 (eCall 1 F_law_all (aCons (cV 3) aNil))) (sSeq (sPar 5 6 (aCons (eCall 2 F_law_below (aCons (cV 2) (aCons (cV 4) aNil))) (aCons (eCall 2 F_law_below (aCons (cV 2) (aCons (cV 4) aNil))) aNil))) (sSeq (sIf (bOr (bNot (bV (eCall 4 F_law_right (aCons (cV 2) (aCons (cV 3) (aCons (cV 5) (aCons (cV 6) aNil))))))) (bV (e2 oIsNot (eCall 1 F_shared (aCons (cV 3) aNil)) (cC .non)))) (sRet (cC (.bl false))) sNil) (sSeq (sIf (bV (e2 oLe (cV 4) (cC (.int 3000)))) (sSeq (sSet 7 (eA (oDict true) (aCons (eLc (iRng1 (aCons (cV 4) aNil)) (gN 13) bYes (eTup (aCons (eCall 2 F_rests (aCons (cV 3) (aCons (cV 13) aNil))) (aCons (cC (.bl true)) aNil))) [13]) aNil))) (sIf (bV (e2 oNe (eA oLen (aCons (cV 7) aNil)) (cV 4))) (sRet (cC (.bl false))) sNil)) sNil) (sSeq (sSet 8 (eCall 2 F_mixed (aCons (cV 3) (aCons (eCall 2 F_rests (aCons (cV 3) (aCons (cV 6) aNil))) aNil)))) (sSeq (sIf (bV (e2 oNe (eCall 3 F_shows_mixed (aCons (cV 3) (aCons (eCall 2 F_rests (aCons (cV 3) (aCons (cV 5) aNil))) (aCons (cV 8) aNil)))) (e2 oEq (cV 5) (cV 6)))) (sRet (cC (.bl false))) sNil) (sSeq (sSet 9 (eCall 2 F_law_pick (aCons (cV 2) (aCons (eA oLen (aCons (cV 3) aNil)) aNil)))) (sSeq (sSet 10 (e2 oAdd (cV 3) (eTup (aCons (e2 oIx (cV 3) (cV 9)) aNil)))) (sSeq (sSet 11 (eCall 2 F_rests (aCons (cV 10) (aCons (cV 5) aNil)))) (sSeq (sIf (bV (e2 oNe (eCall 1 F_shared (aCons (cV 10) aNil)) (eTup (aCons (cV 9) (aCons (eA oLen (aCons (cV 3) aNil)) aNil))))) (sRet (cC (.bl false))) sNil) (sIf (bV (e2 oNe (eLc (iRng1 (aCons (cC (.int 2)) aNil)) (gN 12) bYes (eCall 3 F_law_refused (aCons (cV 12) (aCons (cV 10) (aCons (cV 11) aNil)))) [12]) (e2 oMl (eLst (aCons (eTup (aCons (cV 9) (aCons (eA oLen (aCons (cV 3) aNil)) aNil))) aNil)) (cC (.int 2))))) (sRet (cC (.bl false))) sNil)))))))))))))
def b_law : SF := (sSeq (sFor (iRng1 (aCons (e2 oAdd (cC (.int 1)) (eA oMin2 (aCons (cC (.int 8)) (aCons (eA oLen (aCons (cV 0) aNil)) aNil)))) aNil)) (gN 1) L1_law) (sRet (cC (.bl true))))
def F_law : Fn := mkFn 1 14 b_law
end Law

namespace Law
open PySem PySem.Spec PyProof.Rows L2 Fx
structure Txt (K : PySem.W.Frag) (mg : Str → Option Value) : Prop where
  d_law_cell_at : ∃ fd, FunD K "_law_cell_at" "_law_cell_at" (defArgs (top 16)) (defBody (top 16)) (defScope (top 16)) [] [] (He.ga K "_law_cell_at") fd
  g_law_cell_at : mg "_law_cell_at" = some (.ref (He.ga K "_law_cell_at"))
  d_law_left : ∃ fd, FunD K "_law_left" "_law_left" (defArgs (top 17)) (defBody (top 17)) (defScope (top 17)) [] [] (He.ga K "_law_left") fd
  g_law_left : mg "_law_left" = some (.ref (He.ga K "_law_left"))
  d_law_all : ∃ fd, FunD K "_law_all" "_law_all" (defArgs (top 23)) (defBody (top 23)) (defScope (top 23)) [] [] (He.ga K "_law_all") fd
  g_law_all : mg "_law_all" = some (.ref (He.ga K "_law_all"))
  d_common : ∃ fd, FunD K "common" "common" (defArgs (top 4)) (defBody (top 4)) (defScope (top 4)) [] [] (He.ga K "common") fd
  g_common : mg "common" = some (.ref (He.ga K "common"))
  d_shared : ∃ fd, FunD K "shared" "shared" (defArgs (top 5)) (defBody (top 5)) (defScope (top 5)) [] [] (He.ga K "shared") fd
  g_shared : mg "shared" = some (.ref (He.ga K "shared"))
  d_look_apart : ∃ fd, FunD K "look_apart" "look_apart" (defArgs (top 6)) (defBody (top 6)) (defScope (top 6)) [] [] (He.ga K "look_apart") fd
  g_look_apart : mg "look_apart" = some (.ref (He.ga K "look_apart"))
  d_told_rest : ∃ fd, FunD K "told_rest" "told_rest" (defArgs (top 9)) (defBody (top 9)) (defScope (top 9)) [] [] (He.ga K "told_rest") fd
  g_told_rest : mg "told_rest" = some (.ref (He.ga K "told_rest"))
  d_inverse : ∃ fd, FunD K "inverse" "inverse" (defArgs (top 8)) (defBody (top 8)) (defScope (top 8)) [] [] (He.ga K "inverse") fd
  g_inverse : mg "inverse" = some (.ref (He.ga K "inverse"))
  d_mixed : ∃ fd, FunD K "mixed" "mixed" (defArgs (top 10)) (defBody (top 10)) (defScope (top 10)) [] [] (He.ga K "mixed") fd
  g_mixed : mg "mixed" = some (.ref (He.ga K "mixed"))
  d_law_pick : ∃ fd, FunD K "_law_pick" "_law_pick" (defArgs (top 18)) (defBody (top 18)) (defScope (top 18)) [] [] (He.ga K "_law_pick") fd
  g_law_pick : mg "_law_pick" = some (.ref (He.ga K "_law_pick"))
  d_rests : ∃ fd, FunD K "rests" "rests" (defArgs (top 7)) (defBody (top 7)) (defScope (top 7)) [] [] (He.ga K "rests") fd
  g_rests : mg "rests" = some (.ref (He.ga K "rests"))
  d_law_below : ∃ fd, FunD K "_law_below" "_law_below" (defArgs (top 24)) (defBody (top 24)) (defScope (top 24)) [] [] (He.ga K "_law_below") fd
  g_law_below : mg "_law_below" = some (.ref (He.ga K "_law_below"))
  d_are_digits : ∃ fd, FunD K "are_digits" "are_digits" (defArgs (top 13)) (defBody (top 13)) (defScope (top 13)) [] [] (He.ga K "are_digits") fd
  g_are_digits : mg "are_digits" = some (.ref (He.ga K "are_digits"))
  d_number_told : ∃ fd, FunD K "number_told" "number_told" (defArgs (top 11)) (defBody (top 11)) (defScope (top 11)) [] [] (He.ga K "number_told") fd
  g_number_told : mg "number_told" = some (.ref (He.ga K "number_told"))
  d_shows_mixed : ∃ fd, FunD K "shows_mixed" "shows_mixed" (defArgs (top 14)) (defBody (top 14)) (defScope (top 14)) [] [] (He.ga K "shows_mixed") fd
  g_shows_mixed : mg "shows_mixed" = some (.ref (He.ga K "shows_mixed"))
  d_law_gcd : ∃ fd, FunD K "_law_gcd" "_law_gcd" (defArgs (top 19)) (defBody (top 19)) (defScope (top 19)) [] [] (He.ga K "_law_gcd") fd
  g_law_gcd : mg "_law_gcd" = some (.ref (He.ga K "_law_gcd"))
  d_law_apart : ∃ fd, FunD K "_law_apart" "_law_apart" (defArgs (top 22)) (defBody (top 22)) (defScope (top 22)) [] [] (He.ga K "_law_apart") fd
  g_law_apart : mg "_law_apart" = some (.ref (He.ga K "_law_apart"))
  d_law_few : ∃ fd, FunD K "_law_few" "_law_few" (defArgs (top 25)) (defBody (top 25)) (defScope (top 25)) [] [] (He.ga K "_law_few") fd
  g_law_few : mg "_law_few" = some (.ref (He.ga K "_law_few"))
  d_put_back : ∃ fd, FunD K "put_back" "put_back" (defArgs (top 12)) (defBody (top 12)) (defScope (top 12)) [] [] (He.ga K "put_back") fd
  g_put_back : mg "put_back" = some (.ref (He.ga K "put_back"))
  d_law_right : ∃ fd, FunD K "_law_right" "_law_right" (defArgs (top 27)) (defBody (top 27)) (defScope (top 27)) [] [] (He.ga K "_law_right") fd
  g_law_right : mg "_law_right" = some (.ref (He.ga K "_law_right"))
  d_law_refused : ∃ fd, FunD K "_law_refused" "_law_refused" (defArgs (top 26)) (defBody (top 26)) (defScope (top 26)) [] [] (He.ga K "_law_refused") fd
  g_law_refused : mg "_law_refused" = some (.ref (He.ga K "_law_refused"))
  d_law_modulus : ∃ fd, FunD K "_law_modulus" "_law_modulus" (defArgs (top 20)) (defBody (top 20)) (defScope (top 20)) [] [] (He.ga K "_law_modulus") fd
  g_law_modulus : mg "_law_modulus" = some (.ref (He.ga K "_law_modulus"))
  d_law_moduli : ∃ fd, FunD K "_law_moduli" "_law_moduli" (defArgs (top 21)) (defBody (top 21)) (defScope (top 21)) [] [] (He.ga K "_law_moduli") fd
  g_law_moduli : mg "_law_moduli" = some (.ref (He.ga K "_law_moduli"))
  d_law : ∃ fd, FunD K "law" "law" (defArgs (top 28)) (defBody (top 28)) (defScope (top 28)) [] [] (He.ga K "law") fd
  g_law : mg "law" = some (.ref (He.ga K "law"))
  fr_all : mg "all" = none
  fr_bool : mg "bool" = none
  fr_dict : mg "dict" = none
  fr_int : mg "int" = none
  fr_isinstance : mg "isinstance" = none
  fr_len : mg "len" = none
  fr_max : mg "max" = none
  fr_min : mg "min" = none
  fr_range : mg "range" = none
  fr_str : mg "str" = none
  fr_tuple : mg "tuple" = none
  fr_zip : mg "zip" = none
  g_Shared : mg "Shared" = some (.ref (He.ga K "Shared"))
  g_MillError : mg "MillError" = some (.ref (He.ga K "MillError"))
  di_Shared : ∃ fd, FunD K "__init__" "Shared.__init__" (defArgs (clsAt (top 2) 0)) (defBody (clsAt (top 2) 0)) (defScope (clsAt (top 2) 0)) [] [] (He.ma K (He.ga K "Shared") "__init__") fd
  x_Shared : (oexB (fun K => He.ga K "Shared") K) = true
  i_Shared : (initB (fun K => He.ga K "Shared") K) = true
  n_Shared_first : (decide (PySem.W.findIn K (.ref (He.ga K "Shared")) "first" = some none)) = true
  n_Shared_second : (decide (PySem.W.findIn K (.ref (He.ga K "Shared")) "second" = some none)) = true
  xf_Shared : (xfB K (He.ga K "Shared")) = true
  p_MillError : (minitB (fun K => He.ga K "MillError") K) = true
  m_Shared_Shared : (decide (PySem.W.exmOne K (.ref (He.ga K "Shared")) (.ref (He.ga K "Shared")) = some true)) = true
def fa : List He.Fa := [.glo "_law_cell_at", .glo "_law_left", .glo "_law_all", .glo "common", .glo "shared", .glo "look_apart", .glo "told_rest", .glo "inverse", .glo "mixed", .glo "_law_pick", .glo "rests", .glo "_law_below", .glo "are_digits", .glo "number_told", .glo "shows_mixed", .glo "_law_gcd", .glo "_law_apart", .glo "_law_few", .glo "put_back", .glo "_law_right", .glo "_law_refused", .glo "_law_modulus", .glo "_law_moduli", .glo "law", .free "all", .free "bool", .free "dict", .free "int", .free "isinstance", .free "len", .free "max", .free "min", .free "range", .free "str", .free "tuple", .free "zip", .glo "Shared", .glo "MillError"]
def fn : List He.DefD := [⟨("_law_cell_at", none), "_law_cell_at", "_law_cell_at", defArgs (top 16), defBody (top 16), defScope (top 16), [], []⟩, ⟨("_law_left", none), "_law_left", "_law_left", defArgs (top 17), defBody (top 17), defScope (top 17), [], []⟩, ⟨("_law_all", none), "_law_all", "_law_all", defArgs (top 23), defBody (top 23), defScope (top 23), [], []⟩, ⟨("common", none), "common", "common", defArgs (top 4), defBody (top 4), defScope (top 4), [], []⟩, ⟨("shared", none), "shared", "shared", defArgs (top 5), defBody (top 5), defScope (top 5), [], []⟩, ⟨("look_apart", none), "look_apart", "look_apart", defArgs (top 6), defBody (top 6), defScope (top 6), [], []⟩, ⟨("told_rest", none), "told_rest", "told_rest", defArgs (top 9), defBody (top 9), defScope (top 9), [], []⟩, ⟨("inverse", none), "inverse", "inverse", defArgs (top 8), defBody (top 8), defScope (top 8), [], []⟩, ⟨("mixed", none), "mixed", "mixed", defArgs (top 10), defBody (top 10), defScope (top 10), [], []⟩, ⟨("_law_pick", none), "_law_pick", "_law_pick", defArgs (top 18), defBody (top 18), defScope (top 18), [], []⟩, ⟨("rests", none), "rests", "rests", defArgs (top 7), defBody (top 7), defScope (top 7), [], []⟩, ⟨("_law_below", none), "_law_below", "_law_below", defArgs (top 24), defBody (top 24), defScope (top 24), [], []⟩, ⟨("are_digits", none), "are_digits", "are_digits", defArgs (top 13), defBody (top 13), defScope (top 13), [], []⟩, ⟨("number_told", none), "number_told", "number_told", defArgs (top 11), defBody (top 11), defScope (top 11), [], []⟩, ⟨("shows_mixed", none), "shows_mixed", "shows_mixed", defArgs (top 14), defBody (top 14), defScope (top 14), [], []⟩, ⟨("_law_gcd", none), "_law_gcd", "_law_gcd", defArgs (top 19), defBody (top 19), defScope (top 19), [], []⟩, ⟨("_law_apart", none), "_law_apart", "_law_apart", defArgs (top 22), defBody (top 22), defScope (top 22), [], []⟩, ⟨("_law_few", none), "_law_few", "_law_few", defArgs (top 25), defBody (top 25), defScope (top 25), [], []⟩, ⟨("put_back", none), "put_back", "put_back", defArgs (top 12), defBody (top 12), defScope (top 12), [], []⟩, ⟨("_law_right", none), "_law_right", "_law_right", defArgs (top 27), defBody (top 27), defScope (top 27), [], []⟩, ⟨("_law_refused", none), "_law_refused", "_law_refused", defArgs (top 26), defBody (top 26), defScope (top 26), [], []⟩, ⟨("_law_modulus", none), "_law_modulus", "_law_modulus", defArgs (top 20), defBody (top 20), defScope (top 20), [], []⟩, ⟨("_law_moduli", none), "_law_moduli", "_law_moduli", defArgs (top 21), defBody (top 21), defScope (top 21), [], []⟩, ⟨("law", none), "law", "law", defArgs (top 28), defBody (top 28), defScope (top 28), [], []⟩, ⟨("Shared", some "__init__"), "__init__", "Shared.__init__", defArgs (clsAt (top 2) 0), defBody (clsAt (top 2) 0), defScope (clsAt (top 2) 0), [], []⟩]
def ex : List (PySem.W.Frag → Bool) := [fun K => oexB (fun K => He.ga K "Shared") K, fun K => initB (fun K => He.ga K "Shared") K, fun K => decide (PySem.W.findIn K (.ref (He.ga K "Shared")) "first" = some none), fun K => decide (PySem.W.findIn K (.ref (He.ga K "Shared")) "second" = some none), fun K => xfB K (He.ga K "Shared"), fun K => minitB (fun K => He.ga K "MillError") K, fun K => decide (PySem.W.exmOne K (.ref (He.ga K "Shared")) (.ref (He.ga K "Shared")) = some true)]
theorem txt {K : PySem.W.Frag} {h : Heap} {mg : Str → Option Value} (X : K.In h) (G : h.Ns mainGlobals mg) (c : SaysX fa fn ex K) : Txt K mg := {
  d_law_cell_at := c.1.def_ 0 rfl,
  g_law_cell_at := He.glo_ok X G (c.1.fact 0 rfl),
  d_law_left := c.1.def_ 1 rfl,
  g_law_left := He.glo_ok X G (c.1.fact 1 rfl),
  d_law_all := c.1.def_ 2 rfl,
  g_law_all := He.glo_ok X G (c.1.fact 2 rfl),
  d_common := c.1.def_ 3 rfl,
  g_common := He.glo_ok X G (c.1.fact 3 rfl),
  d_shared := c.1.def_ 4 rfl,
  g_shared := He.glo_ok X G (c.1.fact 4 rfl),
  d_look_apart := c.1.def_ 5 rfl,
  g_look_apart := He.glo_ok X G (c.1.fact 5 rfl),
  d_told_rest := c.1.def_ 6 rfl,
  g_told_rest := He.glo_ok X G (c.1.fact 6 rfl),
  d_inverse := c.1.def_ 7 rfl,
  g_inverse := He.glo_ok X G (c.1.fact 7 rfl),
  d_mixed := c.1.def_ 8 rfl,
  g_mixed := He.glo_ok X G (c.1.fact 8 rfl),
  d_law_pick := c.1.def_ 9 rfl,
  g_law_pick := He.glo_ok X G (c.1.fact 9 rfl),
  d_rests := c.1.def_ 10 rfl,
  g_rests := He.glo_ok X G (c.1.fact 10 rfl),
  d_law_below := c.1.def_ 11 rfl,
  g_law_below := He.glo_ok X G (c.1.fact 11 rfl),
  d_are_digits := c.1.def_ 12 rfl,
  g_are_digits := He.glo_ok X G (c.1.fact 12 rfl),
  d_number_told := c.1.def_ 13 rfl,
  g_number_told := He.glo_ok X G (c.1.fact 13 rfl),
  d_shows_mixed := c.1.def_ 14 rfl,
  g_shows_mixed := He.glo_ok X G (c.1.fact 14 rfl),
  d_law_gcd := c.1.def_ 15 rfl,
  g_law_gcd := He.glo_ok X G (c.1.fact 15 rfl),
  d_law_apart := c.1.def_ 16 rfl,
  g_law_apart := He.glo_ok X G (c.1.fact 16 rfl),
  d_law_few := c.1.def_ 17 rfl,
  g_law_few := He.glo_ok X G (c.1.fact 17 rfl),
  d_put_back := c.1.def_ 18 rfl,
  g_put_back := He.glo_ok X G (c.1.fact 18 rfl),
  d_law_right := c.1.def_ 19 rfl,
  g_law_right := He.glo_ok X G (c.1.fact 19 rfl),
  d_law_refused := c.1.def_ 20 rfl,
  g_law_refused := He.glo_ok X G (c.1.fact 20 rfl),
  d_law_modulus := c.1.def_ 21 rfl,
  g_law_modulus := He.glo_ok X G (c.1.fact 21 rfl),
  d_law_moduli := c.1.def_ 22 rfl,
  g_law_moduli := He.glo_ok X G (c.1.fact 22 rfl),
  d_law := c.1.def_ 23 rfl,
  g_law := He.glo_ok X G (c.1.fact 23 rfl),
  fr_all := He.free_ok X G (c.1.fact 24 rfl),
  fr_bool := He.free_ok X G (c.1.fact 25 rfl),
  fr_dict := He.free_ok X G (c.1.fact 26 rfl),
  fr_int := He.free_ok X G (c.1.fact 27 rfl),
  fr_isinstance := He.free_ok X G (c.1.fact 28 rfl),
  fr_len := He.free_ok X G (c.1.fact 29 rfl),
  fr_max := He.free_ok X G (c.1.fact 30 rfl),
  fr_min := He.free_ok X G (c.1.fact 31 rfl),
  fr_range := He.free_ok X G (c.1.fact 32 rfl),
  fr_str := He.free_ok X G (c.1.fact 33 rfl),
  fr_tuple := He.free_ok X G (c.1.fact 34 rfl),
  fr_zip := He.free_ok X G (c.1.fact 35 rfl),
  g_Shared := He.glo_ok X G (c.1.fact 36 rfl),
  g_MillError := He.glo_ok X G (c.1.fact 37 rfl),
  di_Shared := c.1.def_ 24 rfl,
  x_Shared := c.ex 0 rfl,
  i_Shared := c.ex 1 rfl,
  n_Shared_first := c.ex 2 rfl,
  n_Shared_second := c.ex 3 rfl,
  xf_Shared := c.ex 4 rfl,
  p_MillError := c.ex 5 rfl,
  m_Shared_Shared := c.ex 6 rfl }
variable {P : Program} {w : World} {K : PySem.W.Frag} {mg : Str → Option Value} {base : Heap}
theorem sc_init_Shared : FnScope ["self", "first", "second"] ["self", "first", "second"] (defScope (clsAt (top 2) 0)) := ⟨rfl, rfl, rfl, by decide +kernel, rfl, by decide +kernel, by decide +kernel⟩
theorem ok_init_Shared (T : Txt K mg) : InG P w K mg base 1 (He.ga K "Shared") (He.ma K (He.ga K "Shared") "__init__") ["self", "first", "second"] ["first", "second"] := by
  obtain ⟨fd, F⟩ := T.di_Shared
  exact ⟨fd, init2_ok F sc_init_Shared rfl (oexB_ok T.x_Shared) (of_decide_eq_true T.n_Shared_first) (of_decide_eq_true T.n_Shared_second) (fun cdv A outer s H E => pss_cons (ps_expr (pe_minit rfl T.g_MillError (minitB_ok T.p_MillError).1 (minitB_ok T.p_MillError).2.1 (minitB_ok T.p_MillError).2.2 (pa_cons (pe_var (i := 0) rfl (Or.inl rfl)) (pa_cons pe_str pa_nil)))) (pss_cons (ps_ost (pe_var (i := 0) rfl (Or.inl rfl)) (pe_var (i := 1) rfl (Or.inl rfl))) (pss_one (ps_ost (pe_var (i := 0) rfl (Or.inl rfl)) (pe_var (i := 2) rfl (Or.inl rfl)))))), F.bindsN fun _ _ _ _ _ _ us hl => match us, hl with | [_, _, _], _ => rfl⟩
theorem xf_Shared_first (T : Txt K mg) {e : Ex} (h : tellL [("Shared", true)] e.cls = some true) : XfC (GG K).K ((GG K).cl e.cls) ∧ PySem.W.findIn (GG K).K (.ref ((GG K).cl e.cls)) "first" = some none := by
  have e1 : e.cls = "Shared" := by
    unfold tellL at h; simp only [List.lookup] at h; split at h
    · rename_i h1; exact beq_iff_eq.mp h1
    · cases h
  rw [e1]; exact ⟨xfB_ok T.xf_Shared, of_decide_eq_true T.n_Shared_first⟩
theorem xf_Shared_second (T : Txt K mg) {e : Ex} (h : tellL [("Shared", true)] e.cls = some true) : XfC (GG K).K ((GG K).cl e.cls) ∧ PySem.W.findIn (GG K).K (.ref ((GG K).cl e.cls)) "second" = some none := by
  have e1 : e.cls = "Shared" := by
    unfold tellL at h; simp only [List.lookup] at h; split at h
    · rename_i h1; exact beq_iff_eq.mp h1
    · cases h
  rw [e1]; exact ⟨xfB_ok T.xf_Shared, of_decide_eq_true T.n_Shared_second⟩
theorem sc_law_cell_at : FnScope ["_law_script", "_law_k"] ["_law_script", "_law_k"] (defScope (top 16)) := ⟨rfl, rfl, rfl, by decide +kernel, rfl, by decide +kernel, by decide +kernel⟩
theorem ok_law_cell_at (T : Txt K mg) : FnG P w K mg base 1 2 (He.ga K "_law_cell_at") ["_law_script", "_law_k"] F_law_cell_at :=
  fnG_of T.d_law_cell_at sc_law_cell_at rfl rfl (fun _ _ _ _ _ _ us hl => match us, hl with | [_, _], _ => rfl) (fun cdv A outer s H E c hr hp =>
      (db_cons (ds_if (dt_cmp op_lt op2_lt (de_var 1) (de_len c T.fr_len (da_cons (de_var 0) da_nil))) (db_one (ds_ret (de_sbs c (de_var 0) (de_var 1)))) db_nil)
      (db_one (ds_ret de_int))))
theorem sc_law_left : FnScope ["_law_script", "_law_k", "_law_cell", "_law_seed"] ["_law_script", "_law_k"] (defScope (top 17)) := ⟨rfl, rfl, rfl, by decide +kernel, rfl, by decide +kernel, by decide +kernel⟩
theorem ok_law_left (T : Txt K mg) : FnG P w K mg base 2 2 (He.ga K "_law_left") ["_law_script", "_law_k"] F_law_left :=
  fnG_of T.d_law_left sc_law_left rfl rfl (fun _ _ _ _ _ _ us hl => match us, hl with | [_, _], _ => rfl) (fun cdv A outer s H E c hr hp =>
      (db_cons (ds_set 2 c (de_callG c (ok_law_cell_at T) hr T.g_law_cell_at (da_cons (de_var 0) (da_cons (de_mod (de_var 1) (de_max rfl T.fr_max (da_cons de_int (da_cons (de_len c T.fr_len (da_cons (de_var 0) da_nil)) da_nil)))) da_nil))))
      (db_cons (ds_set 3 c (de_mod (de_mul (de_add c (de_add c (de_mod (de_var 2) de_int) (de_mul (de_mul de_int (de_var 1)) (de_var 1))) de_int) de_int) de_int))
      (db_cons (ds_set 3 c (de_mod (de_add c (de_add c (de_mul (de_var 3) de_int) (de_mul de_int (de_var 1))) de_int) de_int))
      (db_cons (ds_if (dt_cmp op_lt op2_lt (de_var 2) (de_pow de_int de_int)) (db_one (ds_set 2 c de_int)) db_nil)
      (db_one (ds_ret (de_lstM (da_cons (de_var 2) (da_cons (de_var 3) (da_cons de_int da_nil)))))))))))
theorem sc_law_all : FnScope ["_law_moduli_here", "_law_every", "_law_modulus_here"] ["_law_moduli_here"] (defScope (top 23)) := ⟨rfl, rfl, rfl, by decide +kernel, rfl, by decide +kernel, by decide +kernel⟩
theorem ok_law_all (T : Txt K mg) : FnG P w K mg base 1 1 (He.ga K "_law_all") ["_law_moduli_here"] F_law_all :=
  fnG_of T.d_law_all sc_law_all rfl rfl (fun _ _ _ _ _ _ us hl => match us, hl with | [_], _ => rfl) (fun cdv A outer s H E c hr hp =>
      (db_cons (ds_set 1 c de_int)
      (db_cons (ds_for hp rfl (di_seq c (de_var 0)) (dg_name 2 c.nd) (calm_name 2) (db_one (ds_set 1 c (de_mul (de_var 1) (de_var 2)))))
      (db_one (ds_ret (de_var 1))))))
theorem sc_common : FnScope ["one", "other"] ["one", "other"] (defScope (top 4)) := ⟨rfl, rfl, rfl, by decide +kernel, rfl, by decide +kernel, by decide +kernel⟩
theorem ok_common (T : Txt K mg) : FnG P w K mg base 1 2 (He.ga K "common") ["one", "other"] F_common :=
  fnG_of T.d_common sc_common rfl rfl (fun _ _ _ _ _ _ us hl => match us, hl with | [_, _], _ => rfl) (fun cdv A outer s H E c hr hp =>
      (db_cons (ds_while 18446744073709551616 hp (dt_cmp op_gt op2_gt (de_var 1) de_int) (db_one (ds_par 0 1 c rfl (da_cons (de_var 1) (da_cons (de_mod (de_var 0) (de_var 1)) da_nil)))))
      (db_one (ds_ret (de_var 0)))))
theorem sc_shared : FnScope ["moduli", "i", "j"] ["moduli"] (defScope (top 5)) := ⟨rfl, rfl, rfl, by decide +kernel, rfl, by decide +kernel, by decide +kernel⟩
theorem ok_shared (T : Txt K mg) : FnG P w K mg base 2 1 (He.ga K "shared") ["moduli"] F_shared :=
  fnG_of T.d_shared sc_shared rfl rfl (fun _ _ _ _ _ _ us hl => match us, hl with | [_], _ => rfl) (fun cdv A outer s H E c hr hp =>
      (db_cons (ds_for hp rfl (di_range1 (by rfl) T.fr_range (da_cons (de_len c T.fr_len (da_cons (de_var 0) da_nil)) da_nil)) (dg_name 1 c.nd) (calm_name 1) (db_one (ds_for hp rfl (di_range2 (by rfl) T.fr_range (da_cons (de_add c (de_var 1) de_int) (da_cons (de_len c T.fr_len (da_cons (de_var 0) da_nil)) da_nil))) (dg_name 2 c.nd) (calm_name 2) (db_one (ds_if (dt_cmp op_gt op2_gt (de_callG c (ok_common T) hr T.g_common (da_cons (de_sbs c (de_var 0) (de_var 1)) (da_cons (de_sbs c (de_var 0) (de_var 2)) da_nil))) de_int) (db_one (ds_ret (de_tup (da_cons (de_var 1) (da_cons (de_var 2) da_nil))))) db_nil)))))
      (db_one (ds_ret de_non))))
theorem sc_look_apart : FnScope ["moduli", "pair"] ["moduli"] (defScope (top 6)) := ⟨rfl, rfl, rfl, by decide +kernel, rfl, by decide +kernel, by decide +kernel⟩
theorem ok_look_apart (T : Txt K mg) : FnG P w K mg base 3 1 (He.ga K "look_apart") ["moduli"] F_look_apart :=
  fnG_of T.d_look_apart sc_look_apart rfl rfl (fun _ _ _ _ _ _ us hl => match us, hl with | [_], _ => rfl) (fun cdv A outer s H E c hr hp =>
      (db_cons (ds_set 1 c (de_callG c (ok_shared T) hr T.g_shared (da_cons (de_var 0) da_nil)))
      (db_one (ds_if (dt_cmp ok_isn op2_isn (de_var 1) de_non) (db_one (ds_raiseG c rfl (oexB_ok T.x_Shared) (initB_ok T.i_Shared) (ok_init_Shared T) hr T.g_Shared (da_cons (de_sbs c (de_var 1) de_int) (da_cons (de_sbs c (de_var 1) de_int) da_nil)))) db_nil))))
theorem sc_told_rest : FnScope ["moduli", "digits", "modulus", "total", "weight", "digit", "other"] ["moduli", "digits", "modulus"] (defScope (top 9)) := ⟨rfl, rfl, rfl, by decide +kernel, rfl, by decide +kernel, by decide +kernel⟩
theorem ok_told_rest (T : Txt K mg) : FnG P w K mg base 1 3 (He.ga K "told_rest") ["moduli", "digits", "modulus"] F_told_rest :=
  fnG_of T.d_told_rest sc_told_rest rfl rfl (fun _ _ _ _ _ _ us hl => match us, hl with | [_, _, _], _ => rfl) (fun cdv A outer s H E c hr hp =>
      (db_cons (ds_asg (de_tup (da_cons de_int (da_cons de_int da_nil))) (dg_tup c rfl (dgs_cons (dg_name 3 c.nd) (dgs_cons (dg_name 4 c.nd) dgs_nil))) (calm_tup (calm_cons (calm_name 3) (calm_cons (calm_name 4) calm_nil))))
      (db_cons (ds_for hp rfl (di_zip c (by rfl) T.fr_zip (da_cons (de_var 1) (da_cons (de_var 0) da_nil))) (dg_tup c rfl (dgs_cons (dg_name 5 c.nd) (dgs_cons (dg_name 6 c.nd) dgs_nil))) (calm_tup (calm_cons (calm_name 5) (calm_cons (calm_name 6) calm_nil))) (db_cons (ds_set 3 c (de_mod (de_add c (de_var 3) (de_mul (de_var 5) (de_var 4))) (de_var 2)))
      (db_one (ds_set 4 c (de_mod (de_mul (de_var 4) (de_var 6)) (de_var 2))))))
      (db_one (ds_ret (de_tup (da_cons (de_var 3) (da_cons (de_var 4) da_nil))))))))
theorem sc_inverse : FnScope ["number", "modulus", "one", "other", "before", "now", "many"] ["number", "modulus"] (defScope (top 8)) := ⟨rfl, rfl, rfl, by decide +kernel, rfl, by decide +kernel, by decide +kernel⟩
theorem ok_inverse (T : Txt K mg) : FnG P w K mg base 1 2 (He.ga K "inverse") ["number", "modulus"] F_inverse :=
  fnG_of T.d_inverse sc_inverse rfl rfl (fun _ _ _ _ _ _ us hl => match us, hl with | [_, _], _ => rfl) (fun cdv A outer s H E c hr hp =>
      (db_cons (ds_par 2 3 c rfl (da_cons (de_var 1) (da_cons (de_mod (de_var 0) (de_var 1)) da_nil)))
      (db_cons (ds_asg (de_tup (da_cons de_int (da_cons de_int da_nil))) (dg_tup c rfl (dgs_cons (dg_name 4 c.nd) (dgs_cons (dg_name 5 c.nd) dgs_nil))) (calm_tup (calm_cons (calm_name 4) (calm_cons (calm_name 5) calm_nil))))
      (db_cons (ds_while 18446744073709551616 hp (dt_cmp op_gt op2_gt (de_var 3) de_int) (db_cons (ds_set 6 c (de_fdiv (de_var 2) (de_var 3)))
      (db_cons (ds_par 2 3 c rfl (da_cons (de_var 3) (da_cons (de_sub (de_var 2) (de_mul (de_var 6) (de_var 3))) da_nil)))
      (db_one (ds_par 4 5 c rfl (da_cons (de_var 5) (da_cons (de_sub (de_var 4) (de_mul (de_var 6) (de_var 5))) da_nil)))))))
      (db_one (ds_ret (de_mod (de_var 4) (de_var 1))))))))
theorem sc_mixed : FnScope ["moduli", "some", "digits", "modulus", "rest", "total", "weight"] ["moduli", "some"] (defScope (top 10)) := ⟨rfl, rfl, rfl, by decide +kernel, rfl, by decide +kernel, by decide +kernel⟩
theorem ok_mixed (T : Txt K mg) : FnG P w K mg base 4 2 (He.ga K "mixed") ["moduli", "some"] F_mixed :=
  fnG_of T.d_mixed sc_mixed rfl rfl (fun _ _ _ _ _ _ us hl => match us, hl with | [_, _], _ => rfl) (fun cdv A outer s H E c hr hp =>
      (db_cons (ds_expr (de_callG c (ok_look_apart T) hr T.g_look_apart (da_cons (de_var 0) da_nil)))
      (db_cons (ds_set 2 c (de_lstM da_nil))
      (db_cons (ds_for hp rfl (di_zip c (by rfl) T.fr_zip (da_cons (de_var 0) (da_cons (de_var 1) da_nil))) (dg_tup c rfl (dgs_cons (dg_name 3 c.nd) (dgs_cons (dg_name 4 c.nd) dgs_nil))) (calm_tup (calm_cons (calm_name 3) (calm_cons (calm_name 4) calm_nil))) (db_cons (ds_asg (de_callG c (ok_told_rest T) hr T.g_told_rest (da_cons (de_var 0) (da_cons (de_var 2) (da_cons (de_var 3) da_nil)))) (dg_tup c rfl (dgs_cons (dg_name 5 c.nd) (dgs_cons (dg_name 6 c.nd) dgs_nil))) (calm_tup (calm_cons (calm_name 5) (calm_cons (calm_name 6) calm_nil))))
      (db_one (ds_expr (de_append c (de_var 2) (da_cons (de_mod (de_mul (de_sub (de_var 4) (de_var 5)) (de_callG c (ok_inverse T) hr T.g_inverse (da_cons (de_var 6) (da_cons (de_var 3) da_nil)))) (de_var 3)) da_nil))))))
      (db_one (ds_ret (de_tuple c T.fr_tuple (da_cons (de_var 2) da_nil))))))))
theorem sc_law_pick : FnScope ["_law_left_here", "_law_many", "_law_digit"] ["_law_left_here", "_law_many"] (defScope (top 18)) := ⟨rfl, rfl, rfl, by decide +kernel, rfl, by decide +kernel, by decide +kernel⟩
theorem ok_law_pick (T : Txt K mg) : FnG P w K mg base 1 2 (He.ga K "_law_pick") ["_law_left_here", "_law_many"] F_law_pick :=
  fnG_of T.d_law_pick sc_law_pick rfl rfl (fun _ _ _ _ _ _ us hl => match us, hl with | [_, _], _ => rfl) (fun cdv A outer s H E c hr hp =>
      (db_cons (ds_if (DW.t (dw_and (dt_cmp op_gt op2_gt (de_sbs c (de_var 0) de_int) de_int) (dw_and1 (dt_cmp op_gt op2_gt (de_sbs c (de_var 0) de_int) de_int)))) (db_cons (ds_set 2 c (de_mod (de_sbs c (de_var 0) de_int) (de_var 1)))
      (db_cons (ds_asg (de_fdiv (de_sbs c (de_var 0) de_int) (de_var 1)) (dg_ix c (de_var 0) de_int) (calm_ix _ _))
      (db_cons (ds_asg (de_sub (de_sbs c (de_var 0) de_int) de_int) (dg_ix c (de_var 0) de_int) (calm_ix _ _))
      (db_one (ds_ret (de_var 2)))))) db_nil)
      (db_cons (ds_asg (de_mod (de_add c (de_mul (de_sbs c (de_var 0) de_int) de_int) de_int) de_int) (dg_ix c (de_var 0) de_int) (calm_ix _ _))
      (db_one (ds_ret (de_mod (de_mod (de_mul (de_sbs c (de_var 0) de_int) (de_sbs c (de_var 0) de_int)) de_int) (de_var 1)))))))
theorem sc_rests : FnScope ["moduli", "number", "modulus"] ["moduli", "number"] (defScope (top 7)) := ⟨rfl, rfl, rfl, by decide +kernel, rfl, by decide +kernel, by decide +kernel⟩
theorem ok_rests (T : Txt K mg) : FnG P w K mg base 1 2 (He.ga K "rests") ["moduli", "number"] F_rests :=
  fnG_of T.d_rests sc_rests rfl rfl (fun _ _ _ _ _ _ us hl => match us, hl with | [_, _], _ => rfl) (fun cdv A outer s H E c hr hp =>
      (db_one (ds_ret (de_tuple c T.fr_tuple (da_cons (de_lc (own := [("modulus", 2)]) c rfl (di_seq c (de_var 0)) (blk_ok (by kernel_rfl)) (fun s1 H1 C1 cl1 fp1 => gw_name 2 c.nd) (fun s1 H1 C1 cl1 fp1 => dts_nil) (fun s1 H1 C1 cl1 fp1 => (de_mod (de_var 1) (de_var 2)))).1 da_nil)))))
theorem sc_law_below : FnScope ["_law_left_here", "_law_every", "_law_far", "_law_k"] ["_law_left_here", "_law_every"] (defScope (top 24)) := ⟨rfl, rfl, rfl, by decide +kernel, rfl, by decide +kernel, by decide +kernel⟩
theorem ok_law_below (T : Txt K mg) : FnG P w K mg base 2 2 (He.ga K "_law_below") ["_law_left_here", "_law_every"] F_law_below :=
  fnG_of T.d_law_below sc_law_below rfl rfl (fun _ _ _ _ _ _ us hl => match us, hl with | [_, _], _ => rfl) (fun cdv A outer s H E c hr hp =>
      (db_cons (ds_set 2 c de_int)
      (db_cons (ds_for hp rfl (di_range1 (by rfl) T.fr_range (da_cons (de_add c de_int (de_fdiv (de_len c T.fr_len (da_cons (de_strI T.fr_str (da_cons (de_var 1) da_nil)) da_nil)) de_int)) da_nil)) (dg_name 3 c.nd) (calm_name 3) (db_one (ds_set 2 c (de_add c (de_mul (de_var 2) (de_pow de_int de_int)) (de_callG c (ok_law_pick T) hr T.g_law_pick (da_cons (de_var 0) (da_cons (de_pow de_int de_int) da_nil)))))))
      (db_one (ds_ret (de_sbs c (de_lst (da_cons de_int (da_cons (de_sub (de_var 1) de_int) (da_cons (de_fdiv (de_var 1) de_int) (da_cons (de_mod (de_var 2) (de_var 1)) (da_cons (de_mod (de_var 2) (de_var 1)) (da_cons (de_mod de_int (de_var 1)) da_nil))))))) (de_callG c (ok_law_pick T) hr T.g_law_pick (da_cons (de_var 0) (da_cons de_int da_nil)))))))))
theorem sc_are_digits : FnScope ["moduli", "thing", "digit", "modulus"] ["moduli", "thing"] (defScope (top 13)) := ⟨rfl, rfl, rfl, by decide +kernel, rfl, by decide +kernel, by decide +kernel⟩
theorem ok_are_digits (T : Txt K mg) : FnG P w K mg base 1 2 (He.ga K "are_digits") ["moduli", "thing"] F_are_digits :=
  fnG_of T.d_are_digits sc_are_digits rfl rfl (fun _ _ _ _ _ _ us hl => match us, hl with | [_, _], _ => rfl) (fun cdv A outer s H E c hr hp =>
      (db_cons (ds_if (DW.t (dw_or (dt_not (dt_val (de_isa c (de_var 1) (by decide) (by rfl) T.fr_isinstance (by rfl) T.fr_tuple boot_tuple))) (dw_or1 (dt_cmp (ok_ne c) op2_ne (de_len c T.fr_len (da_cons (de_var 1) da_nil)) (de_len c T.fr_len (da_cons (de_var 0) da_nil)))))) (db_one (ds_ret de_bl)) db_nil)
      (db_cons (ds_if (dt_not (dt_val (de_all c rfl T.fr_all (da_cons (de_lc (own := [("digit", 2)]) c rfl (di_seq c (de_var 1)) (blk_ok (by kernel_rfl)) (fun s2 H2 C2 cl2 fp2 => gw_name 2 c.nd) (fun s2 H2 C2 cl2 fp2 => dts_nil) (fun s2 H2 C2 cl2 fp2 => (de_and (de_isa (c.blk s2 H2 _ _ fp2) (de_var 2) (by decide) (by rfl) T.fr_isinstance (by rfl) T.fr_int boot_int) (de_one (de_not (de_isa (c.blk s2 H2 _ _ fp2) (de_var 2) (by decide) (by rfl) T.fr_isinstance (by rfl) T.fr_bool boot_bool)))))).1 da_nil)))) (db_one (ds_ret de_bl)) db_nil)
      (db_one (ds_ret (de_all c rfl T.fr_all (da_cons (de_lc (own := [("digit", 2), ("modulus", 3)]) c rfl (di_zip c (by rfl) T.fr_zip (da_cons (de_var 1) (da_cons (de_var 0) da_nil))) (blk_ok (by kernel_rfl)) (fun s3 H3 C3 cl3 fp3 => gw_tup rfl rfl (gws_cons (gw_name 2 c.nd) (gws_cons (gw_name 3 c.nd) gws_nil))) (fun s3 H3 C3 cl3 fp3 => dts_nil) (fun s3 H3 C3 cl3 fp3 => (de_chain op_le op_lt op2_le op2_lt de_int (de_var 2) (de_var 3)).1)).1 da_nil)))))))
theorem sc_number_told : FnScope ["moduli", "digits", "total", "weight", "digit", "modulus"] ["moduli", "digits"] (defScope (top 11)) := ⟨rfl, rfl, rfl, by decide +kernel, rfl, by decide +kernel, by decide +kernel⟩
theorem ok_number_told (T : Txt K mg) : FnG P w K mg base 1 2 (He.ga K "number_told") ["moduli", "digits"] F_number_told :=
  fnG_of T.d_number_told sc_number_told rfl rfl (fun _ _ _ _ _ _ us hl => match us, hl with | [_, _], _ => rfl) (fun cdv A outer s H E c hr hp =>
      (db_cons (ds_asg (de_tup (da_cons de_int (da_cons de_int da_nil))) (dg_tup c rfl (dgs_cons (dg_name 2 c.nd) (dgs_cons (dg_name 3 c.nd) dgs_nil))) (calm_tup (calm_cons (calm_name 2) (calm_cons (calm_name 3) calm_nil))))
      (db_cons (ds_for hp rfl (di_zip c (by rfl) T.fr_zip (da_cons (de_var 1) (da_cons (de_var 0) da_nil))) (dg_tup c rfl (dgs_cons (dg_name 4 c.nd) (dgs_cons (dg_name 5 c.nd) dgs_nil))) (calm_tup (calm_cons (calm_name 4) (calm_cons (calm_name 5) calm_nil))) (db_cons (ds_set 2 c (de_add c (de_var 2) (de_mul (de_var 4) (de_var 3))))
      (db_one (ds_set 3 c (de_mul (de_var 3) (de_var 5))))))
      (db_one (ds_ret (de_var 2))))))
theorem sc_shows_mixed : FnScope ["moduli", "some", "digits"] ["moduli", "some", "digits"] (defScope (top 14)) := ⟨rfl, rfl, rfl, by decide +kernel, rfl, by decide +kernel, by decide +kernel⟩
theorem ok_shows_mixed (T : Txt K mg) : FnG P w K mg base 3 3 (He.ga K "shows_mixed") ["moduli", "some", "digits"] F_shows_mixed :=
  fnG_of T.d_shows_mixed sc_shows_mixed rfl rfl (fun _ _ _ _ _ _ us hl => match us, hl with | [_, _, _], _ => rfl) (fun cdv A outer s H E c hr hp =>
      (db_cons (ds_if (DW.t (dw_or (dt_cmp ok_isn op2_isn (de_callG c (ok_shared T) hr T.g_shared (da_cons (de_var 0) da_nil)) de_non) (dw_or1 (dt_not (dt_val (de_callG c (ok_are_digits T) hr T.g_are_digits (da_cons (de_var 0) (da_cons (de_var 2) da_nil)))))))) (db_one (ds_ret de_bl)) db_nil)
      (db_one (ds_ret (de_cmp (ok_eq c) op2_eq (de_callG c (ok_rests T) hr T.g_rests (da_cons (de_var 0) (da_cons (de_callG c (ok_number_told T) hr T.g_number_told (da_cons (de_var 0) (da_cons (de_var 2) da_nil))) da_nil))) (de_tuple c T.fr_tuple (da_cons (de_var 1) da_nil)))))))
theorem sc_law_gcd : FnScope ["_law_one", "_law_other", "_law_kept"] ["_law_one", "_law_other"] (defScope (top 19)) := ⟨rfl, rfl, rfl, by decide +kernel, rfl, by decide +kernel, by decide +kernel⟩
theorem ok_law_gcd (T : Txt K mg) : FnG P w K mg base 1 2 (He.ga K "_law_gcd") ["_law_one", "_law_other"] F_law_gcd :=
  fnG_of T.d_law_gcd sc_law_gcd rfl rfl (fun _ _ _ _ _ _ us hl => match us, hl with | [_, _], _ => rfl) (fun cdv A outer s H E c hr hp =>
      (db_cons (ds_while 18446744073709551616 hp (dt_cmp op_gt op2_gt (de_var 1) de_int) (db_cons (ds_set 2 c (de_mod (de_var 0) (de_var 1)))
      (db_cons (ds_set 0 c (de_var 1))
      (db_one (ds_set 1 c (de_var 2))))))
      (db_one (ds_ret (de_var 0)))))
theorem sc_law_apart : FnScope ["_law_some", "_law_kept", "_law_modulus_here", "_law_other"] ["_law_some"] (defScope (top 22)) := ⟨rfl, rfl, rfl, by decide +kernel, rfl, by decide +kernel, by decide +kernel⟩
theorem ok_law_apart (T : Txt K mg) : FnG P w K mg base 2 1 (He.ga K "_law_apart") ["_law_some"] F_law_apart :=
  fnG_of T.d_law_apart sc_law_apart rfl rfl (fun _ _ _ _ _ _ us hl => match us, hl with | [_], _ => rfl) (fun cdv A outer s H E c hr hp =>
      (db_cons (ds_set 1 c (de_lstM da_nil))
      (db_cons (ds_for hp rfl (di_seq c (de_var 0)) (dg_name 2 c.nd) (calm_name 2) (db_one (ds_if (dt_val (de_all c rfl T.fr_all (da_cons (de_lc (own := [("_law_other", 3)]) c rfl (di_seq c (de_var 1)) (blk_ok (by kernel_rfl)) (fun s4 H4 C4 cl4 fp4 => gw_name 3 c.nd) (fun s4 H4 C4 cl4 fp4 => dts_nil) (fun s4 H4 C4 cl4 fp4 => (de_cmp (ok_eq (c.blk s4 H4 _ _ fp4)) op2_eq (de_callG (c.blk s4 H4 _ _ fp4) (ok_law_gcd T) hr T.g_law_gcd (da_cons (de_var 2) (da_cons (de_var 3) da_nil))) de_int))).1 da_nil))) (db_one (ds_expr (de_append c (de_var 1) (da_cons (de_var 2) da_nil)))) db_nil)))
      (db_one (ds_ret (de_tuple c T.fr_tuple (da_cons (de_var 1) da_nil)))))))
theorem sc_law_few : FnScope ["_law_left_here", "_law_found", "_law_k", "_law_modulus_here", "_law_other"] ["_law_left_here"] (defScope (top 25)) := ⟨rfl, rfl, rfl, by decide +kernel, rfl, by decide +kernel, by decide +kernel⟩
theorem ok_law_few (T : Txt K mg) : FnG P w K mg base 2 1 (He.ga K "_law_few") ["_law_left_here"] F_law_few :=
  fnG_of T.d_law_few sc_law_few rfl rfl (fun _ _ _ _ _ _ us hl => match us, hl with | [_], _ => rfl) (fun cdv A outer s H E c hr hp =>
      (db_cons (ds_set 1 c (de_tup da_nil))
      (db_cons (ds_for hp rfl (di_range1 (by rfl) T.fr_range (da_cons de_int da_nil)) (dg_name 2 c.nd) (calm_name 2) (db_cons (ds_set 3 c (de_add c de_int (de_callG c (ok_law_pick T) hr T.g_law_pick (da_cons (de_var 0) (da_cons de_int da_nil)))))
      (db_one (ds_if (DW.t (dw_and (dt_cmp op_le op2_le (de_mul (de_callG c (ok_law_all T) hr T.g_law_all (da_cons (de_var 1) da_nil)) (de_var 3)) de_int) (dw_and1 (dt_val (de_all c rfl T.fr_all (da_cons (de_lc (own := [("_law_other", 4)]) c rfl (di_seq c (de_var 1)) (blk_ok (by kernel_rfl)) (fun s5 H5 C5 cl5 fp5 => gw_name 4 c.nd) (fun s5 H5 C5 cl5 fp5 => dts_nil) (fun s5 H5 C5 cl5 fp5 => (de_cmp (ok_eq (c.blk s5 H5 _ _ fp5)) op2_eq (de_callG (c.blk s5 H5 _ _ fp5) (ok_law_gcd T) hr T.g_law_gcd (da_cons (de_var 3) (da_cons (de_var 4) da_nil))) de_int))).1 da_nil)))))) (db_one (ds_set 1 c (de_add c (de_var 1) (de_tup (da_cons (de_var 3) da_nil))))) db_nil))))
      (db_one (ds_ret (de_var 1))))))
theorem sc_put_back : FnScope ["moduli", "some"] ["moduli", "some"] (defScope (top 12)) := ⟨rfl, rfl, rfl, by decide +kernel, rfl, by decide +kernel, by decide +kernel⟩
theorem ok_put_back (T : Txt K mg) : FnG P w K mg base 5 2 (He.ga K "put_back") ["moduli", "some"] F_put_back :=
  fnG_of T.d_put_back sc_put_back rfl rfl (fun _ _ _ _ _ _ us hl => match us, hl with | [_, _], _ => rfl) (fun cdv A outer s H E c hr hp =>
      (db_one (ds_ret (de_callG c (ok_number_told T) hr T.g_number_told (da_cons (de_var 0) (da_cons (de_callG c (ok_mixed T) hr T.g_mixed (da_cons (de_var 0) (da_cons (de_var 1) da_nil))) da_nil))))))
theorem sc_law_right : FnScope ["_law_left_here", "_law_moduli_here", "_law_one", "_law_other", "_law_every", "_law_first", "_law_second", "_law_number", "_law_way", "_law_some", "_law_a", "_law_b", "_law_modulus_here", "_law_order", "_law_k", "_law_digits", "_law_weight", "_law_digit"] ["_law_left_here", "_law_moduli_here", "_law_one", "_law_other"] (defScope (top 27)) := ⟨rfl, rfl, rfl, by decide +kernel, rfl, by decide +kernel, by decide +kernel⟩
theorem ok_law_right (T : Txt K mg) : FnG P w K mg base 6 4 (He.ga K "_law_right") ["_law_left_here", "_law_moduli_here", "_law_one", "_law_other"] F_law_right :=
  fnG_of T.d_law_right sc_law_right rfl rfl (fun _ _ _ _ _ _ us hl => match us, hl with | [_, _, _, _], _ => rfl) (fun cdv A outer s H E c hr hp =>
      (db_cons (ds_set 4 c (de_callG c (ok_law_all T) hr T.g_law_all (da_cons (de_var 1) da_nil)))
      (db_cons (ds_asg (de_tup (da_cons (de_callG c (ok_rests T) hr T.g_rests (da_cons (de_var 1) (da_cons (de_var 2) da_nil))) (da_cons (de_callG c (ok_rests T) hr T.g_rests (da_cons (de_var 1) (da_cons (de_var 3) da_nil))) da_nil))) (dg_tup c rfl (dgs_cons (dg_name 5 c.nd) (dgs_cons (dg_name 6 c.nd) dgs_nil))) (calm_tup (calm_cons (calm_name 5) (calm_cons (calm_name 6) calm_nil))))
      (db_cons (ds_for hp rfl (di_seq c (de_tup (da_cons (de_tup (da_cons (de_add c (de_var 2) (de_var 3)) (da_cons de_int da_nil))) (da_cons (de_tup (da_cons (de_sub (de_var 2) (de_var 3)) (da_cons de_int da_nil))) (da_cons (de_tup (da_cons (de_mul (de_var 2) (de_var 3)) (da_cons de_int da_nil))) da_nil))))) (dg_tup c rfl (dgs_cons (dg_name 7 c.nd) (dgs_cons (dg_name 8 c.nd) dgs_nil))) (calm_tup (calm_cons (calm_name 7) (calm_cons (calm_name 8) calm_nil))) (db_cons (ds_set 9 c (de_lstM da_nil))
      (db_cons (ds_for hp rfl (di_zip3 c (by rfl) T.fr_zip (da_cons (de_var 5) (da_cons (de_var 6) (da_cons (de_var 1) da_nil)))) (dg_tup c rfl (dgs_cons (dg_name 10 c.nd) (dgs_cons (dg_name 11 c.nd) (dgs_cons (dg_name 12 c.nd) dgs_nil)))) (calm_tup (calm_cons (calm_name 10) (calm_cons (calm_name 11) (calm_cons (calm_name 12) calm_nil)))) (db_one (ds_expr (de_append c (de_var 9) (da_cons (de_mod (de_sbs c (de_lst (da_cons (de_add c (de_var 10) (de_var 11)) (da_cons (de_sub (de_var 10) (de_var 11)) (da_cons (de_mul (de_var 10) (de_var 11)) da_nil)))) (de_var 8)) (de_var 12)) da_nil)))))
      (db_one (ds_if (DW.t (dw_or (dt_cmp (ok_ne c) op2_ne (de_callG c (ok_rests T) hr T.g_rests (da_cons (de_var 1) (da_cons (de_mod (de_var 7) (de_var 4)) da_nil))) (de_tuple c T.fr_tuple (da_cons (de_var 9) da_nil))) (dw_or1 (dt_cmp (ok_ne c) op2_ne (de_callG c (ok_put_back T) hr T.g_put_back (da_cons (de_var 1) (da_cons (de_tuple c T.fr_tuple (da_cons (de_var 9) da_nil)) da_nil))) (de_mod (de_var 7) (de_var 4)))))) (db_one (ds_ret de_bl)) db_nil)))))
      (db_cons (ds_set 13 c (de_lstM da_nil))
      (db_cons (ds_for hp rfl (di_range1 (by rfl) T.fr_range (da_cons (de_len c T.fr_len (da_cons (de_var 1) da_nil)) da_nil)) (dg_name 14 c.nd) (calm_name 14) (db_one (ds_expr (de_insert c (de_var 13) (da_cons (de_callG c (ok_law_pick T) hr T.g_law_pick (da_cons (de_var 0) (da_cons (de_add c (de_var 14) de_int) da_nil))) (da_cons (de_var 14) da_nil))))))
      (db_cons (ds_if (dt_cmp (ok_ne c) op2_ne (de_callG c (ok_put_back T) hr T.g_put_back (da_cons (de_tuple c T.fr_tuple (da_cons (de_lc (own := [("_law_k", 14)]) c rfl (di_seq c (de_var 13)) (blk_ok (by kernel_rfl)) (fun s7 H7 C7 cl7 fp7 => gw_name 14 c.nd) (fun s7 H7 C7 cl7 fp7 => dts_nil) (fun s7 H7 C7 cl7 fp7 => (de_sbs (c.blk s7 H7 _ _ fp7) (de_var 1) (de_var 14)))).1 da_nil)) (da_cons (de_tuple c T.fr_tuple (da_cons (de_lc (own := [("_law_k", 14)]) c rfl (di_seq c (de_var 13)) (blk_ok (by kernel_rfl)) (fun s6 H6 C6 cl6 fp6 => gw_name 14 c.nd) (fun s6 H6 C6 cl6 fp6 => dts_nil) (fun s6 H6 C6 cl6 fp6 => (de_sbs (c.blk s6 H6 _ _ fp6) (de_var 5) (de_var 14)))).1 da_nil)) da_nil))) (de_var 2)) (db_one (ds_ret de_bl)) db_nil)
      (db_cons (ds_set 15 c (de_callG c (ok_mixed T) hr T.g_mixed (da_cons (de_var 1) (da_cons (de_var 5) da_nil))))
      (db_cons (ds_asg (de_tup (da_cons de_int (da_cons de_int da_nil))) (dg_tup c rfl (dgs_cons (dg_name 16 c.nd) (dgs_cons (dg_name 7 c.nd) dgs_nil))) (calm_tup (calm_cons (calm_name 16) (calm_cons (calm_name 7) calm_nil))))
      (db_cons (ds_for hp rfl (di_zip c (by rfl) T.fr_zip (da_cons (de_var 15) (da_cons (de_var 1) da_nil))) (dg_tup c rfl (dgs_cons (dg_name 17 c.nd) (dgs_cons (dg_name 12 c.nd) dgs_nil))) (calm_tup (calm_cons (calm_name 17) (calm_cons (calm_name 12) calm_nil))) (db_cons (ds_set 7 c (de_add c (de_var 7) (de_mul (de_var 17) (de_var 16))))
      (db_cons (ds_set 16 c (de_mul (de_var 16) (de_var 12)))
      (db_one (ds_if (dt_not (de_chain op_le op_lt op2_le op2_lt de_int (de_var 17) (de_var 12)).2) (db_one (ds_ret de_bl)) db_nil)))))
      (db_one (ds_ret (de_and (de_cmp (ok_eq c) op2_eq (de_var 7) (de_var 2)) (de_one (de_cmp ok_is op2_is (de_callG c (ok_shows_mixed T) hr T.g_shows_mixed (da_cons (de_var 1) (da_cons (de_var 5) (da_cons (de_var 15) da_nil)))) de_bl)))))))))))))))
theorem sc_law_refused : FnScope ["_law_way", "_law_moduli_here", "_law_some", "_law_pair", "e"] ["_law_way", "_law_moduli_here", "_law_some"] (defScope (top 26)) := ⟨rfl, rfl, rfl, by decide +kernel, rfl, by decide +kernel, by decide +kernel⟩
theorem ok_law_refused (T : Txt K mg) : FnG P w K mg base 6 3 (He.ga K "_law_refused") ["_law_way", "_law_moduli_here", "_law_some"] F_law_refused :=
  fnG_of T.d_law_refused sc_law_refused rfl rfl (fun _ _ _ _ _ _ us hl => match us, hl with | [_, _, _], _ => rfl) (fun cdv A outer s H E c hr hp =>
      (db_cons (ds_set 3 c de_non)
      (db_cons (ds_try (t := (tellL [("Shared", true)])) 4 c rfl rfl rfl ⟨rfl, by decide, .inl T.g_Shared⟩ (tells_cons (of_decide_eq_true T.m_Shared_Shared) tells_nil) (fun W2 pn2 xe2 c2 hp2 => (db_one (ds_if (dt_cmp (ok_eq c2) op2_eq (de_var 0) de_int) (db_one (ds_expr (de_callG c2 (ok_mixed T) hr T.g_mixed (da_cons (de_var 1) (da_cons (de_var 2) da_nil))))) (db_one (ds_expr (de_callG c2 (ok_put_back T) hr T.g_put_back (da_cons (de_var 1) (da_cons (de_var 2) da_nil)))))))) (fun a oe cls dd pn e hz hv ht c3 => (db_one (ds_set 3 c3 (de_tup (da_cons (de_xf rfl (fun _ => xf_Shared_first T ht) hz hv) (da_cons (de_xf rfl (fun _ => xf_Shared_second T ht) hz hv) da_nil)))))))
      (db_one (ds_ret (de_var 3))))))
theorem sc_law_modulus : FnScope ["_law_left_here", "_law_some"] ["_law_left_here"] (defScope (top 20)) := ⟨rfl, rfl, rfl, by decide +kernel, rfl, by decide +kernel, by decide +kernel⟩
theorem ok_law_modulus (T : Txt K mg) : FnG P w K mg base 2 1 (He.ga K "_law_modulus") ["_law_left_here"] F_law_modulus :=
  fnG_of T.d_law_modulus sc_law_modulus rfl rfl (fun _ _ _ _ _ _ us hl => match us, hl with | [_], _ => rfl) (fun cdv A outer s H E c hr hp =>
      (db_cons (ds_set 1 c (de_lst (da_cons (de_add c de_int (de_callG c (ok_law_pick T) hr T.g_law_pick (da_cons (de_var 0) (da_cons de_int da_nil)))) (da_cons (de_add c de_int (de_callG c (ok_law_pick T) hr T.g_law_pick (da_cons (de_var 0) (da_cons de_int da_nil)))) (da_cons (de_add c de_int (de_callG c (ok_law_pick T) hr T.g_law_pick (da_cons (de_var 0) (da_cons de_int da_nil)))) (da_cons de_int (da_cons (de_pow de_int de_int) (da_cons (de_pow de_int de_int) da_nil))))))))
      (db_one (ds_ret (de_sbs c (de_var 1) (de_callG c (ok_law_pick T) hr T.g_law_pick (da_cons (de_var 0) (da_cons de_int da_nil))))))))
theorem sc_law_moduli : FnScope ["_law_left_here", "_law_most", "_law_k"] ["_law_left_here"] (defScope (top 21)) := ⟨rfl, rfl, rfl, by decide +kernel, rfl, by decide +kernel, by decide +kernel⟩
theorem ok_law_moduli (T : Txt K mg) : FnG P w K mg base 3 1 (He.ga K "_law_moduli") ["_law_left_here"] F_law_moduli :=
  fnG_of T.d_law_moduli sc_law_moduli rfl rfl (fun _ _ _ _ _ _ us hl => match us, hl with | [_], _ => rfl) (fun cdv A outer s H E c hr hp =>
      (db_cons (ds_set 1 c (de_sbs c (de_lst (da_cons de_int (da_cons de_int da_nil))) (de_int1 T.fr_int (da_cons (de_cmp (ok_eq c) op2_eq (de_callG c (ok_law_pick T) hr T.g_law_pick (da_cons (de_var 0) (da_cons de_int da_nil))) de_int) da_nil))))
      (db_one (ds_ret (de_tuple c T.fr_tuple (da_cons (de_lc (own := [("_law_k", 2)]) c rfl (di_range1 (by rfl) T.fr_range (da_cons (de_add c de_int (de_callG c (ok_law_pick T) hr T.g_law_pick (da_cons (de_var 0) (da_cons (de_var 1) da_nil)))) da_nil)) (blk_ok (by kernel_rfl)) (fun s8 H8 C8 cl8 fp8 => gw_name 2 c.nd) (fun s8 H8 C8 cl8 fp8 => dts_nil) (fun s8 H8 C8 cl8 fp8 => (de_callG (c.blk s8 H8 _ _ fp8) (ok_law_modulus T) hr T.g_law_modulus (da_cons (de_var 0) da_nil)))).1 da_nil))))))
theorem sc_law : FnScope ["_law_script", "_law_k", "_law_left_here", "_law_moduli_here", "_law_every", "_law_one", "_law_other", "_law_known", "_law_told", "_law_at", "_law_more", "_law_some", "_law_way", "_law_number"] ["_law_script"] (defScope (top 28)) := ⟨rfl, rfl, rfl, by decide +kernel, rfl, by decide +kernel, by decide +kernel⟩
theorem ok_law (T : Txt K mg) : FnL P w K mg 7 1 (He.ga K "law") ["_law_script"] F_law :=
  fnL_of T.d_law sc_law rfl rfl (fun _ _ _ _ _ _ us hl => match us, hl with | [_], _ => rfl) (fun base cdv A outer s H E c hr hp =>
      (db_cons (ds_for hp rfl (di_range1 (by rfl) T.fr_range (da_cons (de_add c de_int (de_min rfl T.fr_min (da_cons de_int (da_cons (de_len c T.fr_len (da_cons (de_var 0) da_nil)) da_nil)))) da_nil)) (dg_name 1 c.nd) (calm_name 1) (db_cons (ds_set 2 c (de_callG c (ok_law_left T) hr T.g_law_left (da_cons (de_var 0) (da_cons (de_var 1) da_nil))))
      (db_cons (ds_set 3 c (de_sbs c (de_lst (da_cons (de_callG c (ok_law_apart T) hr T.g_law_apart (da_cons (de_slice c (de_callG c (ok_law_moduli T) hr T.g_law_moduli (da_cons (de_var 2) da_nil)) dp_no (dp_at de_int)) da_nil)) (da_cons (de_callG c (ok_law_few T) hr T.g_law_few (da_cons (de_var 2) da_nil)) da_nil))) (de_callG c (ok_law_pick T) hr T.g_law_pick (da_cons (de_var 2) (da_cons de_int da_nil)))))
      (db_cons (ds_set 4 c (de_callG c (ok_law_all T) hr T.g_law_all (da_cons (de_var 3) da_nil)))
      (db_cons (ds_par 5 6 c rfl (da_cons (de_callG c (ok_law_below T) hr T.g_law_below (da_cons (de_var 2) (da_cons (de_var 4) da_nil))) (da_cons (de_callG c (ok_law_below T) hr T.g_law_below (da_cons (de_var 2) (da_cons (de_var 4) da_nil))) da_nil)))
      (db_cons (ds_if (DW.t (dw_or (dt_not (dt_val (de_callG c (ok_law_right T) hr T.g_law_right (da_cons (de_var 2) (da_cons (de_var 3) (da_cons (de_var 5) (da_cons (de_var 6) da_nil))))))) (dw_or1 (dt_cmp ok_isn op2_isn (de_callG c (ok_shared T) hr T.g_shared (da_cons (de_var 3) da_nil)) de_non)))) (db_one (ds_ret de_bl)) db_nil)
      (db_cons (ds_if (dt_cmp op_le op2_le (de_var 4) de_int) (db_cons (ds_set 7 c (de_dict true c rfl T.fr_dict (da_cons (de_lc (own := [("_law_number", 13)]) c rfl (di_range1 (by rfl) T.fr_range (da_cons (de_var 4) da_nil)) (blk_ok (by kernel_rfl)) (fun s9 H9 C9 cl9 fp9 => gw_name 13 c.nd) (fun s9 H9 C9 cl9 fp9 => dts_nil) (fun s9 H9 C9 cl9 fp9 => (de_tup (da_cons (de_callG (c.blk s9 H9 _ _ fp9) (ok_rests T) hr T.g_rests (da_cons (de_var 3) (da_cons (de_var 13) da_nil))) (da_cons de_bl da_nil))))).1 da_nil)))
      (db_one (ds_if (dt_cmp (ok_ne c) op2_ne (de_len c T.fr_len (da_cons (de_var 7) da_nil)) (de_var 4)) (db_one (ds_ret de_bl)) db_nil))) db_nil)
      (db_cons (ds_set 8 c (de_callG c (ok_mixed T) hr T.g_mixed (da_cons (de_var 3) (da_cons (de_callG c (ok_rests T) hr T.g_rests (da_cons (de_var 3) (da_cons (de_var 6) da_nil))) da_nil))))
      (db_cons (ds_if (dt_cmp (ok_ne c) op2_ne (de_callG c (ok_shows_mixed T) hr T.g_shows_mixed (da_cons (de_var 3) (da_cons (de_callG c (ok_rests T) hr T.g_rests (da_cons (de_var 3) (da_cons (de_var 5) da_nil))) (da_cons (de_var 8) da_nil)))) (de_cmp (ok_eq c) op2_eq (de_var 5) (de_var 6))) (db_one (ds_ret de_bl)) db_nil)
      (db_cons (ds_set 9 c (de_callG c (ok_law_pick T) hr T.g_law_pick (da_cons (de_var 2) (da_cons (de_len c T.fr_len (da_cons (de_var 3) da_nil)) da_nil))))
      (db_cons (ds_set 10 c (de_add c (de_var 3) (de_tup (da_cons (de_sbs c (de_var 3) (de_var 9)) da_nil))))
      (db_cons (ds_set 11 c (de_callG c (ok_rests T) hr T.g_rests (da_cons (de_var 10) (da_cons (de_var 5) da_nil))))
      (db_cons (ds_if (dt_cmp (ok_ne c) op2_ne (de_callG c (ok_shared T) hr T.g_shared (da_cons (de_var 10) da_nil)) (de_tup (da_cons (de_var 9) (da_cons (de_len c T.fr_len (da_cons (de_var 3) da_nil)) da_nil)))) (db_one (ds_ret de_bl)) db_nil)
      (db_one (ds_if (dt_cmp (ok_ne c) op2_ne (de_lc (own := [("_law_way", 12)]) c rfl (di_range1 (by rfl) T.fr_range (da_cons de_int da_nil)) (blk_ok (by kernel_rfl)) (fun s10 H10 C10 cl10 fp10 => gw_name 12 c.nd) (fun s10 H10 C10 cl10 fp10 => dts_nil) (fun s10 H10 C10 cl10 fp10 => (de_callG (c.blk s10 H10 _ _ fp10) (ok_law_refused T) hr T.g_law_refused (da_cons (de_var 12) (da_cons (de_var 10) (da_cons (de_var 11) da_nil)))))).1 (de_mul (de_lst (da_cons (de_tup (da_cons (de_var 9) (da_cons (de_len c T.fr_len (da_cons (de_var 3) da_nil)) da_nil))) da_nil)) de_int)) (db_one (ds_ret de_bl)) db_nil)))))))))))))))
      (db_one (ds_ret de_bl))))
end Law

namespace Law
open PySem PySem.Spec PyProof.Rows L2 Fx
abbrev R : PySem.W.OpenRow := PySem.W.OpenLaw.row PySem.Challenge.rw_partmill_k94_whole_rests_of_one_number
abbrev hk : PySem.W.Hook := hookX 6 fa fn ex
def ob (s : PySem.W.SharedT) : AlX := obsX 6 fa fn ex (HandSHeadRun.getT s)
theorem ob_eq (s : PySem.W.SharedT) : ob s = hk.obs s.abs := obsX_eq (HandSHeadRun.getT_eq s)
def loose : List Str := ["common", "shared", "look_apart", "rests", "inverse", "told_rest", "mixed", "number_told", "put_back", "are_digits", "shows_mixed", "_law_cell_at", "_law_left", "_law_pick", "_law_gcd", "_law_modulus", "_law_moduli", "_law_apart", "_law_all", "_law_below", "_law_few", "_law_refused", "_law_right", "MillError", "Shared"]
theorem run (w : World) : HandSHeadRun.RunEq R (PySem.W.view R.prog [28]) hk ob 1500 loose w := by
  intro os
  kernel_rfl
end Law

namespace Law
open PySem PySem.Spec PyProof.Rows L2 Fx
theorem gcd_step (a b : Int) (hb : 0 < b) : Int.gcd b (a % b) = Int.gcd a b := by
  rw [Int.gcd_comm b, ← Int.gcd_comm b a]
  simp [Int.gcd_comm, Int.emod_def]
theorem F_common_eq (a b : Int) (ha : 0 ≤ a) (hb : 0 ≤ b) (hb2 : b < 2 ^ 40) (S : Sto) : F_common [.int a, .int b] S = .ok (.int (Int.gcd a b)) S := by
  simp only [F_common, mkFn, b_common]
  have key := whileGo_ind (c := (bV (e2 oGt (cV 1) (cC (.int 0))))) (body := L1_common)
    (fun σ S' => S' = S ∧ ∃ x y : Int, σ = [some (.int x), some (.int y)] ∧ 0 ≤ x ∧ 0 ≤ y ∧ Int.gcd x y = Int.gcd a b)
    (fun σ _ => match σ with | [_, some (.int y)] => y.toNat | _ => 0)
    (fun o => o = .nx [some (.int (Int.gcd a b)), some (.int 0)] S) ?_ 18446744073709551616 [some (.int a), some (.int b)] S ⟨rfl, a, b, rfl, ha, hb, rfl⟩ ?_
  · simp [key]
  · rintro σ S' ⟨rfl, x, y, rfl, hx, hy, hg⟩
    refine ⟨decide (0 < y), by simp, fun h => ?_, fun h => ?_⟩
    · have : y = 0 := by have := of_decide_eq_false h; omega
      subst this
      rw [← hg]
      simp [Int.natAbs_of_nonneg hx]
    · have h := of_decide_eq_true h
      have e : L1_common [some (.int x), some (.int y)] S' = .nx [some (.int y), some (.int (x % y))] S' := by simp [L1_common, ev_md h]
      rw [e]
      have := Int.emod_lt_of_pos x h
      have := Int.emod_nonneg x (show y ≠ 0 by omega)
      exact ⟨⟨rfl, _, _, rfl, by omega, by omega, by rw [gcd_step _ _ h]; exact hg⟩, by show (x % y).toNat < y.toNat; omega⟩
  · show b.toNat < _
    omega
theorem F_law_gcd_eq (a b : Int) (ha : 0 ≤ a) (hb : 0 ≤ b) (hb2 : b < 2 ^ 40) (S : Sto) : F_law_gcd [.int a, .int b] S = .ok (.int (Int.gcd a b)) S := by
  simp only [F_law_gcd, mkFn, b_law_gcd]
  have key := whileGo_ind (c := (bV (e2 oGt (cV 1) (cC (.int 0))))) (body := L1_law_gcd)
    (fun σ S' => S' = S ∧ ∃ (x y : Int) (q : Option Dat), σ = [some (.int x), some (.int y), q] ∧ 0 ≤ x ∧ 0 ≤ y ∧ Int.gcd x y = Int.gcd a b)
    (fun σ _ => match σ with | [_, some (.int y), _] => y.toNat | _ => 0)
    (fun o => ∃ q, o = .nx [some (.int (Int.gcd a b)), some (.int 0), q] S) ?_ 18446744073709551616 [some (.int a), some (.int b), none] S ⟨rfl, a, b, none, rfl, ha, hb, rfl⟩ ?_
  · obtain ⟨q, key⟩ := key
    simp [key]
  · rintro σ S' ⟨rfl, x, y, q, rfl, hx, hy, hg⟩
    refine ⟨decide (0 < y), by simp, fun h => ?_, fun h => ?_⟩
    · have : y = 0 := by have := of_decide_eq_false h; omega
      subst this
      refine ⟨q, ?_⟩
      rw [← hg]
      simp [Int.natAbs_of_nonneg hx]
    · have h := of_decide_eq_true h
      have e : L1_law_gcd [some (.int x), some (.int y), q] S' = .nx [some (.int y), some (.int (x % y)), some (.int (x % y))] S' := by simp [L1_law_gcd, ev_md h]
      rw [e]
      have := Int.emod_lt_of_pos x h
      have := Int.emod_nonneg x (show y ≠ 0 by omega)
      exact ⟨⟨rfl, _, _, _, rfl, by omega, by omega, by rw [gcd_step _ _ h]; exact hg⟩, by show (x % y).toNat < y.toNat; omega⟩
  · show b.toNat < _
    omega
def prodI : List Int → Int
  | [] => 1
  | m :: r => m * prodI r
/-- moduli: from 1 to 2 ^ 20 -/
def Mods (ms : List Int) : Prop := ∀ m ∈ ms, 1 ≤ m ∧ m < 2 ^ 20
theorem Mods.cons {m : Int} {ms : List Int} (h : Mods (m :: ms)) : (1 ≤ m ∧ m < 2 ^ 20) ∧ Mods ms := ⟨h m List.mem_cons_self, fun x hx => h x (List.mem_cons_of_mem _ hx)⟩
theorem prodI_pos : ∀ {ms : List Int}, Mods ms → 1 ≤ prodI ms
  | [], _ => by simp [prodI]
  | m :: ms, h => by
    have h1 := h.cons.1
    have h2 := prodI_pos h.cons.2
    simp only [prodI]
    exact Int.le_trans h1.1 (by have := Int.mul_le_mul_of_nonneg_left h2 (show 0 ≤ m by omega); rwa [Int.mul_one] at this)
theorem prodI_lt : ∀ {ms : List Int}, Mods ms → (prodI ms).natAbs < 2 ^ (20 * ms.length + 1)
  | [], _ => by simp [prodI]
  | m :: ms, h => by
    have h1 := h.cons.1
    have h2 := prodI_lt h.cons.2
    simp only [prodI, Int.natAbs_mul, List.length_cons]
    have h3 : m.natAbs < 2 ^ 20 := by omega
    have : 2 ^ (20 * (ms.length + 1) + 1) = 2 ^ 20 * 2 ^ (20 * ms.length + 1) := by rw [← Nat.pow_add]; congr 1; omega
    rw [this]
    exact Nat.mul_lt_mul'' h3 h2
/-- at most 41 of them -/
abbrev big : Nat := 1000
theorem prodI_big {ms : List Int} (h : Mods ms) (hl : ms.length ≤ 41) : (prodI ms).natAbs < 2 ^ big := Nat.lt_of_lt_of_le (prodI_lt h) (Nat.pow_le_pow_right (by decide) (by show 20 * ms.length + 1 ≤ 1000; omega))
/-- an invariant of a running product -/
theorem mul_fits {w z : Int} {k : Nat} (hk : w.natAbs * 2 ^ (20 * (k + 1)) < 2 ^ big) (hz : 1 ≤ z ∧ z < 2 ^ 20) : w.natAbs < 2 ^ big ∧ z.natAbs < 2 ^ 20 ∧ (w * z).natAbs * 2 ^ (20 * k) < 2 ^ big := by
  have hz' : z.natAbs < 2 ^ 20 := by omega
  refine ⟨Nat.lt_of_le_of_lt (Nat.le_mul_of_pos_right _ (Nat.pow_pos (by decide))) hk, hz', ?_⟩
  rw [Int.natAbs_mul]
  refine Nat.lt_of_le_of_lt ?_ hk
  rw [show 20 * (k + 1) = 20 + 20 * k from by omega, Nat.pow_add, ← Nat.mul_assoc]
  exact Nat.mul_le_mul_right _ (Nat.mul_le_mul_left _ (by omega))
theorem fits_one {k : Nat} (hl : k ≤ 41) : (1 : Int).natAbs * 2 ^ (20 * k) < 2 ^ big := by
  rw [show (1 : Int).natAbs = 1 from rfl, Nat.one_mul]
  exact Nat.pow_lt_pow_right (by decide) (by show 20 * k < 1000; omega)
theorem F_law_all_eq (ms : List Int) (hm : Mods ms) (hl : ms.length ≤ 41) (S : Sto) : F_law_all [.tup (ms.map .int)] S = .ok (.int (prodI ms)) S := by
  simp only [F_law_all, mkFn, b_law_all]
  have key : ∃ q, forGo (stands (.tup (ms.map .int)) (ms.map .int)) (gN 2) L1_law_all (ms.map .int) [some (Dat.tup (ms.map .int)), some (.int 1), none] S = .nx [some (.tup (ms.map .int)), some (.int (prodI ms)), q] S := by
    refine forGo_ind (fun ds σ S' => S' = S ∧ ∃ (zs : List Int) (w : Int) (q : Option Dat), ds = zs.map .int ∧ σ = [some (Dat.tup (ms.map .int)), some (.int w), q] ∧ Mods zs ∧ w.natAbs * 2 ^ (20 * zs.length) < 2 ^ big ∧ w * prodI zs = prodI ms)
      (fun o => ∃ q, o = .nx [some (.tup (ms.map .int)), some (.int (prodI ms)), q] S) ?_ ?_ (ms.map .int) _ S ⟨rfl, ms, 1, none, rfl, rfl, hm, fits_one hl, by simp⟩
    · rintro σ S' ⟨rfl, zs, w, q, hz, rfl, _, _, hp⟩
      have : zs = [] := by cases zs <;> simp_all
      subst this
      simp [prodI] at hp
      exact ⟨by simp, q, by rw [hp]⟩
    · rintro d r σ S' ⟨rfl, zs, w, q, hz, rfl, hms, hw, hp⟩
      cases zs with
      | nil => cases hz
      | cons z zs =>
        simp only [List.map_cons, List.cons.injEq] at hz
        obtain ⟨rfl, rfl⟩ := hz
        obtain ⟨f1, f2, f3⟩ := mul_fits hw hms.cons.1
        refine ⟨by simp, _, _, rfl, ?_⟩
        have e : L1_law_all [some (Dat.tup (ms.map .int)), some (.int w), some (.int z)] S' = .nx [some (Dat.tup (ms.map .int)), some (.int (w * z)), some (.int z)] S' := by simp [L1_law_all, ev_ml' _ _ f1 f2 (by decide)]
        simp only [List.set_cons_succ, List.set_cons_zero, e]
        exact ⟨trivial, zs, w * z, _, rfl, rfl, hms.cons.2, f3, by rw [Int.mul_assoc]; exact hp⟩
  obtain ⟨q, key⟩ := key
  simp [key]

def val : List (Int × Int) → Int
  | [] => 0
  | (d, m) :: r => d + m * val r
abbrev pr (p : Int × Int) : Dat := .tup [.int p.1, .int p.2]
theorem zipD_map : ∀ xs ys : List Int, zipD (xs.map .int) (ys.map .int) = (xs.zip ys).map pr
  | [], ys => by cases ys <;> rfl
  | _ :: _, [] => rfl
  | x :: xs, y :: ys => by simp [zipD, zipD_map xs ys]
/-- digits that fit -/
def Digs (zs : List (Int × Int)) : Prop := ∀ p ∈ zs, (0 ≤ p.1 ∧ p.1 < 2 ^ 20) ∧ 1 ≤ p.2 ∧ p.2 < 2 ^ 20
theorem Digs.cons {p : Int × Int} {zs : List (Int × Int)} (h : Digs (p :: zs)) : ((0 ≤ p.1 ∧ p.1 < 2 ^ 20) ∧ 1 ≤ p.2 ∧ p.2 < 2 ^ 20) ∧ Digs zs := ⟨h p List.mem_cons_self, fun x hx => h x (List.mem_cons_of_mem _ hx)⟩
theorem F_number_told_eq (ms ds : List Int) (h : Digs (ds.zip ms)) (hl : (ds.zip ms).length ≤ 41) (S : Sto) : F_number_told [.tup (ms.map .int), .tup (ds.map .int)] S = .ok (.int (val (ds.zip ms))) S := by
  simp only [F_number_told, mkFn, b_number_told]
  have key : ∀ chk : Sto → Bool, chk S = true → ∃ w q1 q2, forGo chk (gT 2 (gsCons (gN 4) (gsCons (gN 5) gsNil))) L1_number_told ((ds.zip ms).map pr) [some (Dat.tup (ms.map .int)), some (Dat.tup (ds.map .int)), some (.int 0), some (.int 1), none, none] S
      = .nx [some (.tup (ms.map .int)), some (Dat.tup (ds.map .int)), some (.int (val (ds.zip ms))), w, q1, q2] S := by
    intro chk hc
    refine forGo_ind (fun xs σ S' => S' = S ∧ ∃ (zs : List (Int × Int)) (t w : Int) (q1 q2 : Option Dat), xs = zs.map pr ∧ σ = [some (Dat.tup (ms.map .int)), some (Dat.tup (ds.map .int)), some (.int t), some (.int w), q1, q2] ∧ Digs zs ∧ w.natAbs * 2 ^ (20 * zs.length) < 2 ^ big ∧ t + w * val zs = val (ds.zip ms))
      (fun o => ∃ w q1 q2, o = .nx [some (.tup (ms.map .int)), some (Dat.tup (ds.map .int)), some (.int (val (ds.zip ms))), w, q1, q2] S) ?_ ?_ _ _ S ⟨rfl, ds.zip ms, 0, 1, none, none, rfl, rfl, h, fits_one hl, by simp⟩
    · rintro σ S' ⟨rfl, zs, t, w, q1, q2, hz, rfl, _, _, hp⟩
      have : zs = [] := by cases zs <;> simp_all
      subst this
      simp [val] at hp
      exact ⟨hc, _, q1, q2, by rw [hp]⟩
    · rintro d r σ S' ⟨rfl, zs, t, w, q1, q2, hz, rfl, hms, hw, hp⟩
      cases zs with
      | nil => cases hz
      | cons z zs =>
        obtain ⟨x, m⟩ := z
        simp only [List.map_cons, List.cons.injEq] at hz
        obtain ⟨rfl, rfl⟩ := hz
        obtain ⟨hx, hm⟩ := hms.cons.1
        obtain ⟨f1, f2, f3⟩ := mul_fits hw hm
        refine ⟨hc, [some (Dat.tup (ms.map .int)), some (Dat.tup (ds.map .int)), some (.int t), some (.int w), some (.int x), some (.int m)], S', by simp, ?_⟩
        have e : L1_number_told [some (Dat.tup (ms.map .int)), some (Dat.tup (ds.map .int)), some (.int t), some (.int w), some (.int x), some (.int m)] S' = .nx [some (Dat.tup (ms.map .int)), some (Dat.tup (ds.map .int)), some (.int (t + x * w)), some (.int (w * m)), some (.int x), some (.int m)] S' := by
          simp [L1_number_told, ev_ml' _ _ f1 f2 (by decide), ev_ml' _ _ (show x.natAbs < 2 ^ 20 by simp at hx; omega) f1 (by decide)]
        simp only [e]
        refine ⟨trivial, zs, t + x * w, w * m, _, _, rfl, rfl, hms.cons.2, f3, ?_⟩
        rw [← hp]
        simp only [val]
        rw [Int.mul_add, Int.add_assoc, Int.mul_comm x w, Int.mul_assoc]
  obtain ⟨w, q1, q2, key⟩ := key (fun _ => true) rfl
  simp [itZip, zipD_map, key]
theorem F_told_rest_eq (ms ds : List Int) (m : Int) (hm0 : 2 ≤ m ∧ m < 2 ^ 20) (h : Digs (ds.zip ms)) (S : Sto) (x : Dat) (hx : seqA x S = some (ds.map .int)) :
    F_told_rest [.tup (ms.map .int), x, .int m] S = .ok (.tup [.int (val (ds.zip ms) % m), .int (prodI ((ds.zip ms).map (·.2)) % m)]) S := by
  simp only [F_told_rest, mkFn, b_told_rest]
  have key : ∀ (chk : Sto → Bool), chk S = true → ∃ q1 q2, forGo chk (gT 2 (gsCons (gN 5) (gsCons (gN 6) gsNil))) L1_told_rest ((ds.zip ms).map pr) [some (Dat.tup (ms.map .int)), some x, some (.int m), some (.int 0), some (.int 1), none, none] S
      = .nx [some (.tup (ms.map .int)), some x, some (.int m), some (.int (val (ds.zip ms) % m)), some (.int (prodI ((ds.zip ms).map (·.2)) % m)), q1, q2] S := by
    intro chk hc
    refine forGo_ind (fun xs σ S' => S' = S ∧ ∃ (zs : List (Int × Int)) (T W t w : Int) (q1 q2 : Option Dat), xs = zs.map pr ∧ σ = [some (Dat.tup (ms.map .int)), some x, some (.int m), some (.int t), some (.int w), q1, q2] ∧ Digs zs ∧ t = T % m ∧ w = W % m ∧ T + W * val zs = val (ds.zip ms) ∧ W * prodI (zs.map (·.2)) = prodI ((ds.zip ms).map (·.2)))
      (fun o => ∃ q1 q2, o = .nx [some (.tup (ms.map .int)), some x, some (.int m), some (.int (val (ds.zip ms) % m)), some (.int (prodI ((ds.zip ms).map (·.2)) % m)), q1, q2] S) ?_ ?_ _ _ S ⟨rfl, ds.zip ms, 0, 1, 0, 1, none, none, rfl, rfl, h, by simp, (Int.emod_eq_of_lt (by decide) (by omega)).symm, by simp, by simp⟩
    · rintro σ S' ⟨rfl, zs, T, W, t, w, q1, q2, hz, rfl, _, ht, hw, hp, hq⟩
      have : zs = [] := by cases zs <;> simp_all
      subst this
      simp [val, prodI] at hp hq
      exact ⟨hc, q1, q2, by rw [ht, hw, hp, hq]⟩
    · rintro d r σ S' ⟨rfl, zs, T, W, t, w, q1, q2, hz, rfl, hms, ht, hw, hp, hq⟩
      cases zs with
      | nil => cases hz
      | cons z zs =>
        obtain ⟨y, k⟩ := z
        simp only [List.map_cons, List.cons.injEq] at hz
        obtain ⟨rfl, rfl⟩ := hz
        obtain ⟨hy, hk⟩ := hms.cons.1
        simp only at hy hk
        have w1 := Int.emod_nonneg W (show m ≠ 0 by omega)
        have w2 := Int.emod_lt_of_pos W (show 0 < m by omega)
        have w3 : w.natAbs < 2 ^ 20 := by omega
        refine ⟨hc, [some (Dat.tup (ms.map .int)), some x, some (.int m), some (.int t), some (.int w), some (.int y), some (.int k)], S', by simp, ?_⟩
        have e : L1_told_rest [some (Dat.tup (ms.map .int)), some x, some (.int m), some (.int t), some (.int w), some (.int y), some (.int k)] S' = .nx [some (Dat.tup (ms.map .int)), some x, some (.int m), some (.int ((t + y * w) % m)), some (.int (w * k % m)), some (.int y), some (.int k)] S' := by
          simp [L1_told_rest, ev_ml' _ _ (show y.natAbs < 2 ^ 20 by omega) w3 (by decide), ev_ml' _ _ w3 (show k.natAbs < 2 ^ 20 by omega) (by decide), ev_md (show 0 < m by omega)]
        simp only [e]
        refine ⟨trivial, zs, T + y * W, W * k, _, _, _, _, rfl, rfl, hms.cons.2, ?_, ?_, ?_, ?_⟩
        · rw [ht, hw]; simp [Int.add_emod, Int.mul_emod]
        · rw [hw]; simp [Int.mul_emod]
        · rw [← hp]
          simp only [val]
          rw [Int.mul_add, Int.add_assoc, Int.mul_comm y W, Int.mul_assoc]
        · rw [← hq]
          simp only [List.map_cons, prodI]
          rw [Int.mul_assoc]
  simp [itZip, hx, zipD_map]
  obtain ⟨q1, q2, key⟩ := key (fun S => stands x (ds.map .int) S) (by simp [stands, hx])
  simp [key]
theorem F_inverse_eq (n m : Int) (hm : 1 ≤ m ∧ m < 2 ^ 20) (hg : Int.gcd m (n % m) = 1) (S : Sto) : ∃ v : Int, F_inverse [.int n, .int m] S = .ok (.int v) S ∧ 0 ≤ v ∧ v < m ∧ (v * n) % m = 1 % m := by
  simp only [F_inverse, mkFn, b_inverse]
  have n1 := Int.emod_nonneg n (show m ≠ 0 by omega)
  have n2 := Int.emod_lt_of_pos n (show 0 < m by omega)
  have key := whileGo_ind (c := (bV (e2 oGt (cV 3) (cC (.int 0))))) (body := L1_inverse)
    (fun σ S' => S' = S ∧ ∃ (x y b k : Int) (q : Option Dat), σ = [some (.int n), some (.int m), some (.int x), some (.int y), some (.int b), some (.int k), q] ∧ 1 ≤ x ∧ 0 ≤ y ∧ x ≤ m ∧ y < m + 1 ∧ Int.gcd x y = 1 ∧ x % m = b * n % m ∧ y % m = k * n % m ∧ x * (k.natAbs : Int) + y * (b.natAbs : Int) ≤ m)
    (fun σ _ => match σ with | [_, _, _, some (.int y), _, _, _] => y.toNat | _ => 0)
    (fun o => ∃ (b : Int) (a1 a2 a3 a4 : Option Dat), o = .nx [some (.int n), some (.int m), a1, a2, some (.int b), a3, a4] S ∧ b * n % m = 1 % m) ?_ 18446744073709551616 [some (.int n), some (.int m), some (.int m), some (.int (n % m)), some (.int 0), some (.int 1), none] S
    ⟨rfl, m, n % m, 0, 1, none, rfl, by omega, n1, by omega, by omega, hg, by simp, by simp, by simp⟩ ?_
  · obtain ⟨b, a1, a2, a3, a4, key, hb⟩ := key
    refine ⟨b % m, by simp [ev_md (show 0 < m by omega), key], Int.emod_nonneg _ (by omega), Int.emod_lt_of_pos _ (by omega), ?_⟩
    rw [← hb]
    simp [Int.mul_emod]
  · rintro σ S' ⟨rfl, x, y, b, k, q, rfl, hx, hy, hx2, hy2, hg, e1, e2, hb⟩
    refine ⟨decide (0 < y), by simp, fun h => ?_, fun h => ?_⟩
    · have : y = 0 := by have := of_decide_eq_false h; omega
      subst this
      have : x = 1 := by
        simp at hg
        omega
      subst this
      exact ⟨b, _, _, _, _, rfl, e1.symm⟩
    · have h := of_decide_eq_true h
      have hk1 : (k.natAbs : Int) ≤ m := by
        have : x * (k.natAbs : Int) ≥ 1 * (k.natAbs : Int) := Int.mul_le_mul_of_nonneg_right hx (by omega)
        have : 0 ≤ y * (b.natAbs : Int) := Int.mul_nonneg hy (by omega)
        omega
      have q1 : 0 ≤ x / y := Int.ediv_nonneg (by omega) hy
      have q2 : x / y ≤ x := Int.ediv_le_self _ (by omega)
      have q3 : (x / y).natAbs < 2 ^ 20 := by omega
      have em : x - x / y * y = x % y := by rw [Int.emod_def, Int.mul_comm]
      have e : L1_inverse [some (.int n), some (.int m), some (.int x), some (.int y), some (.int b), some (.int k), q] S' = .nx [some (.int n), some (.int m), some (.int y), some (.int (x - x / y * y)), some (.int k), some (.int (b - x / y * k)), some (.int (x / y))] S' := by
        simp [L1_inverse, ev_fd h (show y.natAbs.log2 < 9000 by have := log2_le (show y.natAbs < 2 ^ 21 by omega); omega), ev_ml' _ _ q3 (show y.natAbs < 2 ^ 21 by omega) (by decide), ev_ml' _ _ q3 (show k.natAbs < 2 ^ 21 by omega) (by decide)]
      rw [e]
      have r1 := Int.emod_lt_of_pos x h
      have r2 := Int.emod_nonneg x (show y ≠ 0 by omega)
      refine ⟨⟨rfl, _, _, _, _, _, rfl, by omega, by omega, by omega, by omega, ?_, e2, ?_, ?_⟩, by show (x - x / y * y).toNat < y.toNat; omega⟩
      · rw [em, gcd_step _ _ h]; exact hg
      · have e3 : x / y * y % m = x / y * (k * n) % m := by rw [Int.mul_emod, e2, ← Int.mul_emod]
        rw [Int.sub_mul, Int.mul_assoc, Int.sub_emod, e1, e3, ← Int.sub_emod]
      · have t1 : ((b - x / y * k).natAbs : Int) ≤ b.natAbs + x / y * k.natAbs := by
          have h1 : (b - x / y * k).natAbs ≤ b.natAbs + (x / y * k).natAbs := Int.natAbs_sub_le _ _
          have h2 : ((x / y * k).natAbs : Int) = x / y * k.natAbs := by rw [Int.natAbs_mul]; push_cast; rw [Int.natAbs_of_nonneg q1]
          omega
        have t2 : y * ((b - x / y * k).natAbs : Int) ≤ y * (b.natAbs + x / y * k.natAbs) := Int.mul_le_mul_of_nonneg_left t1 hy
        rw [Int.mul_add] at t2
        have t3 : (x - x / y * y) * (k.natAbs : Int) = x * k.natAbs - y * (x / y * k.natAbs) := by
          rw [Int.sub_mul, Int.mul_comm (x / y) y, Int.mul_assoc]
        omega
  · show (n % m).toNat < _
    omega

theorem F_rests_eq (ms : List Int) (hm : Mods ms) (hl : ms.length ≤ 1000) (n : Int) (S : Sto) : F_rests [.tup (ms.map .int), .int n] S = .ok (.tup ((ms.map fun m => n % m).map .int)) S := by
  simp only [F_rests, mkFn, b_rests]
  have key : lcGo (stands (.tup (ms.map .int)) (ms.map .int)) (gN 2) bYes (e2 oMd (cV 1) (cV 2)) [some (.tup (ms.map .int)), some (.int n), none] (ms.map .int) S = .ok ((ms.map Dat.int).map fun d => match d with | Dat.int m => Dat.int (n % m) | d => d) S := by
    refine lcGo_map _ (by simp) _ fun d hd => ?_
    obtain ⟨m, h1, rfl⟩ := List.mem_map.mp hd
    have := hm m h1
    exact ⟨_, rfl, by simp [ev_md (show 0 < m by omega)]⟩
  have hsm : ms.length ≤ 16777216 := by omega
  simp [hsm, key]
/-- the pair i, j of ms: how much they share -/
def gij (ms : List Int) (i j : Nat) : Nat := Int.gcd (ms.getD i 0) (ms.getD j 0)
theorem ixN_nat {n i : Nat} (h : i < n) : ixN n (i : Int) = some i := by
  unfold ixN
  rw [if_pos (by omega), if_pos (by omega)]
  simp
theorem atD_nat {xs : List Dat} {i : Nat} {d : Dat} (h : xs[i]? = some d) : atD xs (i : Int) = some d := by
  unfold atD
  rw [ixN_nat (List.getElem?_eq_some_iff.mp h).1]
  exact h
theorem atD_int {ms : List Int} {i : Nat} (h : i < ms.length) : atD (ms.map .int) (i : Int) = some (.int (ms.getD i 0)) := by
  refine atD_nat ?_
  rw [List.getElem?_map, List.getElem?_eq_getElem h]
  simp [List.getD, h]
theorem Mods.get {ms : List Int} (hm : Mods ms) {i : Nat} (h : i < ms.length) : 1 ≤ ms.getD i 0 ∧ ms.getD i 0 < 2 ^ 20 := by
  have e : ms.getD i 0 = ms[i] := by simp [List.getD, h]
  rw [e]
  exact hm _ (List.getElem_mem h)
theorem L2_shared_ev {ms : List Int} (hm : Mods ms) {i j : Nat} (hi : i < ms.length) (hj : j < ms.length) (S : Sto) :
    L2_shared [some (.tup (ms.map .int)), some (.int i), some (.int j)] S = if 1 < gij ms i j then .rt (.tup [.int i, .int j]) S else .nx [some (.tup (ms.map .int)), some (.int i), some (.int j)] S := by
  have h1 := hm.get hi
  have h2 := hm.get hj
  have e := F_common_eq (ms.getD i 0) (ms.getD j 0) (by omega) (by omega) (by omega) S
  have e3 : decide (1 < ((gij ms i j : Nat) : Int)) = decide (1 < gij ms i j) := decide_eq_decide.mpr (by omega)
  simp only [L2_shared, ev_sIf, ev_bV, ev_e2, ev_eCall, ev_aCons, ev_aNil, ev_cC, Res.bind_ok, ev_cV (show [some (Dat.tup (ms.map .int)), some (.int (i : Int)), some (.int (j : Int))][0]? = _ from rfl), ev_cV (show [some (Dat.tup (ms.map .int)), some (.int (i : Int)), some (.int (j : Int))][1]? = _ from rfl), ev_cV (show [some (Dat.tup (ms.map .int)), some (.int (i : Int)), some (.int (j : Int))][2]? = _ from rfl), ev_ix_tup (atD_int hi), ev_ix_tup (atD_int hj)]
  simp only [List.length_cons, List.length_nil, if_true, e, Res.bind_ok, ev_gt, Res.out_ok]
  rw [show (decide (1 < (((ms.getD i 0).gcd (ms.getD j 0) : Nat) : Int))) = decide (1 < gij ms i j) from e3]
  by_cases h : 1 < gij ms i j
  · simp [h]
  · simp [h]
theorem shared_in (ms : List Int) (hm : Mods ms) (S : Sto) (i : Nat) (hi : i < ms.length) (q : Option Dat) :
    (∃ q', forGo (fun _ => true) (gN 2) L2_shared (rangeD ((i : Int) + 1) 1 (ms.length - (i + 1))) [some (.tup (ms.map .int)), some (.int i), q] S = .nx [some (.tup (ms.map .int)), some (.int i), q'] S ∧ ∀ j', i < j' → j' < ms.length → gij ms i j' ≤ 1) ∨
    (∃ j : Nat, i < j ∧ j < ms.length ∧ 1 < gij ms i j ∧ (∀ j', i < j' → j' < j → gij ms i j' ≤ 1) ∧ forGo (fun _ => true) (gN 2) L2_shared (rangeD ((i : Int) + 1) 1 (ms.length - (i + 1))) [some (.tup (ms.map .int)), some (.int i), q] S = .rt (.tup [.int i, .int j]) S) := by
  refine forGo_ind (fun xs σ S' => S' = S ∧ ∃ (j k : Nat) (q : Option Dat), xs = rangeD (j : Int) 1 k ∧ σ = [some (.tup (ms.map .int)), some (.int i), q] ∧ j + k = ms.length ∧ i < j ∧ ∀ j', i < j' → j' < j → gij ms i j' ≤ 1)
    (fun o => (∃ q', o = .nx [some (.tup (ms.map .int)), some (.int i), q'] S ∧ ∀ j', i < j' → j' < ms.length → gij ms i j' ≤ 1) ∨ (∃ j : Nat, i < j ∧ j < ms.length ∧ 1 < gij ms i j ∧ (∀ j', i < j' → j' < j → gij ms i j' ≤ 1) ∧ o = .rt (.tup [.int i, .int j]) S)) ?_ ?_ _ _ S
    ⟨rfl, i + 1, ms.length - (i + 1), q, by push_cast; rfl, rfl, by omega, by omega, fun j' h1 h2 => by omega⟩
  · rintro σ S' ⟨rfl, j, k, q, hx, rfl, hk, hij, hall⟩
    have : k = 0 := by cases k with | zero => rfl | succ k => cases hx
    subst this
    exact ⟨rfl, .inl ⟨q, rfl, fun j' h1 h2 => hall j' h1 (by omega)⟩⟩
  · rintro d r σ S' ⟨rfl, j, k, q, hx, rfl, hk, hij, hall⟩
    cases k with
    | zero => cases hx
    | succ k =>
      simp only [rangeD, List.cons.injEq] at hx
      obtain ⟨rfl, rfl⟩ := hx
      refine ⟨rfl, [some (.tup (ms.map .int)), some (.int i), some (.int j)], S', rfl, ?_⟩
      rw [L2_shared_ev hm hi (show j < ms.length by omega)]
      by_cases h : 1 < gij ms i j
      · rw [if_pos h]
        exact .inr ⟨j, hij, by omega, h, hall, rfl⟩
      · rw [if_neg h]
        exact ⟨rfl, j + 1, k, _, by push_cast; rfl, rfl, by omega, by omega, fun j' h1 h2 => by
          by_cases h3 : j' = j
          · subst h3; omega
          · exact hall j' h1 (by omega)⟩
end Law

namespace Law
open PySem PySem.Spec PyProof.Rows L2 Fx
theorem L1_shared_ev {ms : List Int} {i : Nat} (hi : i < ms.length) (hl : ms.length ≤ 1000) (q2 : Option Dat) (S : Sto) :
    L1_shared [some (.tup (ms.map .int)), some (.int i), q2] S = forGo (fun _ => true) (gN 2) L2_shared (rangeD ((i : Int) + 1) 1 (ms.length - (i + 1))) [some (.tup (ms.map .int)), some (.int i), q2] S := by
  have e1 : ((ms.length : Int) - ((i : Int) + 1)).toNat = ms.length - (i + 1) := by omega
  have e2 := ev_rng2 (S := S) (show (0 : Int) ≤ (i : Int) + 1 by omega) (show (i : Int) + 1 < 2 ^ 62 by omega) (show (0 : Int) ≤ (ms.length : Int) by omega) (show (ms.length : Int) < 2 ^ 62 by omega)
  rw [e1] at e2
  simp [L1_shared, e2]
theorem F_shared_cases (ms : List Int) (hm : Mods ms) (hl : ms.length ≤ 1000) (S : Sto) :
    (F_shared [.tup (ms.map .int)] S = .ok .non S ∧ ∀ i j, i < j → j < ms.length → gij ms i j ≤ 1) ∨
    (∃ i j : Nat, i < j ∧ j < ms.length ∧ 1 < gij ms i j ∧ (∀ i' j', i' < i → i' < j' → j' < ms.length → gij ms i' j' ≤ 1) ∧ (∀ j', i < j' → j' < j → gij ms i j' ≤ 1) ∧ F_shared [.tup (ms.map .int)] S = .ok (.tup [.int i, .int j]) S) := by
  have key : (∃ q1 q2, forGo (fun _ => true) (gN 1) L1_shared (rangeD 0 1 ms.length) [some (.tup (ms.map .int)), none, none] S = .nx [some (.tup (ms.map .int)), q1, q2] S ∧ ∀ i j, i < j → j < ms.length → gij ms i j ≤ 1) ∨
      (∃ i j : Nat, i < j ∧ j < ms.length ∧ 1 < gij ms i j ∧ (∀ i' j', i' < i → i' < j' → j' < ms.length → gij ms i' j' ≤ 1) ∧ (∀ j', i < j' → j' < j → gij ms i j' ≤ 1) ∧ forGo (fun _ => true) (gN 1) L1_shared (rangeD 0 1 ms.length) [some (.tup (ms.map .int)), none, none] S = .rt (.tup [.int i, .int j]) S) := by
    refine forGo_ind (fun xs σ S' => S' = S ∧ ∃ (i k : Nat) (q1 q2 : Option Dat), xs = rangeD (i : Int) 1 k ∧ σ = [some (.tup (ms.map .int)), q1, q2] ∧ i + k = ms.length ∧ ∀ i' j', i' < i → i' < j' → j' < ms.length → gij ms i' j' ≤ 1)
      (fun o => (∃ q1 q2, o = .nx [some (.tup (ms.map .int)), q1, q2] S ∧ ∀ i j, i < j → j < ms.length → gij ms i j ≤ 1) ∨
        (∃ i j : Nat, i < j ∧ j < ms.length ∧ 1 < gij ms i j ∧ (∀ i' j', i' < i → i' < j' → j' < ms.length → gij ms i' j' ≤ 1) ∧ (∀ j', i < j' → j' < j → gij ms i j' ≤ 1) ∧ o = .rt (.tup [.int i, .int j]) S)) ?_ ?_ _ _ S
      ⟨rfl, 0, ms.length, none, none, rfl, rfl, by omega, fun i' j' h1 h2 => by omega⟩
    · rintro σ S' ⟨rfl, i, k, q1, q2, hx, rfl, hk, hall⟩
      have : k = 0 := by cases k with | zero => rfl | succ k => cases hx
      subst this
      exact ⟨rfl, .inl ⟨q1, q2, rfl, fun i' j' h1 h2 => hall i' j' (by omega) h1 h2⟩⟩
    · rintro d r σ S' ⟨rfl, i, k, q1, q2, hx, rfl, hk, hall⟩
      cases k with
      | zero => cases hx
      | succ k =>
        simp only [rangeD, List.cons.injEq] at hx
        obtain ⟨rfl, rfl⟩ := hx
        have hi : i < ms.length := by omega
        have ev := L1_shared_ev hi hl q2 S'
        refine ⟨rfl, [some (.tup (ms.map .int)), some (.int i), q2], S', rfl, ?_⟩
        rw [ev]
        rcases shared_in ms hm S' i hi q2 with ⟨q', e, h⟩ | ⟨j, h1, h2, h3, h4, e⟩
        · rw [e]
          refine ⟨rfl, i + 1, k, _, _, by push_cast; rfl, rfl, by omega, fun i' j' g1 g2 g3 => ?_⟩
          by_cases h3 : i' = i
          · subst h3; exact h j' g2 g3
          · exact hall i' j' (by omega) g2 g3
        · rw [e]
          exact .inr ⟨i, j, h1, h2, h3, hall, h4, rfl⟩
  have e0 := ev_rng1 (S := S) (show (0 : Int) ≤ (ms.length : Int) by omega) (show (ms.length : Int) < 2 ^ 62 by omega)
  rcases key with ⟨q1, q2, e, h⟩ | ⟨i, j, h1, h2, h3, h4, h5, e⟩
  · exact .inl ⟨by simp [F_shared, mkFn, b_shared, e0, e], h⟩
  · exact .inr ⟨i, j, h1, h2, h3, h4, h5, by simp [F_shared, mkFn, b_shared, e0, e]⟩
end Law

namespace Law
open PySem PySem.Spec PyProof.Rows L2 Fx
def Mods2 (ms : List Int) : Prop := ∀ m ∈ ms, 2 ≤ m ∧ m < 2 ^ 20
theorem Mods2.mods {ms : List Int} (h : Mods2 ms) : Mods ms := fun m hm => by have := h m hm; omega
abbrev PW (ms : List Int) : Prop := ms.Pairwise fun a b => Int.gcd a b = 1
theorem gcd_prod {m : Int} : ∀ {l : List Int}, (∀ x ∈ l, Int.gcd m x = 1) → Int.gcd m (prodI l) = 1
  | [], _ => by simp [prodI]
  | x :: l, h => by
    have h1 : Nat.Coprime m.natAbs x.natAbs := h x List.mem_cons_self
    have h2 : Nat.Coprime m.natAbs (prodI l).natAbs := gcd_prod fun y hy => h y (List.mem_cons_of_mem _ hy)
    have := Nat.Coprime.mul_right h1 h2
    show Nat.gcd m.natAbs (x * prodI l).natAbs = 1
    rw [Int.natAbs_mul]
    exact this
theorem dvd_both {a b z : Int} (h : Int.gcd a b = 1) (h1 : a ∣ z) (h2 : b ∣ z) : a * b ∣ z := by
  rw [← Int.natAbs_dvd_natAbs] at h1 h2 ⊢
  rw [Int.natAbs_mul]
  exact Nat.Coprime.mul_dvd_of_dvd_of_dvd h h1 h2
theorem crt_dvd {z : Int} : ∀ {ms : List Int}, PW ms → (∀ m ∈ ms, m ∣ z) → prodI ms ∣ z
  | [], _, _ => by simp [prodI]
  | m :: ms, hp, h => by
    have hp := List.pairwise_cons.mp hp
    exact dvd_both (gcd_prod hp.1) (h m List.mem_cons_self) (crt_dvd hp.2 fun x hx => h x (List.mem_cons_of_mem _ hx))
theorem dvd_prodI {m : Int} : ∀ {ms : List Int}, m ∈ ms → m ∣ prodI ms
  | x :: ms, h => by
    rcases List.mem_cons.mp h with rfl | h
    · exact Int.dvd_mul_right _ _
    · exact Int.dvd_trans (dvd_prodI h) (Int.dvd_mul_left _ _)
theorem crt_eq {ms : List Int} (hp : PW ms) {x y : Int} (hx : 0 ≤ x ∧ x < prodI ms) (hy : 0 ≤ y ∧ y < prodI ms) (h : ∀ m ∈ ms, x % m = y % m) : x = y := by
  have d := crt_dvd (z := x - y) hp fun m hm => Int.dvd_of_emod_eq_zero (by rw [Int.sub_emod, h m hm, Int.sub_self, Int.zero_emod])
  have e : x % prodI ms = y % prodI ms := by
    obtain ⟨k, hk⟩ := d
    have : x = y + prodI ms * k := by omega
    rw [this, Int.add_mul_emod_self_left]
  rw [Int.emod_eq_of_lt hx.1 hx.2, Int.emod_eq_of_lt hy.1 hy.2] at e
  exact e
def Dg (zs : List (Int × Int)) : Prop := ∀ p ∈ zs, 0 ≤ p.1 ∧ p.1 < p.2
theorem Dg.cons {p : Int × Int} {zs : List (Int × Int)} (h : Dg (p :: zs)) : (0 ≤ p.1 ∧ p.1 < p.2) ∧ Dg zs := ⟨h p List.mem_cons_self, fun x hx => h x (List.mem_cons_of_mem _ hx)⟩
theorem val_lt : ∀ {zs : List (Int × Int)}, Dg zs → 0 ≤ val zs ∧ val zs < prodI (zs.map (·.2))
  | [], _ => by simp [val, prodI]
  | (d, m) :: zs, h => by
    obtain ⟨h1, h2⟩ := val_lt h.cons.2
    have h3 := h.cons.1
    simp only [val, List.map_cons, prodI] at *
    have h4 : 0 ≤ m * val zs := Int.mul_nonneg (by omega) h1
    have h5 : m * (val zs + 1) ≤ m * prodI (zs.map (·.2)) := Int.mul_le_mul_of_nonneg_left (by omega) (by omega)
    rw [Int.mul_add, Int.mul_one] at h5
    omega
theorem val_snoc (d m : Int) : ∀ zs : List (Int × Int), val (zs ++ [(d, m)]) = val zs + prodI (zs.map (·.2)) * d
  | [] => by simp [val, prodI]
  | (e, k) :: zs => by
    simp only [List.cons_append, val, val_snoc d m zs, List.map_cons, prodI]
    rw [Int.mul_add, Int.mul_assoc, Int.add_assoc]
theorem zip_of {α β : Type} : ∀ (zs : List (α × β)) (r : List β), (zs.map (·.1)).zip (zs.map (·.2) ++ r) = zs
  | [], r => by simp
  | z :: zs, r => by simp [zip_of zs r]
theorem F_shared_none {ms : List Int} (hm : Mods2 ms) (hl : ms.length ≤ 1000) (hp : PW ms) (S : Sto) : F_shared [.tup (ms.map .int)] S = .ok .non S := by
  rcases F_shared_cases ms hm.mods hl S with ⟨e, _⟩ | ⟨i, j, h1, h2, h3, _⟩
  · exact e
  · have := List.pairwise_iff_getElem.mp hp i j (by omega) h2 h1
    have e : gij ms i j = 1 := by
      unfold gij
      rw [show ms.getD i 0 = ms[i] from by simp [List.getD, show i < ms.length by omega], show ms.getD j 0 = ms[j] from by simp [List.getD, h2]]
      exact this
    omega
theorem F_look_none {ms : List Int} (hm : Mods2 ms) (hl : ms.length ≤ 1000) (hp : PW ms) (S : Sto) : F_look_apart [.tup (ms.map .int)] S = .ok .non S := by
  have e := F_shared_none hm hl hp S
  have e2 : oIsNot .non .non S = .ok (.bl false) S := rfl
  simp [F_look_apart, mkFn, b_look_apart, e, e2]
def Sol (x : Int) (done : List (Int × Int)) : Prop := ∀ p ∈ done, x % p.1 = p.2 % p.1
theorem F_mixed_eq (ms rs : List Int) (hm : Mods2 ms) (hl : ms.length ≤ 1000) (hp : PW ms) (hr : rs.length = ms.length) (hb : ∀ r ∈ rs, r.natAbs < 2 ^ 20) (S : Sto) :
    ∃ zs : List (Int × Int), F_mixed [.tup (ms.map .int), .tup (rs.map .int)] S = .ok (.tup ((zs.map (·.1)).map .int)) S ∧ zs.map (·.2) = ms ∧ Dg zs ∧ Sol (val zs) (ms.zip rs) := by
  have key : ∀ chk : Sto → Bool, (∀ S, chk S = true) → ∃ (zs : List (Int × Int)) (q3 q4 q5 q6 : Option Dat), forGo chk (gT 2 (gsCons (gN 3) (gsCons (gN 4) gsNil))) L1_mixed ((ms.zip rs).map pr) [some (.tup (ms.map .int)), some (.tup (rs.map .int)), some (.ref S.length), none, none, none, none] (S ++ [.lst []])
      = .nx [some (.tup (ms.map .int)), some (.tup (rs.map .int)), some (.ref S.length), q3, q4, q5, q6] (S ++ [.lst ((zs.map (·.1)).map .int)]) ∧ zs.map (·.2) = ms ∧ Dg zs ∧ Sol (val zs) (ms.zip rs) := by
    intro chk hc
    refine forGo_ind (fun xs σ S' => ∃ (zs done todo : List (Int × Int)) (q3 q4 q5 q6 : Option Dat), xs = todo.map pr ∧ σ = [some (.tup (ms.map .int)), some (.tup (rs.map .int)), some (.ref S.length), q3, q4, q5, q6] ∧ S' = S ++ [.lst ((zs.map (·.1)).map .int)] ∧ ms.zip rs = done ++ todo ∧ zs.map (·.2) = done.map (·.1) ∧ Dg zs ∧ Sol (val zs) done)
      (fun o => ∃ (zs : List (Int × Int)) (q3 q4 q5 q6 : Option Dat), o = .nx [some (.tup (ms.map .int)), some (.tup (rs.map .int)), some (.ref S.length), q3, q4, q5, q6] (S ++ [.lst ((zs.map (·.1)).map .int)]) ∧ zs.map (·.2) = ms ∧ Dg zs ∧ Sol (val zs) (ms.zip rs)) ?_ ?_ _ _ _
      ⟨[], [], ms.zip rs, none, none, none, none, rfl, rfl, rfl, rfl, rfl, (fun p hp => (by cases hp)), (fun p hp => (by cases hp))⟩
    · rintro σ S' ⟨zs, done, todo, q3, q4, q5, q6, hx, rfl, rfl, e1, e2, h1, h2⟩
      have : todo = [] := by cases todo <;> simp_all
      subst this
      rw [List.append_nil] at e1
      refine ⟨hc _, zs, q3, q4, q5, q6, rfl, ?_, h1, by rw [e1]; exact h2⟩
      rw [e2, ← e1, List.map_fst_zip (by omega)]
    · rintro d r σ S' ⟨zs, done, todo, q3, q4, q5, q6, hx, rfl, rfl, e1, e2, h1, h2⟩
      cases todo with
      | nil => cases hx
      | cons p todo =>
        obtain ⟨m, r0⟩ := p
        simp only [List.map_cons, List.cons.injEq] at hx
        obtain ⟨rfl, rfl⟩ := hx
        have hms : ms = zs.map (·.2) ++ m :: todo.map (·.1) := by
          have := congrArg (List.map (·.1)) e1
          rw [List.map_fst_zip (by omega), List.map_append, ← e2] at this
          simpa using this
        have hrs : r0 ∈ rs := by
          have : (m, r0) ∈ ms.zip rs := by rw [e1]; simp
          exact (List.of_mem_zip this).2
        have hmm := hm m (by rw [hms]; simp)
        have hr0 := hb r0 hrs
        have hz : (zs.map (·.1)).zip ms = zs := by
          conv => lhs; rw [hms]
          exact zip_of zs _
        have hD : Digs zs := fun p hp => by
          have a := h1 p hp
          have b := hm p.2 (by rw [hms]; exact List.mem_append_left _ (List.mem_map_of_mem hp))
          omega
        have hpw : ∀ x ∈ zs.map (·.2), Int.gcd x m = 1 := fun x hx => by
          rw [hms] at hp
          exact (List.pairwise_append.mp hp).2.2 x hx m List.mem_cons_self
        have hgc : Int.gcd m (prodI (zs.map (·.2))) = 1 := gcd_prod fun x hx => by rw [Int.gcd_comm]; exact hpw x hx
        have t1 := F_told_rest_eq ms (zs.map (·.1)) m hmm (by rw [hz]; exact hD) (S ++ [.lst ((zs.map (·.1)).map .int)]) (.ref S.length) (ev_seqA_ref (by simp))
        rw [hz] at t1
        obtain ⟨v, t2, v1, v2, v3⟩ := F_inverse_eq (prodI (zs.map (·.2)) % m) m (by omega) (by rw [Int.emod_emod_of_dvd _ (Int.dvd_refl m), gcd_step _ _ (show 0 < m by omega), Int.gcd_comm]; exact hgc) (S ++ [.lst ((zs.map (·.1)).map .int)])
        have b1 := Int.emod_nonneg (val zs) (show m ≠ 0 by omega)
        have b2 := Int.emod_lt_of_pos (val zs) (show 0 < m by omega)
        have hlen : zs.length ≤ 1000 := by
          have := congrArg List.length hms
          simp at this
          omega
        have e : L1_mixed [some (.tup (ms.map .int)), some (.tup (rs.map .int)), some (.ref S.length), some (.int m), some (.int r0), q5, q6] (S ++ [.lst ((zs.map (·.1)).map .int)]) =
            .nx [some (.tup (ms.map .int)), some (.tup (rs.map .int)), some (.ref S.length), some (.int m), some (.int r0), some (.int (val zs % m)), some (.int (prodI (zs.map (·.2)) % m))] (S ++ [.lst (((zs ++ [((r0 - val zs % m) * v % m, m)]).map (·.1)).map .int)]) := by
          have ap := ev_append (S := S ++ [.lst ((zs.map (·.1)).map .int)]) (n := S.length) (d := .int ((r0 - val zs % m) * v % m)) (xs := (zs.map (·.1)).map .int) (by simp) (by rw [sizeLine_eq]; simp; omega)
          have ml := ev_ml' (S := S ++ [.lst ((zs.map (·.1)).map .int)]) 21 20 (show (r0 - val zs % m).natAbs < 2 ^ 21 by omega) (show v.natAbs < 2 ^ 20 by omega) (by decide)
          have sq : seqL (.ref S.length) (S ++ [.lst ((zs.map (·.1)).map .int)]) = some ((zs.map (·.1)).map .int) := ev_seqL_ref (by simp)
          simp only [List.map_map] at t1 t2 ap ml sq
          simp [L1_mixed, t1, t2, sq, ml, ev_md (show 0 < m by omega), ap]
        refine ⟨hc _, [some (.tup (ms.map .int)), some (.tup (rs.map .int)), some (.ref S.length), some (.int m), some (.int r0), q5, q6], S ++ [.lst ((zs.map (·.1)).map .int)], by simp, ?_⟩
        simp only [e]
        refine ⟨zs ++ [((r0 - val zs % m) * v % m, m)], done ++ [(m, r0)], todo, _, _, _, _, rfl, rfl, rfl, by rw [e1]; simp, by simp [e2], ?_, ?_⟩
        · intro p hp
          rcases List.mem_append.mp hp with h | h
          · exact h1 p h
          · rw [List.mem_singleton.mp h]
            exact ⟨Int.emod_nonneg _ (by omega), Int.emod_lt_of_pos _ (by omega)⟩
        · intro p hp
          rw [val_snoc]
          rcases List.mem_append.mp hp with h | h
          · have dv : p.1 ∣ prodI (zs.map (·.2)) := dvd_prodI (by rw [e2]; exact List.mem_map_of_mem h)
            rw [Int.add_emod, Int.mul_emod, Int.emod_eq_zero_of_dvd dv, Int.zero_mul, Int.zero_emod, Int.add_zero, Int.emod_emod_of_dvd _ (Int.dvd_refl _)]
            exact h2 p h
          · rw [List.mem_singleton.mp h]
            show (val zs + prodI (zs.map (·.2)) * ((r0 - val zs % m) * v % m)) % m = r0 % m
            have g1 : prodI (zs.map (·.2)) * ((r0 - val zs % m) * v % m) % m = (r0 - val zs) % m := by
              rw [Int.mul_emod, Int.emod_emod_of_dvd _ (Int.dvd_refl m), ← Int.mul_emod, Int.mul_comm, Int.mul_assoc, Int.mul_emod (r0 - val zs % m)]
              have : v * prodI (zs.map (·.2)) % m = 1 := by
                have h3 := v3
                rw [Int.mul_emod, Int.emod_emod_of_dvd _ (Int.dvd_refl m), ← Int.mul_emod] at h3
                rw [h3, Int.emod_eq_of_lt (by omega) (by omega)]
              rw [this, Int.mul_one, Int.emod_emod_of_dvd _ (Int.dvd_refl m), Int.sub_emod, Int.emod_emod_of_dvd _ (Int.dvd_refl m), ← Int.sub_emod]
            rw [Int.add_emod, g1, ← Int.add_emod]
            congr 1
            omega
  obtain ⟨zs, q3, q4, q5, q6, e, h1, h2, h3⟩ := key (fun _ => true) (fun _ => rfl)
  refine ⟨zs, ?_, h1, h2, h3⟩
  have l := F_look_none hm hl hp S
  have tp := ev_tuple_ref (S := S ++ [.lst ((zs.map (·.1)).map .int)]) (n := S.length) (xs := (zs.map (·.1)).map .int) (by simp)
  have fi := fin_rt_app (S := S) (G := [.lst ((zs.map (·.1)).map .int)]) (d := .tup ((zs.map (·.1)).map .int)) (by simp only [Dat.lt]; exact lt_ints _ _)
  simp only [List.map_map] at tp fi e ⊢
  simp [F_mixed, mkFn, b_mixed, l, itZip, zipD_map, e, tp, fi]
end Law

namespace Law
open PySem PySem.Spec PyProof.Rows L2 Fx
theorem toPyL_ints : ∀ xs : List Int, toPyL (xs.map .int) = some (xs.map PyData.int)
  | [] => rfl
  | x :: xs => by simp [toPyL, toPy, toPyL_ints xs]
theorem lay_ints : ∀ xs : List Int, PyData.canLayAll0 (xs.map PyData.int) = true
  | [] => rfl
  | x :: xs => by simp [PyData.canLayAll0, PyData.canLay0, lay_ints xs]
theorem depth_ints : ∀ xs : List Int, PyData.depthAll (xs.map PyData.int) = 0
  | [] => rfl
  | x :: xs => by simp [PyData.depthAll, PyData.depth, depth_ints xs]
theorem eqv_ints : ∀ xs ys : List Int, PyData.eqvAll (xs.map PyData.int) (ys.map PyData.int) = decide (xs = ys)
  | [], [] => by simp [PyData.eqvAll]
  | [], y :: ys => by simp [PyData.eqvAll]
  | x :: xs, [] => by simp [PyData.eqvAll]
  | x :: xs, y :: ys => by
    simp only [List.map_cons, PyData.eqvAll, PyData.eqv, eqv_ints xs ys, List.cons.injEq, Bool.decide_and]
    rfl
theorem eqD_ints (xs ys : List Int) (S : Sto) : eqD (.tup (xs.map .int)) (.tup (ys.map .int)) S = some (decide (xs = ys)) := by
  have h : ∀ zs : List Int, toPy (look (.tup (zs.map .int)) S) = some (.tuple (zs.map PyData.int)) := fun zs => by
    show toPy (.tup (zs.map .int)) = _
    simp [toPy, toPyL_ints]
  have sh : ∀ zs : List Int, SeqAt.shaped (.tuple (zs.map PyData.int)) = true := fun zs => by
    simp [SeqAt.shaped, PyData.canLay0, lay_ints, PyData.depth, depth_ints]
  have e : eqD (.tup (xs.map .int)) (.tup (ys.map .int)) S = (match toPy (look (.tup (xs.map .int)) S), toPy (look (.tup (ys.map .int)) S) with
    | some p, some q => if SeqAt.shaped p && SeqAt.shaped q then some (PyData.eqv p q) else none
    | _, _ => none) := id rfl
  rw [e, h, h]
  simp only [sh, Bool.and_self, if_true, PyData.eqv, eqv_ints]
theorem ev_eqT (xs ys : List Int) (S : Sto) : oEq (.tup (xs.map .int)) (.tup (ys.map .int)) S = .ok (.bl (decide (xs = ys))) S := by unfold oEq; rw [eqD_ints]
theorem ev_neT (xs ys : List Int) (S : Sto) : oNe (.tup (xs.map .int)) (.tup (ys.map .int)) S = .ok (.bl (!decide (xs = ys))) S := by unfold oNe; rw [eqD_ints]
theorem Dg.digs {ms : List Int} (hm : Mods2 ms) {zs : List (Int × Int)} (h : Dg zs) (e : zs.map (·.2) = ms) : Digs zs := fun p hp => by
  have a := h p hp
  have b := hm p.2 (by rw [← e]; exact List.mem_map_of_mem hp)
  omega
theorem zip_of' {α β : Type} (zs : List (α × β)) {l : List β} (h : zs.map (·.2) = l) : (zs.map (·.1)).zip l = zs := by
  have := zip_of zs []
  rw [List.append_nil, h] at this
  exact this
theorem mixed_sol (ms rs : List Int) (hm : Mods2 ms) (hl : ms.length ≤ 41) (hp : PW ms) (hr : rs.length = ms.length) (hb : ∀ r ∈ rs, r.natAbs < 2 ^ 20) (x : Int) (hx : 0 ≤ x ∧ x < prodI ms) (hs : Sol x (ms.zip rs)) (S : Sto) :
    ∃ zs : List (Int × Int), F_mixed [.tup (ms.map .int), .tup (rs.map .int)] S = .ok (.tup ((zs.map (·.1)).map .int)) S ∧ zs.map (·.2) = ms ∧ Dg zs ∧ val zs = x := by
  obtain ⟨zs, e, h1, h2, h3⟩ := F_mixed_eq ms rs hm (by omega) hp hr hb S
  refine ⟨zs, e, h1, h2, ?_⟩
  have v := val_lt h2
  rw [h1] at v
  refine crt_eq hp v hx fun m hmm => ?_
  obtain ⟨i, hi, rfl⟩ := List.mem_iff_getElem.mp hmm
  have hin : (ms[i], rs[i]) ∈ ms.zip rs := List.mem_iff_getElem.mpr ⟨i, by simp [hr, hi], by simp⟩
  exact (h3 _ hin).trans (hs _ hin).symm
theorem F_put_back_sol (ms rs : List Int) (hm : Mods2 ms) (hl : ms.length ≤ 41) (hp : PW ms) (hr : rs.length = ms.length) (hb : ∀ r ∈ rs, r.natAbs < 2 ^ 20) (x : Int) (hx : 0 ≤ x ∧ x < prodI ms) (hs : Sol x (ms.zip rs)) (S : Sto) :
    F_put_back [.tup (ms.map .int), .tup (rs.map .int)] S = .ok (.int x) S := by
  obtain ⟨zs, e, h1, h2, h3⟩ := mixed_sol ms rs hm hl hp hr hb x hx hs S
  have z := zip_of' zs h1
  have n := F_number_told_eq ms (zs.map (·.1)) (by rw [z]; exact h2.digs hm h1) (by rw [z]; have := congrArg List.length h1; simp at this; omega) S
  rw [z, h3] at n
  simp only [List.map_map] at e n
  simp [F_put_back, mkFn, b_put_back, e, n]
theorem sol_rests (ms : List Int) (x : Int) : Sol x (ms.zip (ms.map fun m => x % m)) := fun p hp => by
  obtain ⟨i, hi, e⟩ := List.mem_iff_getElem.mp hp
  simp at e
  rw [← e]
  simp
theorem rests_small {ms : List Int} (hm : Mods2 ms) (x : Int) : ∀ r ∈ ms.map (fun m => x % m), r.natAbs < 2 ^ 20 := fun r hr => by
  obtain ⟨m, h1, rfl⟩ := List.mem_map.mp hr
  have := hm m h1
  have := Int.emod_nonneg x (show m ≠ 0 by omega)
  have := Int.emod_lt_of_pos x (show 0 < m by omega)
  omega
theorem F_are_digits_eq (ms : List Int) (zs : List (Int × Int)) (h1 : zs.map (·.2) = ms) (h2 : Dg zs) (hl : ms.length ≤ 1000) (S : Sto) : F_are_digits [.tup (ms.map .int), .tup ((zs.map (·.1)).map .int)] S = .ok (.bl true) S := by
  have hlen : zs.length = ms.length := by have := congrArg List.length h1; simpa using this
  have k1 : lcGo (stands (.tup ((zs.map (·.1)).map .int)) ((zs.map (·.1)).map .int)) (gN 2) bYes (eAnd (e1 (oIsa "int") (cV 2)) (eNot (e1 (oIsa "bool") (cV 2)))) [some (.tup (ms.map .int)), some (.tup ((zs.map (·.1)).map .int)), none, none] ((zs.map (·.1)).map .int) S = .ok ((zs.map fun _ => true).map Dat.bl) S := by
    have := lcGo_map (chk := stands (.tup ((zs.map (·.1)).map .int)) ((zs.map (·.1)).map .int)) (g := gN 2) (te := (eAnd (e1 (oIsa "int") (cV 2)) (eNot (e1 (oIsa "bool") (cV 2))))) (σ0 := [some (.tup (ms.map .int)), some (.tup ((zs.map (·.1)).map .int)), none, none]) (S := S) (fun _ => Dat.bl true) (by simp) ((zs.map (·.1)).map .int) (fun d hd => by
      obtain ⟨m, hm, rfl⟩ := List.mem_map.mp hd
      exact ⟨_, rfl, by
        have a : oIsa "int" (.int m) S = .ok (.bl true) S := rfl
        have b : oIsa "bool" (.int m) S = .ok (.bl false) S := rfl
        simp [a, b]⟩)
    rw [this]
    simp [Function.comp_def]
  have k2 : ∀ chk : Sto → Bool, chk S = true → lcGo chk (gT 2 (gsCons (gN 2) (gsCons (gN 3) gsNil))) bYes (eChain oLe oLt (cC (.int 0)) (cV 2) (cV 3)) [some (.tup (ms.map .int)), some (.tup ((zs.map (·.1)).map .int)), none, none] (zs.map pr) S = .ok ((zs.map fun _ => true).map Dat.bl) S := fun chk hc => by
    have := lcGo_map (chk := chk) (g := (gT 2 (gsCons (gN 2) (gsCons (gN 3) gsNil)))) (te := (eChain oLe oLt (cC (.int 0)) (cV 2) (cV 3))) (σ0 := [some (.tup (ms.map .int)), some (.tup ((zs.map (·.1)).map .int)), none, none]) (S := S) (fun _ => Dat.bl true) hc (zs.map pr) (fun d hd => by
      obtain ⟨p, hm, rfl⟩ := List.mem_map.mp hd
      have := h2 p hm
      exact ⟨[some (.tup (ms.map .int)), some (.tup ((zs.map (·.1)).map .int)), some (.int p.1), some (.int p.2)], by simp, by simp [this.1, this.2]⟩)
    rw [this]
    simp [Function.comp_def]
  have i1 : oIsa "tuple" (.tup ((zs.map (·.1)).map .int)) S = .ok (.bl true) S := rfl
  have z := zip_of' zs h1
  have hz : zipD ((zs.map (·.1)).map .int) (ms.map .int) = zs.map pr := by rw [zipD_map, z]
  have hs : small ms.length = true := small_of (by omega)
  have k2' := k2 (fun _ => true) rfl
  simp only [List.map_map] at k1 k2' i1 hz ⊢
  have all1 : oAll [.lst (List.map (Dat.bl ∘ fun _ => true) zs)] S = .ok (.bl true) S := by
    have := ev_all (bs := zs.map fun _ => true) (S := S)
    rw [List.map_map] at this
    rw [this]
    simp
  simp [F_are_digits, mkFn, b_are_digits, i1, hlen, k1, all1, itZip, hz, k2', hs]

theorem F_shows_mixed_eq (ms rs : List Int) (hm : Mods2 ms) (hl : ms.length ≤ 41) (hp : PW ms) (zs : List (Int × Int)) (h1 : zs.map (·.2) = ms) (h2 : Dg zs) (S : Sto) :
    F_shows_mixed [.tup (ms.map .int), .tup (rs.map .int), .tup ((zs.map (·.1)).map .int)] S = .ok (.bl (decide ((ms.map fun m => val zs % m) = rs))) S := by
  have z := zip_of' zs h1
  have n := F_number_told_eq ms (zs.map (·.1)) (by rw [z]; exact h2.digs hm h1) (by rw [z]; have := congrArg List.length h1; simp at this; omega) S
  rw [z] at n
  have a := F_are_digits_eq ms zs h1 h2 (by omega) S
  have sh := F_shared_none hm (by omega) hp S
  have r := F_rests_eq ms hm.mods (by omega) (val zs) S
  have e := ev_eqT (ms.map fun m => val zs % m) rs S
  have e2 : oIsNot .non .non S = .ok (.bl false) S := rfl
  simp only [List.map_map] at n a r e ⊢
  simp [F_shows_mixed, mkFn, b_shows_mixed, n, a, sh, r, e, e2]
/-- two numbers below all have the same rests just where they are one -/
theorem rests_inj {ms : List Int} (hp : PW ms) {x y : Int} (hx : 0 ≤ x ∧ x < prodI ms) (hy : 0 ≤ y ∧ y < prodI ms) : ((ms.map fun m => x % m) = ms.map fun m => y % m) ↔ x = y := by
  refine ⟨fun h => crt_eq hp hx hy fun m hm => ?_, fun h => by rw [h]⟩
  exact List.map_inj_left.mp h m hm
end Law

namespace Law
open PySem PySem.Spec PyProof.Rows L2 Fx
theorem getD_left {ms : List Int} {x : Int} {i : Nat} (h : i < ms.length) : (ms ++ [x]).getD i 0 = ms[i] := by
  simp [List.getD, List.getElem?_append_left h, h]
theorem getD_last {ms : List Int} {x : Int} : (ms ++ [x]).getD ms.length 0 = x := by simp [List.getD]
theorem F_shared_dup (ms : List Int) (hm : Mods2 ms) (hl : ms.length ≤ 41) (hp : PW ms) (a : Nat) (ha : a < ms.length) (S : Sto) : F_shared [.tup ((ms ++ [ms[a]]).map .int)] S = .ok (.tup [.int a, .int ms.length]) S := by
  have hm' : Mods (ms ++ [ms[a]]) := fun m h => by
    rcases List.mem_append.mp h with h | h
    · exact hm.mods m h
    · rw [List.mem_singleton.mp h]; exact hm.mods _ (List.getElem_mem ha)
  have pw := List.pairwise_iff_getElem.mp hp
  have g1 : ∀ i j : Nat, i < j → j < ms.length → gij (ms ++ [ms[a]]) i j = 1 := fun i j h1 h2 => by
    unfold gij
    rw [getD_left (by omega), getD_left h2]
    exact pw i j (by omega) h2 h1
  have g2 : ∀ i : Nat, i < ms.length → i ≠ a → gij (ms ++ [ms[a]]) i ms.length = 1 := fun i h1 h2 => by
    unfold gij
    rw [getD_left h1, getD_last]
    rcases Nat.lt_or_gt_of_ne h2 with h | h
    · exact pw i a h1 ha h
    · rw [Int.gcd_comm]; exact pw a i ha h1 h
  have g3 : 1 < gij (ms ++ [ms[a]]) a ms.length := by
    unfold gij
    rw [getD_left ha, getD_last, Int.gcd_self]
    have := hm _ (List.getElem_mem ha)
    omega
  rcases F_shared_cases (ms ++ [ms[a]]) hm' (by simp; omega) S with ⟨e, h⟩ | ⟨i, j, h1, h2, h3, h4, h5, e⟩
  · have := h a ms.length ha (by simp)
    omega
  · simp at h2
    have hj : j = ms.length := by
      rcases Nat.lt_or_ge j ms.length with h | h
      · have := g1 i j h1 h; omega
      · omega
    subst hj
    have hi : i = a := by
      by_cases h : i = a
      · exact h
      · have := g2 i h1 h; omega
    subst hi
    exact e
abbrev exS (a n : Int) : Ex := ⟨"Shared", [("second", .int n), ("first", .int a)]⟩
theorem F_look_dup (ms : List Int) (hm : Mods2 ms) (hl : ms.length ≤ 41) (hp : PW ms) (a : Nat) (ha : a < ms.length) (S : Sto) : F_look_apart [.tup ((ms ++ [ms[a]]).map .int)] S = .exc (exS a ms.length) S := by
  have e := F_shared_dup ms hm hl hp a ha S
  have e2 : ∀ x, oIsNot (.tup x) .non S = .ok (.bl true) S := fun x => rfl
  have i0 : oIx (.tup [.int (a : Int), .int (ms.length : Int)]) (.int 0) S = .ok (.int a) S := ev_ix_tup rfl
  have i1 : oIx (.tup [.int (a : Int), .int (ms.length : Int)]) (.int 1) S = .ok (.int ms.length) S := ev_ix_tup rfl
  simp only [List.map_append, List.map_cons, List.map_nil] at e ⊢
  simp [F_look_apart, mkFn, b_look_apart, e, e2, i0, i1]
theorem F_mixed_dup (ms : List Int) (hm : Mods2 ms) (hl : ms.length ≤ 41) (hp : PW ms) (a : Nat) (ha : a < ms.length) (y : Dat) (S : Sto) : F_mixed [.tup ((ms ++ [ms[a]]).map .int), y] S = .exc (exS a ms.length) S := by
  have e := F_look_dup ms hm hl hp a ha S
  simp only [List.map_append, List.map_cons, List.map_nil] at e ⊢
  simp [F_mixed, mkFn, b_mixed, e]
theorem F_put_back_dup (ms : List Int) (hm : Mods2 ms) (hl : ms.length ≤ 41) (hp : PW ms) (a : Nat) (ha : a < ms.length) (y : Dat) (S : Sto) : F_put_back [.tup ((ms ++ [ms[a]]).map .int), y] S = .exc (exS a ms.length) S := by
  have e := F_mixed_dup ms hm hl hp a ha y S
  simp only [List.map_append, List.map_cons, List.map_nil] at e ⊢
  simp [F_put_back, mkFn, b_put_back, e]
abbrev potO (c s t : Int) : Ob := .lst [.int c, .int s, .int t]
/-- behind some draws from the pot at n -/
def Ps (n : Nat) (S S' : Sto) : Prop := ∃ c s t : Int, 0 ≤ s ∧ s < 2 ^ 31 ∧ n < S.length ∧ S' = S.set n (potO c s t)
/-- the pot at n -/
def Pot (n : Nat) (S : Sto) : Prop := ∃ c s t : Int, 0 ≤ s ∧ s < 2 ^ 31 ∧ S[n]? = some (potO c s t)
theorem Pot.len {n : Nat} {S : Sto} (h : Pot n S) : n < S.length := by
  obtain ⟨c, s, t, _, _, e⟩ := h
  exact (List.getElem?_eq_some_iff.mp e).1
theorem Ps.pot {n : Nat} {S S' : Sto} (h : Ps n S S') : Pot n S' := by
  obtain ⟨c, s, t, h1, h2, h3, rfl⟩ := h
  exact ⟨c, s, t, h1, h2, by rw [List.getElem?_set_self h3]⟩
theorem Ps.trans {n : Nat} {S S1 S2 : Sto} (h : Ps n S S1) (h' : Ps n S1 S2) : Ps n S S2 := by
  obtain ⟨c, s, t, h1, h2, h3, rfl⟩ := h
  obtain ⟨c', s', t', h1', h2', h3', rfl⟩ := h'
  exact ⟨c', s', t', h1', h2', h3, by rw [List.set_set]⟩
theorem Pot.refl {n : Nat} {S : Sto} (h : Pot n S) : Ps n S S := by
  obtain ⟨c, s, t, h1, h2, e⟩ := h
  refine ⟨c, s, t, h1, h2, (List.getElem?_eq_some_iff.mp e).1, ?_⟩
  obtain ⟨h, e⟩ := List.getElem?_eq_some_iff.mp e
  rw [← e, List.set_getElem_self]
theorem Pot.app {n : Nat} {S G : Sto} (h : Pot n S) : Pot n (S ++ G) := by
  obtain ⟨c, s, t, h1, h2, e⟩ := h
  exact ⟨c, s, t, h1, h2, by rw [List.getElem?_append_left (List.getElem?_eq_some_iff.mp e).1]; exact e⟩
theorem potO_lt (c s t : Int) (n : Nat) : (potO c s t).lt n = true := by simp [Ob.lt, Dat.ltL, Dat.lt]
theorem ev_gIx {fo fi : EF} {σ : Sl} {S : Sto} {n : Nat} {k : Int} {xs : List Dat} {d : Dat} {j : Nat} (h1 : fo σ S = .ok (.ref n) S) (h2 : fi σ S = .ok (.int k) S) (h3 : S[n]? = some (.lst xs)) (h4 : ixN xs.length k = some j) :
    gIx fo fi d σ S = .ok σ (S.set n (.lst (xs.set j d))) := by
  unfold gIx
  rw [h1]
  simp only [ev_noX_ok, Res.bind_ok, h2]
  have : putD (.ref n) (.int k) d S = some (S.set n (.lst (xs.set j d))) := by
    unfold putD
    simp only [h3, h4]
  rw [this]
theorem F_pick_eq {n : Nat} {S : Sto} (h : Pot n S) (m : Int) (hm : 1 ≤ m ∧ m < 2 ^ 40) : ∃ v S', F_law_pick [.ref n, .int m] S = .ok (.int v) S' ∧ (0 ≤ v ∧ v < m) ∧ Ps n S S' := by
  obtain ⟨c, s, t, h1, h2, e⟩ := id h
  have hn := h.len
  have x0 := ev_ix_ref (S := S) (n := n) (x := 0) e (show atD [Dat.int c, .int s, .int t] 0 = some (.int c) from rfl)
  have x1 := ev_ix_ref (S := S) (n := n) (x := 1) e (show atD [Dat.int c, .int s, .int t] 1 = some (.int s) from rfl)
  have x2 := ev_ix_ref (S := S) (n := n) (x := 2) e (show atD [Dat.int c, .int s, .int t] 2 = some (.int t) from rfl)
  by_cases hc : 0 < c ∧ 0 < t
  · refine ⟨c % m, S.set n (potO (c / m) s (t - 1)), ?_, ⟨Int.emod_nonneg _ (by omega), Int.emod_lt_of_pos _ (by omega)⟩, c / m, s, t - 1, h1, h2, hn, rfl⟩
    have g1 : gIx (cV 0) (cC (.int 0)) (.int (c / m)) [some (.ref n), some (.int m), some (.int (c % m))] S = .ok [some (.ref n), some (.int m), some (.int (c % m))] (S.set n (potO (c / m) s t)) := ev_gIx (fo := cV 0) (fi := cC (.int 0)) (k := 0) (xs := [.int c, .int s, .int t]) (j := 0) (by simp) (by simp) e rfl
    have e1 : (S.set n (potO (c / m) s t))[n]? = some (potO (c / m) s t) := by rw [List.getElem?_set_self hn]
    have y2 := ev_ix_ref (S := S.set n (potO (c / m) s t)) (n := n) (x := 2) e1 (show atD [Dat.int (c / m), .int s, .int t] 2 = some (.int t) from rfl)
    have g2 : gIx (cV 0) (cC (.int 2)) (.int (t - 1)) [some (.ref n), some (.int m), some (.int (c % m))] (S.set n (potO (c / m) s t)) = .ok [some (.ref n), some (.int m), some (.int (c % m))] ((S.set n (potO (c / m) s t)).set n (potO (c / m) s (t - 1))) := ev_gIx (fo := cV 0) (fi := cC (.int 2)) (k := 2) (xs := [.int (c / m), .int s, .int t]) (j := 2) (by simp) (by simp) e1 rfl
    rw [List.set_set] at g2
    have fi := fin_rt_set0 (S := S) (d := .int (c % m)) (i := n) (o := potO (c / m) s (t - 1)) (by simp [Dat.lt]) (potO_lt _ _ _ _)
    simp [F_law_pick, mkFn, b_law_pick, x0, x2, hc.1, hc.2, ev_md (show 0 < m by omega), ev_fd (show 0 < m by omega) (show m.natAbs.log2 < 9000 by have := log2_le (show m.natAbs < 2 ^ 40 by omega); omega), g1, y2, g2, fi]
  · have m1 := Int.emod_nonneg (s * 48271 + 12345) (show (2147483647 : Int) ≠ 0 by decide)
    have m2 := Int.emod_lt_of_pos (s * 48271 + 12345) (show (0 : Int) < 2147483647 by decide)
    generalize hs' : (s * 48271 + 12345) % 2147483647 = s' at m1 m2
    refine ⟨s' * s' % 1999999973 % m, S.set n (potO c s' t), ?_, ⟨Int.emod_nonneg _ (show m ≠ 0 by omega), Int.emod_lt_of_pos _ (by omega)⟩, c, s', t, m1, by omega, hn, rfl⟩
    have g1 : gIx (cV 0) (cC (.int 1)) (.int s') [some (.ref n), some (.int m), none] S = .ok [some (.ref n), some (.int m), none] (S.set n (potO c s' t)) := ev_gIx (fo := cV 0) (fi := cC (.int 1)) (k := 1) (xs := [.int c, .int s, .int t]) (j := 1) (by simp) (by simp) e rfl
    have e1 : (S.set n (potO c s' t))[n]? = some (potO c s' t) := by rw [List.getElem?_set_self hn]
    have y1 := ev_ix_ref (S := S.set n (potO c s' t)) (n := n) (x := 1) e1 (show atD [Dat.int c, .int s', .int t] 1 = some (.int s') from rfl)
    have fi := fin_rt_set0 (S := S) (d := .int (s' * s' % 1999999973 % m)) (i := n) (o := potO c s' t) (by simp [Dat.lt]) (potO_lt _ _ _ _)
    have k1 : (if decide (0 < c) = true then (Res.ok (decide (0 < t)) S : Res Bool) else Res.ok false S) = Res.ok false S := by
      by_cases a : 0 < c
      · have b : ¬ 0 < t := fun b => hc ⟨a, b⟩
        simp [a, b]
      · simp [a]
    have ml1 := ev_ml' (S := S) 31 16 (show s.natAbs < 2 ^ 31 by omega) (show (48271 : Int).natAbs < 2 ^ 16 by decide) (by decide)
    have ml2 := ev_ml' (S := S.set n (potO c s' t)) 31 31 (show s'.natAbs < 2 ^ 31 by omega) (show s'.natAbs < 2 ^ 31 by omega) (by decide)
    simp [F_law_pick, mkFn, b_law_pick, x0, x1, x2]
    simp only [decide_eq_true_eq] at k1
    rw [k1]
    simp [x1, ml1, ev_md (show (0 : Int) < 2147483647 by decide), hs', g1, y1, ml2, ev_md (show (0 : Int) < 1999999973 by decide), ev_md (show 0 < m by omega), fi]
end Law

namespace Law
open PySem PySem.Spec PyProof.Rows L2 Fx
theorem tell1 : tellL [("Shared", true)] "Shared" = some true := by decide
theorem look1 (a n : Int) : List.lookup ("first" : Str) [(("second" : Str), Dat.int n), ("first", Dat.int a)] = some (.int a) := rfl
theorem look2 (a n : Int) : List.lookup ("second" : Str) [(("second" : Str), Dat.int n), ("first", Dat.int a)] = some (.int n) := rfl
theorem try1 {x0 : Dat} {a n : Int} {y z : Dat} {x : Option Dat} {S : Sto} (b : SF) (h : b [some x0, some y, some z, some .non, x] S = .exc (exS a n) [some x0, some y, some z, some .non, x] S) :
   sTry (tellL [("Shared", true)]) 4 b (fun e => (sSet 3 (eTup (aCons (eXf 4 e "first") (aCons (eXf 4 e "second") aNil))))) [some x0, some y, some z, some .non, x] S = .nx [some x0, some y, some z, some (.tup [.int a, .int n]), none] S := by
  rw [ev_sTry, h]
  simp only [tell1]
  simp only [ev_sSet, ev_eTup, ev_aCons, List.set_cons_succ, List.set_cons_zero, ev_eXf (i := 4) (e := exS a n) (x := "first") (d := .int a) (σ := [some x0, some y, some z, some Dat.non, none]) rfl (look1 a n), ev_eXf (i := 4) (e := exS a n) (x := "second") (d := .int n) (σ := [some x0, some y, some z, some Dat.non, none]) rfl (look2 a n)]
  simp

theorem F_law_refused_eq (ms : List Int) (hm : Mods2 ms) (hl : ms.length ≤ 41) (hp : PW ms) (a : Nat) (ha : a < ms.length) (y : Dat) (w : Int) (S : Sto) : F_law_refused [.int w, .tup ((ms ++ [ms[a]]).map .int), y] S = .ok (.tup [.int a, .int ms.length]) S := by
  have e := F_mixed_dup ms hm hl hp a ha y S
  have e' := F_put_back_dup ms hm hl hp a ha y S
  generalize hM : Dat.tup ((ms ++ [ms[a]]).map .int) = M at *
  have hb : (sIf (bV (e2 oEq (cV 0) (cC (.int 0)))) (sExpr (eCall 2 F_mixed (aCons (cV 1) (aCons (cV 2) aNil)))) (sExpr (eCall 2 F_put_back (aCons (cV 1) (aCons (cV 2) aNil))))) [some (.int w), some M, some y, some .non, none] S = .exc (exS a ms.length) [some (.int w), some M, some y, some .non, none] S := by
    generalize F_mixed = f1 at *
    generalize F_put_back = f2 at *
    by_cases hw : w = 0
    · simp [hw, e]
    · simp [hw, e']
  have key : ∀ b : SF, b [some (.int w), some M, some y, some .non, none] S = .exc (exS a ms.length) [some (.int w), some M, some y, some .non, none] S →
      mkFn 3 5 (sSeq (sSet 3 (cC .non)) (sSeq (sTry (tellL [("Shared", true)]) 4 b (fun e => (sSet 3 (eTup (aCons (eXf 4 e "first") (aCons (eXf 4 e "second") aNil)))))) (sRet (cV 3)))) [.int w, M, y] S = .ok (.tup [.int a, .int ms.length]) S := by
    intro b hb
    have h := try1 _ hb
    simp [mkFn, h, -ev_sTry]
  exact key _ hb
theorem F_modulus_eq {n : Nat} {S : Sto} (h : Pot n S) : ∃ v S', F_law_modulus [.ref n] S = .ok (.int v) S' ∧ (2 ≤ v ∧ v < 2 ^ 20) ∧ Ps n S S' := by
  obtain ⟨v1, S1, e1, b1, p1⟩ := F_pick_eq h 4 (by omega)
  obtain ⟨v2, S2, e2, b2, p2⟩ := F_pick_eq p1.pot 40 (by omega)
  obtain ⟨v3, S3, e3, b3, p3⟩ := F_pick_eq p2.pot 999998 (by omega)
  obtain ⟨k, S4, e4, b4, p4⟩ := F_pick_eq p3.pot 6 (by omega)
  have p := p1.trans (p2.trans (p3.trans p4))
  have w1 : oPw (.int 2) (.int 19) S3 = .ok (.int 524288) S3 := rfl
  have w2 : oPw (.int 3) (.int 12) S3 = .ok (.int 531441) S3 := rfl
  have ix : ∃ v : Int, oIx (.lst [.int (2 + v1), .int (2 + v2), .int (2 + v3), .int 999983, .int 524288, .int 531441]) (.int k) S4 = .ok (.int v) S4 ∧ (2 ≤ v ∧ v < 2 ^ 20) := by
    have : k = 0 ∨ k = 1 ∨ k = 2 ∨ k = 3 ∨ k = 4 ∨ k = 5 := by omega
    rcases this with rfl | rfl | rfl | rfl | rfl | rfl
    · exact ⟨2 + v1, ev_ix_lst rfl, by omega⟩
    · exact ⟨2 + v2, ev_ix_lst rfl, by omega⟩
    · exact ⟨2 + v3, ev_ix_lst rfl, by omega⟩
    · exact ⟨999983, ev_ix_lst rfl, by omega⟩
    · exact ⟨524288, ev_ix_lst rfl, by omega⟩
    · exact ⟨531441, ev_ix_lst rfl, by omega⟩
  obtain ⟨v, e5, hv⟩ := ix
  refine ⟨v, S4, ?_, hv, p⟩
  obtain ⟨c, s, t, _, _, _, rfl⟩ := p
  have fi := fin_rt_set0 (S := S) (d := .int v) (i := n) (o := potO c s t) (by simp [Dat.lt]) (potO_lt _ _ _ _)
  simp [F_law_modulus, mkFn, b_law_modulus, e1, e2, e3, w1, w2, e4, e5, fi]
theorem ints_of {P : Int → Prop} : ∀ {ys : List Dat}, (∀ y ∈ ys, ∃ v : Int, y = .int v ∧ P v) → ∃ ms : List Int, ys = ms.map .int ∧ ∀ m ∈ ms, P m
  | [], _ => ⟨[], rfl, fun m h => (by cases h)⟩
  | y :: ys, hy => by
    obtain ⟨ms, rfl, h1⟩ := ints_of (ys := ys) fun z hz => hy z (List.mem_cons_of_mem _ hz)
    obtain ⟨v, rfl, hv⟩ := hy y List.mem_cons_self
    exact ⟨v :: ms, rfl, fun m hm => by
      rcases List.mem_cons.mp hm with rfl | hm
      · exact hv
      · exact h1 m hm⟩
theorem F_moduli_eq {n : Nat} {S : Sto} (h : Pot n S) : ∃ (ms : List Int) (S' : Sto), F_law_moduli [.ref n] S = .ok (.tup (ms.map .int)) S' ∧ Mods2 ms ∧ 1 ≤ ms.length ∧ ms.length ≤ 40 ∧ Ps n S S' := by
  obtain ⟨v1, S1, e1, b1, p1⟩ := F_pick_eq h 8 (by omega)
  have ix : ∃ iv v : Int, oInt [.bl (decide (v1 = 7))] S1 = .ok (.int iv) S1 ∧ oIx (.lst [.int 7, .int 40]) (.int iv) S1 = .ok (.int v) S1 ∧ 1 ≤ v ∧ v ≤ 40 := by
    by_cases h7 : v1 = 7
    · exact ⟨1, 40, by rw [decide_eq_true h7]; rfl, ev_ix_lst rfl, by omega⟩
    · exact ⟨0, 7, by rw [decide_eq_false h7]; rfl, ev_ix_lst rfl, by omega⟩
  obtain ⟨iv, most, i1, i2, hm⟩ := ix
  obtain ⟨v2, S2, e2, b2, p2⟩ := F_pick_eq p1.pot most (by omega)
  obtain ⟨ys, S3, e3, p3, hl, hy⟩ := lcGo_rel (chk := fun _ => true) (g := gN 2) (te := eCall 1 F_law_modulus (aCons (cV 0) aNil)) (σ0 := [some (.ref n), some (.int most), none]) (Ps n S2) (fun d => ∃ v : Int, d = .int v ∧ 2 ≤ v ∧ v < 2 ^ 20) (fun _ _ => rfl) (rangeD 0 1 (1 + v2).toNat) S2 (fun d hd S' hS' => by
    obtain ⟨v, S3, e, hv, p⟩ := F_modulus_eq hS'.pot
    exact ⟨[some (.ref n), some (.int most), some d], S', .int v, S3, rfl, by simp [e], hS'.trans p, v, rfl, hv⟩) p2.pot.refl
  obtain ⟨ms, rfl, h1⟩ := ints_of hy
  rw [rangeD_len, List.length_map] at hl
  have p := p1.trans (p2.trans p3)
  refine ⟨ms, S3, ?_, h1, by omega, by omega, p⟩
  obtain ⟨c, s, t, _, _, _, rfl⟩ := p
  have fi := fin_rt_set0 (S := S) (d := .tup (ms.map .int)) (i := n) (o := potO c s t) (by simp only [Dat.lt]; exact lt_ints _ _) (potO_lt _ _ _ _)
  have rg := ev_rng1 (S := S2) (show (0 : Int) ≤ 1 + v2 by omega) (by omega)
  have sm : small (rangeD 0 1 (1 + v2).toNat).length = true := small_of (by rw [rangeD_len]; omega)
  simp [F_law_moduli, mkFn, b_law_moduli, e1, i1, i2, e2, rg, sm, e3, fi]
theorem all_gcd (m : Int) (hm : 1 ≤ m ∧ m < 2 ^ 20) (ks : List Int) (hk : Mods ks) (S : Sto) (te : EF) (σ0 : Sl) (g : GF) (chk : Sto → Bool) (hc : chk S = true)
    (he : ∀ k : Int, ∃ σ2, g (.int k) σ0 S = .ok σ2 S ∧ te σ2 S = (F_law_gcd [.int m, .int k] S).bind fun d S1 => oEq d (.int 1) S1) :
    lcGo chk g bYes te σ0 (ks.map .int) S = .ok ((ks.map fun k => decide (Int.gcd m k = 1)).map .bl) S := by
  have := lcGo_map (chk := chk) (g := g) (te := te) (σ0 := σ0) (S := S) (fun d => match d with | .int k => .bl (decide (Int.gcd m k = 1)) | d => d) hc (ks.map .int) (fun d hd => by
    obtain ⟨k, h1, rfl⟩ := List.mem_map.mp hd
    have hk := hk k h1
    obtain ⟨σ2, e1, e2⟩ := he k
    refine ⟨σ2, e1, ?_⟩
    rw [e2, F_law_gcd_eq m k (by omega) (by omega) (by omega)]
    have : decide (((Int.gcd m k : Nat) : Int) = 1) = decide (Int.gcd m k = 1) := decide_eq_decide.mpr (by omega)
    simp only [Res.bind_ok, ev_eqI, this])
  rw [this]
  simp [Function.comp_def]
theorem F_apart_eq (ms : List Int) (hm : Mods2 ms) (hl : ms.length ≤ 41) (h1 : 1 ≤ ms.length) (S : Sto) : ∃ ks : List Int, F_law_apart [.tup (ms.map .int)] S = .ok (.tup (ks.map .int)) S ∧ Mods2 ks ∧ PW ks ∧ ks.length ≤ 41 ∧ 1 ≤ ks.length := by
  have key : ∀ chk : Sto → Bool, (∀ S, chk S = true) → ∃ (ks : List Int) (q2 q3 : Option Dat), forGo chk (gN 2) L1_law_apart (ms.map .int) [some (.tup (ms.map .int)), some (.ref S.length), none, none] (S ++ [.lst []]) = .nx [some (.tup (ms.map .int)), some (.ref S.length), q2, q3] (S ++ [.lst (ks.map .int)]) ∧ Mods2 ks ∧ PW ks ∧ ks.length ≤ 41 ∧ 1 ≤ ks.length := by
    intro chk hc
    refine forGo_ind (fun xs σ S' => ∃ (ks todo : List Int) (q2 q3 : Option Dat), xs = todo.map .int ∧ σ = [some (.tup (ms.map .int)), some (.ref S.length), q2, q3] ∧ S' = S ++ [.lst (ks.map .int)] ∧ Mods2 todo ∧ Mods2 ks ∧ PW ks ∧ ks.length + todo.length ≤ 41 ∧ (todo = [] → 1 ≤ ks.length))
      (fun o => ∃ (ks : List Int) (q2 q3 : Option Dat), o = .nx [some (.tup (ms.map .int)), some (.ref S.length), q2, q3] (S ++ [.lst (ks.map .int)]) ∧ Mods2 ks ∧ PW ks ∧ ks.length ≤ 41 ∧ 1 ≤ ks.length) ?_ ?_ _ _ _
      ⟨[], ms, none, none, rfl, rfl, rfl, hm, fun m h => (by cases h), List.Pairwise.nil, by simpa using hl, fun h => by subst h; simp at h1⟩
    · rintro σ S' ⟨ks, todo, q2, q3, hx, rfl, rfl, h2, h3, h4, h5, h6⟩
      have : todo = [] := by cases todo <;> simp_all
      subst this
      exact ⟨hc _, ks, q2, q3, rfl, h3, h4, by simpa using h5, h6 rfl⟩
    · rintro d r σ S' ⟨ks, todo, q2, q3, hx, rfl, rfl, h2, h3, h4, h5, h6⟩
      cases todo with
      | nil => cases hx
      | cons m todo =>
        simp only [List.map_cons, List.cons.injEq] at hx
        obtain ⟨rfl, rfl⟩ := hx
        have hmm := h2 m List.mem_cons_self
        have h2' : Mods2 todo := fun x hx => h2 x (List.mem_cons_of_mem _ hx)
        refine ⟨hc _, [some (.tup (ms.map .int)), some (.ref S.length), some (.int m), q3], S ++ [.lst (ks.map .int)], by simp, ?_⟩
        have sq : seqA (.ref S.length) (S ++ [.lst (ks.map .int)]) = some (ks.map .int) := ev_seqA_ref (by simp)
        have sl : seqL (.ref S.length) (S ++ [.lst (ks.map .int)]) = some (ks.map .int) := ev_seqL_ref (by simp)
        have ag := all_gcd m (by omega) ks h3.mods (S ++ [.lst (ks.map .int)]) (e2 oEq (eCall 2 F_law_gcd (aCons (cV 2) (aCons (cV 3) aNil))) (cC (.int 1))) [some (.tup (ms.map .int)), some (.ref S.length), some (.int m), none] (gN 3) (stands (.ref S.length) (ks.map .int)) (by simp [stands, sq]) (fun k => ⟨[some (.tup (ms.map .int)), some (.ref S.length), some (.int m), some (.int k)], rfl, by simp⟩)
        have all1 := ev_all (bs := ks.map fun k => decide (Int.gcd m k = 1)) (S := S ++ [.lst (ks.map .int)])
        have sm : small ks.length = true := small_of (by omega)
        have ap := ev_append (S := S ++ [.lst (ks.map .int)]) (n := S.length) (d := .int m) (xs := ks.map .int) (by simp) (by rw [sizeLine_eq]; simp; omega)
        have e : L1_law_apart [some (.tup (ms.map .int)), some (.ref S.length), some (.int m), q3] (S ++ [.lst (ks.map .int)]) = if (ks.map fun k => decide (Int.gcd m k = 1)).all id = true then .nx [some (.tup (ms.map .int)), some (.ref S.length), some (.int m), q3] (S ++ [.lst ((ks ++ [m]).map .int)]) else .nx [some (.tup (ms.map .int)), some (.ref S.length), some (.int m), q3] (S ++ [.lst (ks.map .int)]) := by
          unfold L1_law_apart
          generalize F_law_gcd = f at *
          simp only [ev_sIf, ev_bV, ev_eA, ev_aCons, ev_aNil, ev_eLc, ev_eLcA, ev_iSeq, ev_cV (show [some (Dat.tup (ms.map .int)), some (.ref S.length), some (.int m), q3][1]? = _ from rfl), Res.bind_ok, sq, List.length_map, sm, ev_guard_true, ev_wipe1, ev_wipe0, List.set_cons_succ, List.set_cons_zero, ag, all1, Res.out_ok]
          by_cases hall : (ks.map fun k => decide (Int.gcd m k = 1)).all id = true
          · rw [if_pos hall, if_pos hall]
            simp [sl, ap]
          · rw [if_neg hall, if_neg hall]
            simp
        rw [e]
        by_cases hall : (ks.map fun k => decide (Int.gcd m k = 1)).all id = true
        · rw [if_pos hall]
          refine ⟨ks ++ [m], todo, _, _, rfl, rfl, rfl, h2', ?_, ?_, by simp at h5 ⊢; omega, fun _ => by simp⟩
          · intro x hx
            rcases List.mem_append.mp hx with hx | hx
            · exact h3 x hx
            · rw [List.mem_singleton.mp hx]; exact hmm
          · refine List.pairwise_append.mpr ⟨h4, List.pairwise_singleton _ _, fun a ha b hb => ?_⟩
            rw [List.mem_singleton.mp hb, Int.gcd_comm]
            simp only [List.all_map, List.all_eq_true, Function.comp, id, decide_eq_true_eq] at hall
            exact hall a ha
        · rw [if_neg hall]
          refine ⟨ks, todo, _, _, rfl, rfl, rfl, h2', h3, h4, by simp at h5 ⊢; omega, fun _ => ?_⟩
          cases ks with
          | nil => simp at hall
          | cons _ _ => simp
  obtain ⟨ks, q2, q3, e, h2, h3, h4, h5⟩ := key (stands (.tup (ms.map .int)) (ms.map .int)) (fun S => by simp)
  refine ⟨ks, ?_, h2, h3, h4, h5⟩
  have tp := ev_tuple_ref (S := S ++ [.lst (ks.map .int)]) (n := S.length) (xs := ks.map .int) (by simp)
  have fi := fin_rt_app (S := S) (G := [.lst (ks.map .int)]) (d := .tup (ks.map .int)) (by simp only [Dat.lt]; exact lt_ints _ _)
  simp [F_law_apart, mkFn, b_law_apart, e, tp, fi]
end Law

namespace Law
open PySem PySem.Spec PyProof.Rows L2 Fx
theorem str_len {v : Int} (h0 : 0 ≤ v) (h : v < 10 ^ 400) : (Str.ofString (toString v)).length ≤ 400 := toString_length_le h0 (by decide) h
theorem below10 {v : Int} (h0 : 0 ≤ v) (h : v.natAbs < 2 ^ big) : v < 10 ^ 400 := by
  have e : (2 : Nat) ^ 1000 ≤ 10 ^ 400 := by decide +kernel
  have h' : v.natAbs < 10 ^ 400 := Nat.lt_of_lt_of_le h e
  have : ((v.natAbs : Nat) : Int) < ((10 ^ 400 : Nat) : Int) := Int.ofNat_lt.mpr h'
  rw [Int.natAbs_of_nonneg h0] at this
  push_cast at this
  exact this
theorem F_below_eq {n : Nat} {S : Sto} (h : Pot n S) (every : Int) (he : 1 ≤ every) (hb : every.natAbs < 2 ^ big) : ∃ v S', F_law_below [.ref n, .int every] S = .ok (.int v) S' ∧ (0 ≤ v ∧ v < every) ∧ Ps n S S' := by
  have hl := str_len (show 0 ≤ every by omega) (below10 (by omega) hb)
  have os : oStr [.int every] S = .ok (.str (toString every)) S := by
    have : every.natAbs.log2 < 1920 := by have h1 := log2_le hb; have h2 : big = 1000 := rfl; omega
    have e : oStr [.int every] S = Res.guard (decide (every.natAbs.log2 < 1920)) (.ok (.str (toString every)) S) := id rfl
    rw [e, decide_eq_true this]
    rfl
  generalize (toString every : Str) = z at hl os
  have ol : oLen [.str z] S = .ok (.int z.length) S := by
    have e : oLen [.str z] S = Res.guard (small z.length) (.ok (.int z.length) S) := id rfl
    rw [e, small_of (by omega)]
    rfl
  have hq : 0 ≤ (z.length : Int) / 6 ∧ (z.length : Int) / 6 ≤ 67 := by omega
  have hN : (1 + (z.length : Int) / 6).toNat ≤ 68 := by omega
  have pw : ∀ S, oPw (.int 10) (.int 6) S = .ok (.int 1000000) S := fun S => id rfl
  have key : ∃ far q S1, forGo (fun _ => true) (gN 3) L1_law_below (rangeD 0 1 (1 + (z.length : Int) / 6).toNat) [some (.ref n), some (.int every), some (.int 0), none] S = .nx [some (.ref n), some (.int every), some (.int far), q] S1 ∧ Ps n S S1 := by
    have := forGo_ind (chk := fun _ => true) (g := gN 3) (body := L1_law_below) (fun xs σ S' => ∃ (far : Int) (q : Option Dat) (k : Nat), xs.length + k = (1 + (z.length : Int) / 6).toNat ∧ σ = [some (.ref n), some (.int every), some (.int far), q] ∧ far.natAbs < 2 ^ (21 * k + 1) ∧ Ps n S S')
      (fun o => ∃ far q S1, o = .nx [some (.ref n), some (.int every), some (.int far), q] S1 ∧ Ps n S S1) ?_ ?_ (rangeD 0 1 (1 + (z.length : Int) / 6).toNat) [some (.ref n), some (.int every), some (.int 0), none] S ⟨0, none, 0, by rw [rangeD_len]; omega, rfl, by simp, h.refl⟩
    · exact this
    · rintro σ S' ⟨far, q, k, hk, rfl, hf, p⟩
      exact ⟨rfl, far, q, S', rfl, p⟩
    · rintro d r σ S' ⟨far, q, k, hk, rfl, hf, p⟩
      refine ⟨rfl, [some (.ref n), some (.int every), some (.int far), some d], S', rfl, ?_⟩
      obtain ⟨v, S2, e, hv, p2⟩ := F_pick_eq p.pot 1000000 (by omega)
      have hk' : k ≤ 68 := by simp at hk; omega
      have ml := ev_ml' (S := S') (21 * k + 1) 20 hf (show (1000000 : Int).natAbs < 2 ^ 20 by decide) (by omega)
      have e2 : L1_law_below [some (.ref n), some (.int every), some (.int far), some d] S' = .nx [some (.ref n), some (.int every), some (.int (far * 1000000 + v)), some d] S2 := by simp [L1_law_below, pw, ml, e]
      rw [e2]
      refine ⟨_, _, k + 1, by simp only [List.length_cons] at hk; omega, rfl, ?_, p.trans p2⟩
      have a1 : (far * 1000000 + v).natAbs ≤ far.natAbs * 1000000 + 1000000 := by omega
      have a2 : 2 ^ (21 * (k + 1) + 1) = 2 ^ (21 * k + 1) * 2 ^ 21 := by rw [← Nat.pow_add]; congr 1
      rw [a2]
      omega
  obtain ⟨far, q, S1, e1, p1⟩ := key
  obtain ⟨k, S2, e2, hk, p2⟩ := F_pick_eq p1.pot 6 (by omega)
  have md := ev_md (S := S1) (x := far) (show 0 < every by omega)
  have md1 := ev_md (S := S1) (x := 1) (show 0 < every by omega)
  have fd := ev_fd (S := S1) (x := every) (show (0 : Int) < 2 by omega) (by decide)
  have fd6 := ev_fd (S := S) (x := (z.length : Int)) (show (0 : Int) < 6 by omega) (by decide)
  have f1 := Int.emod_nonneg far (show every ≠ 0 by omega)
  have f2 := Int.emod_lt_of_pos far (show 0 < every by omega)
  have f3 := Int.emod_nonneg 1 (show every ≠ 0 by omega)
  have f4 := Int.emod_lt_of_pos 1 (show 0 < every by omega)
  have ix : ∃ v : Int, oIx (.lst [.int 0, .int (every - 1), .int (every / 2), .int (far % every), .int (far % every), .int (1 % every)]) (.int k) S2 = .ok (.int v) S2 ∧ (0 ≤ v ∧ v < every) := by
    have : k = 0 ∨ k = 1 ∨ k = 2 ∨ k = 3 ∨ k = 4 ∨ k = 5 := by omega
    rcases this with rfl | rfl | rfl | rfl | rfl | rfl
    · exact ⟨0, ev_ix_lst rfl, by omega⟩
    · exact ⟨every - 1, ev_ix_lst rfl, by omega⟩
    · exact ⟨every / 2, ev_ix_lst rfl, by omega⟩
    · exact ⟨far % every, ev_ix_lst rfl, by omega⟩
    · exact ⟨far % every, ev_ix_lst rfl, by omega⟩
    · exact ⟨1 % every, ev_ix_lst rfl, by omega⟩
  obtain ⟨v, e5, hv⟩ := ix
  have p := p1.trans p2
  refine ⟨v, S2, ?_, hv, p⟩
  obtain ⟨c, s, t, _, _, _, rfl⟩ := p
  have fi := fin_rt_set0 (S := S) (d := .int v) (i := n) (o := potO c s t) (by simp [Dat.lt]) (potO_lt _ _ _ _)
  have rg := ev_rng1 (S := S) (show (0 : Int) ≤ 1 + (z.length : Int) / 6 by omega) (by omega)
  simp [F_law_below, mkFn, b_law_below, os, ol, fd6, rg, e1, md, md1, fd, e2, e5, fi]
theorem F_few_eq {n : Nat} {S : Sto} (h : Pot n S) : ∃ (ks : List Int) (S' : Sto), F_law_few [.ref n] S = .ok (.tup (ks.map .int)) S' ∧ Mods2 ks ∧ PW ks ∧ ks.length ≤ 41 ∧ 1 ≤ ks.length ∧ Ps n S S' := by
  have key : ∃ (ks : List Int) (q2 q3 q4 : Option Dat) (S1 : Sto), forGo (fun _ => true) (gN 2) L1_law_few (rangeD 0 1 5) [some (.ref n), some (.tup []), none, none, none] S = .nx [some (.ref n), some (.tup (ks.map .int)), q2, q3, q4] S1 ∧ Mods2 ks ∧ PW ks ∧ ks.length ≤ 41 ∧ 1 ≤ ks.length ∧ Ps n S S1 := by
    have := forGo_ind (chk := fun _ => true) (g := gN 2) (body := L1_law_few) (fun xs σ S' => ∃ (ks : List Int) (q2 q3 : Option Dat), xs.length + ks.length ≤ 5 ∧ (ks = [] → xs ≠ []) ∧ σ = [some (.ref n), some (.tup (ks.map .int)), q2, q3, none] ∧ Mods2 ks ∧ PW ks ∧ Ps n S S')
      (fun o => ∃ (ks : List Int) (q2 q3 q4 : Option Dat) (S1 : Sto), o = .nx [some (.ref n), some (.tup (ks.map .int)), q2, q3, q4] S1 ∧ Mods2 ks ∧ PW ks ∧ ks.length ≤ 41 ∧ 1 ≤ ks.length ∧ Ps n S S1) ?_ ?_ (rangeD 0 1 5) [some (.ref n), some (.tup []), none, none, none] S ⟨[], none, none, by rw [rangeD_len]; simp, fun _ => by simp [rangeD], rfl, fun m h => (by cases h), List.Pairwise.nil, h.refl⟩
    · exact this
    · rintro σ S' ⟨ks, q2, q3, hk, hne, rfl, h1, h2, p⟩
      refine ⟨rfl, ks, q2, q3, none, S', rfl, h1, h2, by simp at hk; omega, ?_, p⟩
      cases ks with
      | nil => exact absurd rfl (hne rfl)
      | cons _ _ => simp
    · rintro d r σ S' ⟨ks, q2, q3, hk, hne, rfl, h1, h2, p⟩
      refine ⟨rfl, [some (.ref n), some (.tup (ks.map .int)), some d, q3, none], S', rfl, ?_⟩
      obtain ⟨v, S2, e, hv, p2⟩ := F_pick_eq p.pot 12 (by omega)
      have hkl : ks.length ≤ 5 := by omega
      have la := F_law_all_eq ks h1.mods (by omega) S2
      have pb := prodI_big h1.mods (show ks.length ≤ 41 by omega)
      have ml := ev_ml' (S := S2) (x := prodI ks) (y := 2 + v) big 20 pb (by omega) (by decide)
      have ag := all_gcd (2 + v) (by omega) ks h1.mods S2 (e2 oEq (eCall 2 F_law_gcd (aCons (cV 3) (aCons (cV 4) aNil))) (cC (.int 1))) [some (.ref n), some (.tup (ks.map .int)), some d, some (.int (2 + v)), none] (gN 4) (stands (.tup (ks.map .int)) (ks.map .int)) (by simp) (fun k => ⟨[some (.ref n), some (.tup (ks.map .int)), some d, some (.int (2 + v)), some (.int k)], rfl, by simp⟩)
      have all1 := ev_all (bs := ks.map fun k => decide (Int.gcd (2 + v) k = 1)) (S := S2)
      have sm : small ks.length = true := small_of (by omega)
      have cat : oAdd (.tup (ks.map .int)) (.tup [.int (2 + v)]) S2 = .ok (.tup ((ks ++ [2 + v]).map .int)) S2 := by
        have e : oAdd (.tup (ks.map .int)) (.tup [.int (2 + v)]) S2 = Res.guard (decide ((ks.map Dat.int).length + [Dat.int (2 + v)].length ≤ sizeLine)) (.ok (.tup (ks.map .int ++ [.int (2 + v)])) S2) := id rfl
        rw [e, decide_eq_true (by rw [sizeLine_eq]; simp; omega)]
        simp
      have hB : (ks.map fun k => decide (Int.gcd (2 + v) k = 1)).all id = true → ∀ k ∈ ks, Int.gcd (2 + v) k = 1 := fun h => by
        simp only [List.all_map, List.all_eq_true, Function.comp, id, decide_eq_true_eq] at h
        exact h
      have hB0 : ks = [] → prodI ks * (2 + v) ≤ 3000 ∧ (ks.map fun k => decide (Int.gcd (2 + v) k = 1)).all id = true := fun h => by
        subst h
        simp [prodI]
        omega
      have nx : ∀ m, m = 2 + v → 2 ≤ m ∧ m < 2 ^ 20 := fun m hm => by omega
      generalize (ks.map fun k => decide (Int.gcd (2 + v) k = 1)) = B at *
      generalize hC : B.all id = C at *
      by_cases hall : (prodI ks * (2 + v) ≤ 3000) ∧ C = true
      · have e3 : L1_law_few [some (.ref n), some (.tup (ks.map .int)), some d, q3, none] S' = .nx [some (.ref n), some (.tup ((ks ++ [2 + v]).map .int)), some d, some (.int (2 + v)), none] S2 := by
          unfold L1_law_few
          generalize F_law_gcd = f at *
          generalize F_law_all = f2 at *
          simp [e, la, ml, hall.1, hall.2, sm, ag, all1, cat]
        rw [e3]
        refine ⟨ks ++ [2 + v], _, _, by simp at hk ⊢; omega, fun h => by simp at h, rfl, ?_, ?_, p.trans p2⟩
        · intro x hx
          rcases List.mem_append.mp hx with hx | hx
          · exact h1 x hx
          · exact nx x (List.mem_singleton.mp hx)
        · refine List.pairwise_append.mpr ⟨h2, List.pairwise_singleton _ _, fun a ha b hb => ?_⟩
          rw [List.mem_singleton.mp hb, Int.gcd_comm]
          exact hB hall.2 a ha
      · have e3 : L1_law_few [some (.ref n), some (.tup (ks.map .int)), some d, q3, none] S' = .nx [some (.ref n), some (.tup (ks.map .int)), some d, some (.int (2 + v)), none] S2 := by
          unfold L1_law_few
          generalize F_law_gcd = f at *
          generalize F_law_all = f2 at *
          by_cases h3 : prodI ks * (2 + v) ≤ 3000
          · have hc : C = false := by cases C with | false => rfl | true => exact absurd ⟨h3, rfl⟩ hall
            simp [e, la, ml, h3, hc, sm, ag, all1]
          · simp [e, la, ml, h3]
        rw [e3]
        exact ⟨ks, _, _, by simp at hk; omega, fun h => absurd (hB0 h) hall, rfl, h1, h2, p.trans p2⟩
  obtain ⟨ks, q2, q3, q4, S1, e1, h1, h2, h3, h4, p⟩ := key
  refine ⟨ks, S1, ?_, h1, h2, h3, h4, p⟩
  obtain ⟨c, s, t, _, _, _, rfl⟩ := p
  have fi := fin_rt_set0 (S := S) (d := .tup (ks.map .int)) (i := n) (o := potO c s t) (by simp only [Dat.lt]; exact lt_ints _ _) (potO_lt _ _ _ _)
  have rg := ev_rng1 (S := S) (show (0 : Int) ≤ 5 by omega) (by omega)
  have rg' : (5 : Int).toNat = 5 := rfl
  rw [rg'] at rg
  simp [F_law_few, mkFn, b_law_few, rg, e1, fi]
end Law

namespace Law
open PySem PySem.Spec PyProof.Rows L2 Fx
theorem fin_rt_ref {S S' : Sto} : fin S (.rt (.ref S.length) S') = .ok (.ref S.length) S' := by
  show trunc S _ _ S' = _
  unfold trunc
  simp [Dat.lt]
theorem F_cell_eq (ns : List Int) (i : Int) (hi : 0 ≤ i) (S : Sto) : ∃ v : Int, F_law_cell_at [.scr ns, .int i] S = .ok (.int v) S := by
  by_cases h : i < ns.length
  · obtain ⟨k, rfl⟩ := Int.eq_ofNat_of_zero_le hi
    have hk : k < ns.length := by omega
    have ix := ev_ix_scr (S := S) (xs := ns) (x := (k : Int)) (atD_int hk)
    exact ⟨ns.getD k 0, by simp [F_law_cell_at, mkFn, b_law_cell_at, hk, ix]⟩
  · exact ⟨0, by simp [F_law_cell_at, mkFn, b_law_cell_at, h]⟩
theorem F_left_eq (ns : List Int) (k : Int) (hk : 0 ≤ k ∧ k ≤ 8) (S : Sto) : ∃ c s : Int, F_law_left [.scr ns, .int k] S = .ok (.ref S.length) (S ++ [potO c s 60]) ∧ 0 ≤ s ∧ s < 2 ^ 31 := by
  have mx : oMax2 [.int 1, .int ns.length] S = .ok (.int (if (ns.length : Int) > 1 then (ns.length : Int) else 1)) S := id rfl
  generalize hM : (if (ns.length : Int) > 1 then (ns.length : Int) else 1) = M at mx
  have hM1 : 1 ≤ M := by rw [← hM]; split <;> omega
  have md := ev_md (S := S) (x := k) (show 0 < M by omega)
  obtain ⟨v, e1⟩ := F_cell_eq ns (k % M) (Int.emod_nonneg _ (by omega)) S
  have m1 := ev_md (S := S) (x := v) (show (0 : Int) < 2147483629 by decide)
  have b1 := Int.emod_nonneg v (show (2147483629 : Int) ≠ 0 by decide)
  have b2 := Int.emod_lt_of_pos v (show (0 : Int) < 2147483629 by decide)
  generalize v % 2147483629 = v1 at *
  have l1 := ev_ml' (S := S) (x := 7919) (y := k) 13 4 (by decide) (by omega) (by decide)
  have l2 := ev_ml' (S := S) (x := 7919 * k) (y := k) 20 4 (by omega) (by omega) (by decide)
  have kk : (7919 * k * k).natAbs < 2 ^ 30 := by
    rw [Int.natAbs_mul]
    have a1 : (7919 * k).natAbs ≤ 63352 := by omega
    have a2 : k.natAbs ≤ 8 := by omega
    exact Nat.lt_of_le_of_lt (Nat.mul_le_mul a1 a2) (by decide)
  have l3 := ev_ml' (S := S) (x := v1 + 7919 * k * k + 11) (y := 48271) 33 16 (by generalize 7919 * k * k = z at *; omega) (by decide) (by decide)
  have m2 := ev_md (S := S) (x := (v1 + 7919 * k * k + 11) * 48271) (show (0 : Int) < 2147483647 by decide)
  have b3 := Int.emod_nonneg ((v1 + 7919 * k * k + 11) * 48271) (show (2147483647 : Int) ≠ 0 by decide)
  have b4 := Int.emod_lt_of_pos ((v1 + 7919 * k * k + 11) * 48271) (show (0 : Int) < 2147483647 by decide)
  generalize (v1 + 7919 * k * k + 11) * 48271 % 2147483647 = s1 at *
  have l4 := ev_ml' (S := S) (x := s1) (y := 69621) 31 17 (by omega) (by decide) (by decide)
  have l5 := ev_ml' (S := S) (x := 7) (y := k) 3 4 (by decide) (by omega) (by decide)
  have m3 := ev_md (S := S) (x := s1 * 69621 + 7 * k + 1) (show (0 : Int) < 2147483629 by decide)
  have b5 := Int.emod_nonneg (s1 * 69621 + 7 * k + 1) (show (2147483629 : Int) ≠ 0 by decide)
  have b6 := Int.emod_lt_of_pos (s1 * 69621 + 7 * k + 1) (show (0 : Int) < 2147483629 by decide)
  generalize (s1 * 69621 + 7 * k + 1) % 2147483629 = s2 at *
  have pw : oPw (.int 10) (.int 18) S = .ok (.int 1000000000000000000) S := id rfl
  by_cases hc : v < 1000000000000000000
  · exact ⟨0, s2, by simp [F_law_left, mkFn, b_law_left, mx, md, e1, m1, l1, l2, l3, m2, l4, l5, m3, pw, hc, fin_rt_ref], b5, by omega⟩
  · exact ⟨v, s2, by simp [F_law_left, mkFn, b_law_left, mx, md, e1, m1, l1, l2, l3, m2, l4, l5, m3, pw, hc, fin_rt_ref], b5, by omega⟩
end Law

namespace Law
open PySem PySem.Spec PyProof.Rows L2 Fx
abbrev T3 (one other m : Int) : Dat := .tup [.int (one % m), .int (other % m), .int m]
theorem zip3_rests (one other : Int) : ∀ ms : List Int, zipD3 ((ms.map fun m => one % m).map .int) ((ms.map fun m => other % m).map .int) (ms.map .int) = ms.map (T3 one other)
  | [] => rfl
  | m :: ms => by simp only [List.map_cons, zipD3, zip3_rests one other ms]
/-- the way w makes op of two rests -/
structure Way (w : Int) (op : Int → Int → Int) : Prop where
  ix : ∀ (a b : Int) (S : Sto), oIx (.lst [.int (a + b), .int (a - b), .int (a * b)]) (.int w) S = .ok (.int (op a b)) S
  md : ∀ a b m : Int, op (a % m) (b % m) % m = op a b % m
theorem way0 : Way 0 (fun a b => a + b) := ⟨fun a b S => ev_ix_lst rfl, fun a b m => by simp [Int.add_emod]⟩
theorem way1 : Way 1 (fun a b => a - b) := ⟨fun a b S => ev_ix_lst rfl, fun a b m => by simp [Int.sub_emod]⟩
theorem way2 : Way 2 (fun a b => a * b) := ⟨fun a b S => ev_ix_lst rfl, fun a b m => by simp [Int.mul_emod]⟩
theorem right_in (ms : List Int) (hm : Mods2 ms) (hl : ms.length ≤ 41) (one other w : Int) (op : Int → Int → Int) (hw : Way w op) (a0 a1 a2 a3 a4 a5 a6 a7 q10 q11 q12 q13 q14 q15 q16 q17 : Option Dat) (S : Sto) (chk : Sto → Bool) (hc : ∀ S, chk S = true) :
    ∃ r10 r11 r12, forGo chk (gT 3 (gsCons (gN 10) (gsCons (gN 11) (gsCons (gN 12) gsNil)))) L2_law_right (ms.map (T3 one other)) [a0, a1, a2, a3, a4, a5, a6, a7, some (.int w), some (.ref S.length), q10, q11, q12, q13, q14, q15, q16, q17] (S ++ [.lst []])
      = .nx [a0, a1, a2, a3, a4, a5, a6, a7, some (.int w), some (.ref S.length), r10, r11, r12, q13, q14, q15, q16, q17] (S ++ [.lst ((ms.map fun m => op one other % m).map .int)]) := by
  refine forGo_ind (fun xs σ S' => ∃ (done todo : List Int) (r10 r11 r12 : Option Dat), ms = done ++ todo ∧ xs = todo.map (T3 one other) ∧ σ = [a0, a1, a2, a3, a4, a5, a6, a7, some (.int w), some (.ref S.length), r10, r11, r12, q13, q14, q15, q16, q17] ∧ S' = S ++ [.lst ((done.map fun m => op one other % m).map .int)])
    (fun o => ∃ r10 r11 r12, o = .nx [a0, a1, a2, a3, a4, a5, a6, a7, some (.int w), some (.ref S.length), r10, r11, r12, q13, q14, q15, q16, q17] (S ++ [.lst ((ms.map fun m => op one other % m).map .int)])) ?_ ?_ _ _ _ ⟨[], ms, q10, q11, q12, rfl, rfl, rfl, rfl⟩
  · rintro σ S' ⟨done, todo, r10, r11, r12, e0, hx, rfl, rfl⟩
    have : todo = [] := by cases todo <;> simp_all
    subst this
    rw [List.append_nil] at e0
    exact ⟨hc _, r10, r11, r12, by rw [e0]⟩
  · rintro d r σ S' ⟨done, todo, r10, r11, r12, e0, hx, rfl, rfl⟩
    cases todo with
    | nil => cases hx
    | cons m todo =>
      simp only [List.map_cons, List.cons.injEq] at hx
      obtain ⟨rfl, rfl⟩ := hx
      have hmm := hm m (by rw [e0]; simp)
      refine ⟨hc _, [a0, a1, a2, a3, a4, a5, a6, a7, some (.int w), some (.ref S.length), some (.int (one % m)), some (.int (other % m)), some (.int m), q13, q14, q15, q16, q17], S ++ [.lst ((done.map fun m => op one other % m).map .int)], by simp, ?_⟩
      have b1 := Int.emod_nonneg one (show m ≠ 0 by omega)
      have b2 := Int.emod_lt_of_pos one (show 0 < m by omega)
      have b3 := Int.emod_nonneg other (show m ≠ 0 by omega)
      have b4 := Int.emod_lt_of_pos other (show 0 < m by omega)
      have hdl : done.length ≤ 41 := by have := congrArg List.length e0; simp at this; omega
      have sl : seqL (.ref S.length) (S ++ [.lst ((done.map fun m => op one other % m).map .int)]) = some ((done.map fun m => op one other % m).map .int) := ev_seqL_ref (by simp)
      have ml := ev_ml' (S := S ++ [.lst ((done.map fun m => op one other % m).map .int)]) (x := one % m) (y := other % m) 20 20 (by omega) (by omega) (by decide)
      have ix := hw.ix (one % m) (other % m) (S ++ [.lst ((done.map fun m => op one other % m).map .int)])
      have md := ev_md (S := S ++ [.lst ((done.map fun m => op one other % m).map .int)]) (x := op (one % m) (other % m)) (show 0 < m by omega)
      rw [hw.md] at md
      have ap := ev_append (S := S ++ [.lst ((done.map fun m => op one other % m).map .int)]) (n := S.length) (d := .int (op one other % m)) (xs := (done.map fun m => op one other % m).map .int) (by simp) (by rw [sizeLine_eq]; simp; omega)
      have e : L2_law_right [a0, a1, a2, a3, a4, a5, a6, a7, some (.int w), some (.ref S.length), some (.int (one % m)), some (.int (other % m)), some (.int m), q13, q14, q15, q16, q17] (S ++ [.lst ((done.map fun m => op one other % m).map .int)]) =
          .nx [a0, a1, a2, a3, a4, a5, a6, a7, some (.int w), some (.ref S.length), some (.int (one % m)), some (.int (other % m)), some (.int m), q13, q14, q15, q16, q17] (S ++ [.lst (((done ++ [m]).map fun m => op one other % m).map .int)]) := by
        simp only [List.map_map] at sl ml ix md ap ⊢
        simp [L2_law_right, sl, ml, ix, md, ap]
      simp only [e]
      exact ⟨done ++ [m], todo, _, _, _, by rw [e0]; simp, rfl, rfl, rfl⟩
theorem right_one (ms : List Int) (hm : Mods2 ms) (hl : ms.length ≤ 41) (hp : PW ms) (one other w : Int) (op : Int → Int → Int) (hw : Way w op) (a0 a2 a3 q9 q10 q11 q12 q13 q14 q15 q16 q17 : Option Dat) (S : Sto) :
    ∃ r9 r10 r11 r12 G, L1_law_right [a0, some (.tup (ms.map .int)), a2, a3, some (.int (prodI ms)), some (.tup ((ms.map fun m => one % m).map .int)), some (.tup ((ms.map fun m => other % m).map .int)), some (.int (op one other)), some (.int w), q9, q10, q11, q12, q13, q14, q15, q16, q17] S
      = .nx [a0, some (.tup (ms.map .int)), a2, a3, some (.int (prodI ms)), some (.tup ((ms.map fun m => one % m).map .int)), some (.tup ((ms.map fun m => other % m).map .int)), some (.int (op one other)), some (.int w), r9, r10, r11, r12, q13, q14, q15, q16, q17] (S ++ G) := by
  have pp := prodI_pos hm.mods
  have n1 := Int.emod_nonneg (op one other) (show prodI ms ≠ 0 by omega)
  have n2 := Int.emod_lt_of_pos (op one other) (show 0 < prodI ms by omega)
  obtain ⟨r10, r11, r12, e1⟩ := right_in ms hm hl one other w op hw a0 (some (.tup (ms.map .int))) a2 a3 (some (.int (prodI ms))) (some (.tup ((ms.map fun m => one % m).map .int))) (some (.tup ((ms.map fun m => other % m).map .int))) (some (.int (op one other))) q10 q11 q12 q13 q14 q15 q16 q17 S (fun _ => true) (fun _ => rfl)
  have z3 := zip3_rests one other ms
  have md := ev_md (S := S ++ [.lst ((ms.map fun m => op one other % m).map .int)]) (x := op one other) (show 0 < prodI ms by omega)
  have rs := F_rests_eq ms hm.mods (by omega) (op one other % prodI ms) (S ++ [.lst ((ms.map fun m => op one other % m).map .int)])
  have er : (ms.map fun m => op one other % prodI ms % m) = ms.map fun m => op one other % m := List.map_congr_left fun m h => Int.emod_emod_of_dvd _ (dvd_prodI h)
  rw [er] at rs
  have tp := ev_tuple_ref (S := S ++ [.lst ((ms.map fun m => op one other % m).map .int)]) (n := S.length) (xs := (ms.map fun m => op one other % m).map .int) (by simp)
  have ne := ev_neT (ms.map fun m => op one other % m) (ms.map fun m => op one other % m) (S ++ [.lst ((ms.map fun m => op one other % m).map .int)])
  have pb := F_put_back_sol ms (ms.map fun m => op one other % m) hm hl hp (by simp) (rests_small hm _) (op one other % prodI ms) ⟨n1, n2⟩ (fun p h => by
    have := sol_rests ms (op one other) p h
    rw [Int.emod_emod_of_dvd _ (dvd_prodI (List.of_mem_zip h).1)]
    exact this) (S ++ [.lst ((ms.map fun m => op one other % m).map .int)])
  refine ⟨some (.ref S.length), r10, r11, r12, [.lst ((ms.map fun m => op one other % m).map .int)], ?_⟩
  unfold L1_law_right
  generalize F_rests = f1 at *
  generalize F_put_back = f2 at *
  generalize L2_law_right = l2 at *
  generalize (ms.map fun m => one % m).map Dat.int = A at *
  generalize (ms.map fun m => other % m).map Dat.int = B at *
  generalize (ms.map fun m => op one other % m).map Dat.int = C at *
  simp [itZip3, z3, e1, md, rs, tp, ne, pb]
end Law

namespace Law
open PySem PySem.Spec PyProof.Rows L2 Fx
theorem right_out (ms : List Int) (hm : Mods2 ms) (hl : ms.length ≤ 41) (hp : PW ms) (one other : Int) (a0 a2 a3 q7 q8 q9 q10 q11 q12 q13 q14 q15 q16 q17 : Option Dat) (S : Sto) (chk : Sto → Bool) (hc : ∀ S, chk S = true) :
    ∃ r7 r8 r9 r10 r11 r12 G, forGo chk (gT 2 (gsCons (gN 7) (gsCons (gN 8) gsNil))) L1_law_right [.tup [.int (one + other), .int 0], .tup [.int (one - other), .int 1], .tup [.int (one * other), .int 2]]
      [a0, some (.tup (ms.map .int)), a2, a3, some (.int (prodI ms)), some (.tup ((ms.map fun m => one % m).map .int)), some (.tup ((ms.map fun m => other % m).map .int)), q7, q8, q9, q10, q11, q12, q13, q14, q15, q16, q17] S
      = .nx [a0, some (.tup (ms.map .int)), a2, a3, some (.int (prodI ms)), some (.tup ((ms.map fun m => one % m).map .int)), some (.tup ((ms.map fun m => other % m).map .int)), r7, r8, r9, r10, r11, r12, q13, q14, q15, q16, q17] (S ++ G) := by
  obtain ⟨r9, r10, r11, r12, G, e⟩ := right_one ms hm hl hp one other 0 _ way0 a0 a2 a3 q9 q10 q11 q12 q13 q14 q15 q16 q17 S
  obtain ⟨s9, s10, s11, s12, G2, e2⟩ := right_one ms hm hl hp one other 1 _ way1 a0 a2 a3 r9 r10 r11 r12 q13 q14 q15 q16 q17 (S ++ G)
  obtain ⟨t9, t10, t11, t12, G3, e3⟩ := right_one ms hm hl hp one other 2 _ way2 a0 a2 a3 s9 s10 s11 s12 q13 q14 q15 q16 q17 (S ++ G ++ G2)
  refine ⟨some (.int (one * other)), some (.int 2), t9, t10, t11, t12, G ++ (G2 ++ G3), ?_⟩
  generalize (ms.map fun m => one % m).map Dat.int = A at *
  generalize (ms.map fun m => other % m).map Dat.int = B at *
  generalize L1_law_right = l1 at *
  simp only [forGo, hc, if_true, ev_gT, ev_gsCons, ev_gsNil, ev_gN, List.length_cons, List.length_nil, Res.bind_ok, Res.out_ok, List.set_cons_succ, List.set_cons_zero, e, e2, e3]
  simp only [List.append_assoc]
theorem insert_perm {k j : Nat} {o : List Nat} (h : o.Perm (List.range k)) : (o.take j ++ [k] ++ o.drop j).Perm (List.range (k + 1)) := by
  have a1 : (o.take j ++ [k] ++ o.drop j).Perm ([k] ++ (o.take j ++ o.drop j)) := by
    rw [List.append_assoc]
    exact List.perm_middle
  rw [List.take_append_drop] at a1
  rw [List.range_succ]
  exact a1.trans (((List.Perm.cons k h).trans (List.perm_append_singleton k (List.range k)).symm))
theorem ev_insert {S : Sto} {n : Nat} {xs : List Dat} {d : Dat} {k : Int} (h : S[n]? = some (.lst xs)) (hl : xs.length < sizeLine) (hk : 0 ≤ k ∧ k < 2 ^ 40) : oInsert (.ref n) [.int k, d] S = .ok .non (S.set n (.lst (xs.take k.toNat ++ [d] ++ xs.drop k.toNat))) := by
  have h1 : lstAt (.ref n) S = some (n, xs) := by unfold lstAt; dsimp only; rw [h]
  have h2 : (decide (xs.length < sizeLine) && (decide (0 ≤ k) && decide (k < 2 ^ 63))) = true := by
    simp only [Bool.and_eq_true, decide_eq_true_eq]
    exact ⟨hl, hk.1, by omega⟩
  unfold oInsert
  rw [h1]
  dsimp only
  rw [h2]
  rfl
abbrev natD (i : Nat) : Dat := .int (i : Int)
theorem order_loop (len : Nat) (hl : len ≤ 41) (n : Nat) (a1 a2 a3 a4 a5 a6 a7 a8 a9 a10 a11 a12 q14 q15 q16 q17 : Option Dat) (S : Sto) (G : Sto) (h : Pot n S) :
    ∃ (o : List Nat) (r14 : Option Dat) (S1 : Sto), forGo (fun _ => true) (gN 14) L3_law_right (rangeD 0 1 len) [some (.ref n), a1, a2, a3, a4, a5, a6, a7, a8, a9, a10, a11, a12, some (.ref (S.length + G.length)), q14, q15, q16, q17] (S ++ G ++ [Ob.lst []])
      = .nx [some (.ref n), a1, a2, a3, a4, a5, a6, a7, a8, a9, a10, a11, a12, some (.ref (S.length + G.length)), r14, q15, q16, q17] (S1 ++ G ++ [Ob.lst (o.map natD)]) ∧ o.Perm (List.range len) ∧ Ps n S S1 := by
  refine forGo_ind (fun xs σ S' => ∃ (k : Nat) (o : List Nat) (r14 : Option Dat) (S1 : Sto), xs = rangeD (k : Int) 1 (len - k) ∧ k ≤ len ∧ σ = [some (.ref n), a1, a2, a3, a4, a5, a6, a7, a8, a9, a10, a11, a12, some (.ref (S.length + G.length)), r14, q15, q16, q17] ∧ S' = S1 ++ G ++ [Ob.lst (o.map natD)] ∧ o.Perm (List.range k) ∧ Ps n S S1)
    (fun x => ∃ (o : List Nat) (r14 : Option Dat) (S1 : Sto), x = .nx [some (.ref n), a1, a2, a3, a4, a5, a6, a7, a8, a9, a10, a11, a12, some (.ref (S.length + G.length)), r14, q15, q16, q17] (S1 ++ G ++ [Ob.lst (o.map natD)]) ∧ o.Perm (List.range len) ∧ Ps n S S1) ?_ ?_ _ _ _
    ⟨0, [], q14, S, rfl, by omega, rfl, rfl, List.Perm.refl _, h.refl⟩
  · rintro σ S' ⟨k, o, r14, S1, hx, hk, rfl, rfl, ho, p⟩
    have : k = len := by
      cases e : len - k with
      | zero => omega
      | succ j => rw [e] at hx; cases hx
    subst this
    exact ⟨rfl, o, r14, S1, rfl, ho, p⟩
  · rintro d r σ S' ⟨k, o, r14, S1, hx, hk, rfl, rfl, ho, p⟩
    cases e : len - k with
    | zero => rw [e] at hx; cases hx
    | succ j =>
      rw [e] at hx
      simp only [rangeD, List.cons.injEq] at hx
      obtain ⟨rfl, rfl⟩ := hx
      refine ⟨rfl, [some (.ref n), a1, a2, a3, a4, a5, a6, a7, a8, a9, a10, a11, a12, some (.ref (S.length + G.length)), some (.int (k : Int)), q15, q16, q17], _, rfl, ?_⟩
      have hS1 : S1.length = S.length := by obtain ⟨c, s, t, _, _, _, rfl⟩ := p; simp
      have ol : o.length = k := by have := ho.length_eq; simpa using this
      obtain ⟨v, S2, e1, hv, p2⟩ := F_pick_eq (S := S1 ++ G ++ [Ob.lst (o.map natD)]) (n := n) (by rw [List.append_assoc]; exact p.pot.app) ((k : Int) + 1) (by omega)
      obtain ⟨c, s, t, b1, b2, b3, rfl⟩ := p2
      have hn1 : n < S1.length := p.pot.len
      have e2 : (S1 ++ G ++ [Ob.lst (o.map natD)]).set n (potO c s t) = S1.set n (potO c s t) ++ G ++ [Ob.lst (o.map natD)] := by
        rw [List.append_assoc, List.set_append_left _ _ hn1, List.append_assoc]
      rw [e2] at e1
      have sl : seqL (.ref (S.length + G.length)) (S1 ++ G ++ [Ob.lst (o.map natD)]) = some (o.map natD) := ev_seqL_ref (by rw [← hS1, ← List.length_append]; simp)
      have ins := ev_insert (S := S1.set n (potO c s t) ++ G ++ [Ob.lst (o.map natD)]) (n := S.length + G.length) (xs := o.map natD) (d := .int (k : Int)) (k := v) (by rw [← hS1, show S1.length + G.length = (S1.set n (potO c s t) ++ G).length from by simp]; simp) (by rw [sizeLine_eq]; simp; omega) (by omega)
      have e3 : (S1.set n (potO c s t) ++ G ++ [Ob.lst (o.map natD)]).set (S.length + G.length) (Ob.lst ((o.map natD).take v.toNat ++ [.int (k : Int)] ++ (o.map natD).drop v.toNat)) = S1.set n (potO c s t) ++ G ++ [Ob.lst ((o.take v.toNat ++ [k] ++ o.drop v.toNat).map natD)] := by
        rw [← hS1, show S1.length + G.length = (S1.set n (potO c s t) ++ G).length from by simp, List.set_append_right _ _ (Nat.le_refl _)]
        simp [List.map_take, List.map_drop]
      rw [e3] at ins
      have ev : L3_law_right [some (.ref n), a1, a2, a3, a4, a5, a6, a7, a8, a9, a10, a11, a12, some (.ref (S.length + G.length)), some (.int (k : Int)), q15, q16, q17] (S1 ++ G ++ [Ob.lst (o.map natD)]) =
          .nx [some (.ref n), a1, a2, a3, a4, a5, a6, a7, a8, a9, a10, a11, a12, some (.ref (S.length + G.length)), some (.int (k : Int)), q15, q16, q17] (S1.set n (potO c s t) ++ G ++ [Ob.lst ((o.take v.toNat ++ [k] ++ o.drop v.toNat).map natD)]) := by
        unfold L3_law_right
        generalize F_law_pick = f at *
        simp only [List.append_assoc] at sl e1 ins ⊢
        simp [sl, e1, ins]
      simp only [ev]
      refine ⟨k + 1, _, _, _, ?_, by omega, rfl, rfl, insert_perm ho, p.trans ⟨c, s, t, b1, b2, hn1, rfl⟩⟩
      rw [show len - (k + 1) = j from by omega]
      push_cast
      rfl
end Law

namespace Law
open PySem PySem.Spec PyProof.Rows L2 Fx
theorem prodI_perm {a b : List Int} (h : a.Perm b) : prodI a = prodI b := by
  induction h with
  | nil => rfl
  | cons x _ ih => simp only [prodI, ih]
  | swap x y l => simp only [prodI]; rw [← Int.mul_assoc, Int.mul_comm y x, Int.mul_assoc]
  | trans _ _ h1 h2 => exact h1.trans h2
theorem range_get (ms : List Int) : (List.range ms.length).map (fun i => ms.getD i 0) = ms := by
  refine List.ext_getElem (by simp) fun i h1 h2 => ?_
  simp [List.getD, h2]
theorem weigh (ms : List Int) (zs : List (Int × Int)) (h1 : zs.map (·.2) = ms) (hm : Mods2 ms) (hd : Dg zs) (hl : ms.length ≤ 41) (b0 b1 b2 b3 b4 b5 b6 b8 b9 b10 b11 q12 b13 b14 b15 q17 : Option Dat) (S : Sto) (chk : Sto → Bool) (hc : chk S = true) :
    ∃ r12 r16 r17, forGo chk (gT 2 (gsCons (gN 17) (gsCons (gN 12) gsNil))) L4_law_right (zs.map pr) [b0, b1, b2, b3, b4, b5, b6, some (.int 0), b8, b9, b10, b11, q12, b13, b14, b15, some (.int 1), q17] S
      = .nx [b0, b1, b2, b3, b4, b5, b6, some (.int (val zs)), b8, b9, b10, b11, r12, b13, b14, b15, r16, r17] S := by
  refine forGo_ind (fun xs σ S' => S' = S ∧ ∃ (ts : List (Int × Int)) (t w : Int) (r12 r17 : Option Dat), xs = ts.map pr ∧ σ = [b0, b1, b2, b3, b4, b5, b6, some (.int t), b8, b9, b10, b11, r12, b13, b14, b15, some (.int w), r17] ∧ Digs ts ∧ Dg ts ∧ w.natAbs * 2 ^ (20 * ts.length) < 2 ^ big ∧ t + w * val ts = val zs)
    (fun o => ∃ r12 r16 r17, o = .nx [b0, b1, b2, b3, b4, b5, b6, some (.int (val zs)), b8, b9, b10, b11, r12, b13, b14, b15, r16, r17] S) ?_ ?_ _ _ S ⟨rfl, zs, 0, 1, q12, q17, rfl, rfl, hd.digs hm h1, hd, fits_one (by have := congrArg List.length h1; simp at this; omega), by simp⟩
  · rintro σ S' ⟨rfl, ts, t, w, r12, r17, hz, rfl, _, _, _, hp⟩
    have : ts = [] := by cases ts <;> simp_all
    subst this
    simp [val] at hp
    exact ⟨hc, r12, _, r17, by rw [hp]⟩
  · rintro d r σ S' ⟨rfl, ts, t, w, r12, r17, hz, rfl, hms, hdg, hw, hp⟩
    cases ts with
    | nil => cases hz
    | cons z ts =>
      obtain ⟨x, m⟩ := z
      simp only [List.map_cons, List.cons.injEq] at hz
      obtain ⟨rfl, rfl⟩ := hz
      obtain ⟨hx, hm⟩ := hms.cons.1
      have hxx := hdg.cons.1
      simp only at hx hm hxx
      obtain ⟨f1, f2, f3⟩ := mul_fits hw hm
      refine ⟨hc, [b0, b1, b2, b3, b4, b5, b6, some (.int t), b8, b9, b10, b11, some (.int m), b13, b14, b15, some (.int w), some (.int x)], S', by simp, ?_⟩
      have ml1 := ev_ml' (S := S') _ _ f1 f2 (by decide)
      have ml2 := ev_ml' (S := S') _ _ (show x.natAbs < 2 ^ 20 by omega) f1 (by decide)
      have e : L4_law_right [b0, b1, b2, b3, b4, b5, b6, some (.int t), b8, b9, b10, b11, some (.int m), b13, b14, b15, some (.int w), some (.int x)] S' = .nx [b0, b1, b2, b3, b4, b5, b6, some (.int (t + x * w)), b8, b9, b10, b11, some (.int m), b13, b14, b15, some (.int (w * m)), some (.int x)] S' := by
        simp [L4_law_right, ml1, ml2, hxx.1, hxx.2]
      simp only [e]
      refine ⟨trivial, ts, t + x * w, w * m, _, _, rfl, rfl, hms.cons.2, hdg.cons.2, f3, ?_⟩
      rw [← hp]
      simp only [val]
      rw [Int.mul_add, Int.add_assoc, Int.mul_comm x w, Int.mul_assoc]
theorem picked (xs : List Int) (o : List Nat) (ho : ∀ i ∈ o, i < xs.length) (σ0 : Sl) (te : EF) (S : Sto) (chk : Sto → Bool) (hc : chk S = true) (he : ∀ i : Nat, te (σ0.set 14 (some (natD i))) S = oIx (.tup (xs.map .int)) (natD i) S) :
    lcGo chk (gN 14) bYes te σ0 (o.map natD) S = .ok ((o.map fun i => xs.getD i 0).map .int) S := by
  have := lcGo_map (chk := chk) (g := gN 14) (te := te) (σ0 := σ0) (S := S) (fun d => match d with | .int i => .int (xs.getD i.toNat 0) | d => d) hc (o.map natD) (fun d hd => by
    obtain ⟨i, h1, rfl⟩ := List.mem_map.mp hd
    refine ⟨_, rfl, ?_⟩
    rw [he i]
    exact ev_ix_tup (by simpa using atD_int (ho i h1)))
  rw [this]
  simp [Function.comp_def]
theorem F_right_eq (ms : List Int) (hm : Mods2 ms) (hl : ms.length ≤ 41) (hp : PW ms) (one other : Int) (h1 : 0 ≤ one ∧ one < prodI ms) (h2 : 0 ≤ other ∧ other < prodI ms) (n : Nat) (S : Sto) (hpot : Pot n S) :
    ∃ S', F_law_right [.ref n, .tup (ms.map .int), .int one, .int other] S = .ok (.bl true) S' ∧ Ps n S S' := by
  have la := F_law_all_eq ms hm.mods hl S
  have r1 := F_rests_eq ms hm.mods (by omega) one S
  have r2 := F_rests_eq ms hm.mods (by omega) other S
  have pb := prodI_big hm.mods hl
  have ml := ev_ml' (S := S) (x := one) (y := other) big big (by omega) (by omega) (by decide)
  obtain ⟨r7, r8, r9, r10, r11, r12, G, e1⟩ := right_out ms hm hl hp one other (some (.ref n)) (some (.int one)) (some (.int other)) none none none none none none none none none none none S (stands (.tup [.tup [.int (one + other), .int 0], .tup [.int (one - other), .int 1], .tup [.int (one * other), .int 2]]) [.tup [.int (one + other), .int 0], .tup [.int (one - other), .int 1], .tup [.int (one * other), .int 2]]) (fun S => by simp)
  obtain ⟨o, r14, S1, e2, ho, p⟩ := order_loop ms.length hl n (some (.tup (ms.map .int))) (some (.int one)) (some (.int other)) (some (.int (prodI ms))) (some (.tup ((ms.map fun m => one % m).map .int))) (some (.tup ((ms.map fun m => other % m).map .int))) r7 r8 r9 r10 r11 r12 none none none none S G hpot
  have rg := ev_rng1 (S := S ++ G ++ [Ob.lst []]) (show (0 : Int) ≤ (ms.length : Int) by omega) (by omega)
  rw [Int.toNat_natCast] at rg
  have hS1 : S1.length = S.length := by obtain ⟨c, s, t, _, _, _, rfl⟩ := p; simp
  have oi : ∀ i ∈ o, i < ms.length := fun i hi => by simpa using ho.mem_iff.mp hi
  generalize hSS : S1 ++ G ++ [Ob.lst (o.map natD)] = SS at *
  have sq : seqA (.ref (S.length + G.length)) SS = some (o.map natD) := ev_seqA_ref (by rw [← hSS, ← hS1, ← List.length_append]; simp)
  have st : stands (.ref (S.length + G.length)) (o.map natD) SS = true := by simp [stands, sq]
  have ol : o.length = ms.length := by simpa using ho.length_eq
  have sm : small o.length = true := small_of (by omega)
  -- the moduli in another order
  have pm : (o.map fun i => ms.getD i 0).Perm ms := by
    have := ho.map (fun i => ms.getD i 0)
    rwa [range_get] at this
  have fr : (o.map fun i => (ms.map fun m => one % m).getD i 0) = (o.map fun i => ms.getD i 0).map fun m => one % m := by
    rw [List.map_map]
    refine List.map_congr_left fun i hi => ?_
    have := oi i hi
    simp [List.getD, this]
  have pk1 := fun (te : EF) (σ0 : Sl) he => picked ms o oi σ0 te SS (stands (.ref (S.length + G.length)) (o.map natD)) st he
  have pk2 := fun (te : EF) (σ0 : Sl) he => picked (ms.map fun m => one % m) o (by simpa using oi) σ0 te SS (stands (.ref (S.length + G.length)) (o.map natD)) st he
  rw [fr] at pk2
  have hm' : Mods2 (o.map fun i => ms.getD i 0) := fun m h => hm m (pm.mem_iff.mp h)
  have hp' : PW (o.map fun i => ms.getD i 0) := (pm.pairwise_iff fun {x y} h => by rw [Int.gcd_comm]; exact h).mpr hp
  have pb1 := F_put_back_sol (o.map fun i => ms.getD i 0) ((o.map fun i => ms.getD i 0).map fun m => one % m) hm' (by rw [pm.length_eq]; exact hl) hp' (by simp) (rests_small hm' _) one (by rw [prodI_perm pm]; exact h1) (sol_rests _ _) SS
  obtain ⟨zs, mx, z1, z2, z3⟩ := mixed_sol ms (ms.map fun m => one % m) hm hl hp (by simp) (rests_small hm _) one h1 (sol_rests _ _) SS
  have sh := F_shows_mixed_eq ms (ms.map fun m => one % m) hm hl hp zs z1 z2 SS
  rw [z3, decide_eq_true rfl] at sh
  have hz : zipD ((zs.map (·.1)).map .int) (ms.map .int) = zs.map pr := by rw [zipD_map, zip_of' zs z1]
  have isT : oIs (.bl true) (.bl true) SS = .ok (.bl true) SS := rfl
  refine ⟨S1, ?_, p⟩
  obtain ⟨w12, w16, w17, e3⟩ := weigh ms zs z1 hm z2 hl (some (.ref n)) (some (.tup (ms.map .int))) (some (.int one)) (some (.int other)) (some (.int (prodI ms))) (some (.tup ((ms.map fun m => one % m).map .int))) (some (.tup ((ms.map fun m => other % m).map .int))) r8 r9 r10 r11 r12 (some (.ref (S.length + G.length))) r14 (some (.tup ((zs.map (·.1)).map .int))) none SS (fun _ => true) rfl
  rw [z3] at e3
  have k1 := pk1 (Fx.e2 oIx (cV 1) (cV 14)) [some (.ref n), some (.tup (ms.map .int)), some (.int one), some (.int other), some (.int (prodI ms)), some (.tup ((ms.map fun m => one % m).map .int)), some (.tup ((ms.map fun m => other % m).map .int)), r7, r8, r9, r10, r11, r12, some (.ref (S.length + G.length)), none, none, none, none] (fun i => by simp only [List.set_cons_succ, List.set_cons_zero, ev_e2, ev_cV (show [some (Dat.ref n), some (.tup (ms.map .int)), some (.int one), some (.int other), some (.int (prodI ms)), some (.tup ((ms.map fun m => one % m).map .int)), some (.tup ((ms.map fun m => other % m).map .int)), r7, r8, r9, r10, r11, r12, some (.ref (S.length + G.length)), some (natD i), none, none, none][1]? = _ from rfl), ev_cV (show [some (Dat.ref n), some (.tup (ms.map .int)), some (.int one), some (.int other), some (.int (prodI ms)), some (.tup ((ms.map fun m => one % m).map .int)), some (.tup ((ms.map fun m => other % m).map .int)), r7, r8, r9, r10, r11, r12, some (.ref (S.length + G.length)), some (natD i), none, none, none][14]? = _ from rfl), Res.bind_ok])
  have k2 := pk2 (Fx.e2 oIx (cV 5) (cV 14)) [some (.ref n), some (.tup (ms.map .int)), some (.int one), some (.int other), some (.int (prodI ms)), some (.tup ((ms.map fun m => one % m).map .int)), some (.tup ((ms.map fun m => other % m).map .int)), r7, r8, r9, r10, r11, r12, some (.ref (S.length + G.length)), none, none, none, none] (fun i => by simp only [List.set_cons_succ, List.set_cons_zero, ev_e2, ev_cV (show [some (Dat.ref n), some (.tup (ms.map .int)), some (.int one), some (.int other), some (.int (prodI ms)), some (.tup ((ms.map fun m => one % m).map .int)), some (.tup ((ms.map fun m => other % m).map .int)), r7, r8, r9, r10, r11, r12, some (.ref (S.length + G.length)), some (natD i), none, none, none][5]? = _ from rfl), ev_cV (show [some (Dat.ref n), some (.tup (ms.map .int)), some (.int one), some (.int other), some (.int (prodI ms)), some (.tup ((ms.map fun m => one % m).map .int)), some (.tup ((ms.map fun m => other % m).map .int)), r7, r8, r9, r10, r11, r12, some (.ref (S.length + G.length)), some (natD i), none, none, none][14]? = _ from rfl), Res.bind_ok])
  have fi : fin S (.rt (.bl true) SS) = .ok (.bl true) S1 := by
    rw [← hSS]
    obtain ⟨c, s, t, _, _, _, rfl⟩ := p
    rw [List.append_assoc]
    exact fin_rt_set (S := S) (G := G ++ [Ob.lst (o.map natD)]) (i := n) (o := potO c s t) (by simp [Dat.lt]) (potO_lt _ _ _ _)
  unfold F_law_right b_law_right
  generalize F_law_all = f1 at *
  generalize F_rests = f2 at *
  generalize F_put_back = f3 at *
  generalize F_mixed = f4 at *
  generalize F_shows_mixed = f5 at *
  generalize (ms.map fun m => one % m).map Dat.int = A at *
  generalize (ms.map fun m => other % m).map Dat.int = B at *
  generalize (zs.map (·.1)).map Dat.int = Z at *
  generalize ((o.map fun i => ms.getD i 0).map fun m => one % m).map Dat.int = A' at *
  generalize (o.map fun i => ms.getD i 0).map Dat.int = M' at *
  generalize L1_law_right = l1 at *
  generalize L3_law_right = l3 at *
  generalize L4_law_right = l4 at *
  simp only [List.append_assoc] at rg e2
  simp [mkFn, la, r1, r2, ml, e1, rg, e2, sq, sm, k1, k2, pb1, mx, itZip, hz, e3, sh, isT, fi]
end Law

namespace Law
open PySem PySem.Spec PyProof.Rows L2 Fx
@[simp] theorem ev_eSl {f : EF} {l h : PF} {σ : Sl} {S : Sto} : eSl f l h σ S = (f σ S).bind fun x S1 => (l σ S1).bind fun lo S2 => (h σ S2).bind fun hi S3 => oSl x lo hi S3 := id rfl
@[simp] theorem ev_pNo {σ : Sl} {S : Sto} : pNo σ S = .ok none S := id rfl
@[simp] theorem ev_pAt {f : EF} {σ : Sl} {S : Sto} : pAt f σ S = (f σ S).bind fun d S1 => match d with
  | .int i => .ok (some i) S1
  | _ => .stuck := id rfl
abbrev rk (ks : List Int) (x : Int) : Dat := .tup ((ks.map fun m => x % m).map .int)
theorem dkeys_ints : ∀ xs : List Int, dkeys (xs.map .int) = some (xs.map Sum.inl)
  | [] => rfl
  | x :: xs => by simp [dkeys, dkey, dkeys_ints xs]
theorem isKey_ints (xs : List Int) : isKey true (.tup (xs.map .int)) = true := by
  simp [isKey, tkey, dkeys_ints, ktAll]
theorem pairsD_map (f : Nat → Dat) : ∀ l : List Nat, pairsD (l.map fun k => .tup [f k, .bl true]) = some (l.map fun k => (f k, Dat.bl true))
  | [] => rfl
  | x :: l => by simp [pairsD, pairsD_map f l]
theorem mergeD_new : ∀ (more kvs : List (Dat × Dat)), (kvs.map (·.1) ++ more.map (·.1)).Nodup → mergeD kvs more = kvs ++ more
  | [], kvs, _ => by simp [mergeD]
  | p :: more, kvs, h => by
    have hn : (kvs.any fun q => decide (q.1 = p.1)) = false := by
      rw [List.any_eq_false]
      intro q hq
      simp only [decide_eq_true_eq]
      intro e
      have := List.nodup_append.mp h
      exact this.2.2 q.1 (List.mem_map_of_mem hq) p.1 (by simp) e
    show mergeD (putA kvs p.1 p.2) more = _
    have e : putA kvs p.1 p.2 = kvs ++ [p] := by
      unfold putA
      rw [hn]
      rfl
    rw [e, mergeD_new more (kvs ++ [p]) (by simpa [List.append_assoc] using h), List.append_assoc]
    rfl
theorem dict_len (ks : List Int) (hp : PW ks) (N : Nat) (hN : (N : Int) = prodI ks) (S : Sto) : ∃ D, oDict true [.lst ((List.range N).map fun k : Nat => .tup [rk ks k, .bl true])] S = .ok D S ∧ oLen [D] S = .ok (.int N) S := by
  have h1 := pairsD_map (fun k => rk ks k) (List.range N)
  have h2 : ((List.range N).map fun k : Nat => (rk ks k, Dat.bl true)).all (fun p => isKey true p.1) = true := by
    simp only [List.all_map, List.all_eq_true, Function.comp]
    exact fun k _ => isKey_ints _
  have h3 : mergeD [] ((List.range N).map fun k : Nat => (rk ks k, Dat.bl true)) = (List.range N).map fun k : Nat => (rk ks k, Dat.bl true) := by
    rw [mergeD_new _ [] ?_, List.nil_append]
    simp only [List.map_nil, List.nil_append, List.map_map]
    refine List.pairwise_map.mpr (List.Pairwise.imp_of_mem (fun {x y} hx hy hne e => hne ?_) List.nodup_range)
    have hx := List.mem_range.mp hx
    have hy := List.mem_range.mp hy
    have e2 : (ks.map fun m => (x : Int) % m).map Dat.int = (ks.map fun m => (y : Int) % m).map Dat.int := by
      have e3 : rk ks x = rk ks y := e
      exact Dat.tup.inj e3
    have e4 : (ks.map fun m => (x : Int) % m) = ks.map fun m => (y : Int) % m := (List.map_inj_right (fun a b h => Dat.int.inj h)).mp e2
    have := (rests_inj hp (x := (x : Int)) (y := (y : Int)) (by omega) (by omega)).mp e4
    omega
  refine ⟨.dct true (((List.range N).map fun k : Nat => (rk ks k, Dat.bl true)).map (·.1)) (((List.range N).map fun k : Nat => (rk ks k, Dat.bl true)).map (·.2)), ?_, ?_⟩
  · have e : oDict true [.lst ((List.range N).map fun k : Nat => .tup [rk ks k, .bl true])] S = (match pairsD ((List.range N).map fun k : Nat => .tup [rk ks k, .bl true]) with
      | some ps => Res.guard (ps.all fun p => isKey true p.1) (.ok (.dct true ((mergeD [] ps).map (·.1)) ((mergeD [] ps).map (·.2))) S)
      | none => .stuck) := id rfl
    rw [e, h1]
    simp only [h2, h3, ev_guard_true]
  · have e : ∀ a b, oLen [.dct true a b] S = .ok (.int a.length) S := fun a b => id rfl
    rw [e]
    simp

theorem dict_if (ks : List Int) (hm : Mods2 ks) (hl : ks.length ≤ 41) (hp : PW ks) (b0 b1 b2 b5 b6 q7 q8 q9 q10 q11 : Option Dat) (S : Sto) :
    ∃ r7, (sIf (bV (e2 oLe (cV 4) (cC (.int 3000)))) (sSeq (sSet 7 (eA (oDict true) (aCons (eLc (iRng1 (aCons (cV 4) aNil)) (gN 13) bYes (eTup (aCons (eCall 2 F_rests (aCons (cV 3) (aCons (cV 13) aNil))) (aCons (cC (.bl true)) aNil))) [13]) aNil))) (sIf (bV (e2 oNe (eA oLen (aCons (cV 7) aNil)) (cV 4))) (sRet (cC (.bl false))) sNil)) sNil)
      [b0, b1, b2, some (.tup (ks.map .int)), some (.int (prodI ks)), b5, b6, q7, q8, q9, q10, q11, none, none] S = .nx [b0, b1, b2, some (.tup (ks.map .int)), some (.int (prodI ks)), b5, b6, r7, q8, q9, q10, q11, none, none] S := by
  by_cases h : prodI ks ≤ 3000
  · have pp := prodI_pos hm.mods
    have hN : ((prodI ks).toNat : Int) = prodI ks := by omega
    obtain ⟨D, d1, d2⟩ := dict_len ks hp (prodI ks).toNat hN S
    have rg := ev_rng1 (S := S) (show 0 ≤ prodI ks by omega) (by omega)
    have sm : small (rangeD 0 1 (prodI ks).toNat).length = true := small_of (by rw [rangeD_len]; omega)
    have lc : lcGo (fun _ => true) (gN 13) bYes (eTup (aCons (eCall 2 F_rests (aCons (cV 3) (aCons (cV 13) aNil))) (aCons (cC (.bl true)) aNil))) [b0, b1, b2, some (.tup (ks.map .int)), some (.int (prodI ks)), b5, b6, q7, q8, q9, q10, q11, none, none] (rangeD 0 1 (prodI ks).toNat) S = .ok ((List.range (prodI ks).toNat).map fun k : Nat => .tup [rk ks k, .bl true]) S := by
      rw [lcGo_map (fun d => match d with | .int x => .tup [rk ks x, .bl true] | d => d) rfl, rangeD_map, List.map_map]
      · simp [Function.comp_def]
      · intro d hd
        rw [rangeD_map] at hd
        obtain ⟨x, _, rfl⟩ := List.mem_map.mp hd
        have r := F_rests_eq ks hm.mods (by omega) (0 + (x : Int)) S
        generalize F_rests = f at *
        refine ⟨[b0, b1, b2, some (.tup (ks.map .int)), some (.int (prodI ks)), b5, b6, q7, q8, q9, q10, q11, none, some (.int (0 + (x : Int)))], rfl, ?_⟩
        simp only [ev_eTup, ev_aCons, ev_aNil, ev_eCall, ev_cC, Res.bind_ok, ev_cV (show [b0, b1, b2, some (Dat.tup (ks.map .int)), some (.int (prodI ks)), b5, b6, q7, q8, q9, q10, q11, none, some (.int (0 + (x : Int)))][3]? = _ from rfl), ev_cV (show [b0, b1, b2, some (Dat.tup (ks.map .int)), some (.int (prodI ks)), b5, b6, q7, q8, q9, q10, q11, none, some (.int (0 + (x : Int)))][13]? = _ from rfl), List.length_cons, List.length_nil, if_true, r, small_of (show 0 + 1 + 1 ≤ 16777216 by decide), ev_guard_true]
    refine ⟨some D, ?_⟩
    generalize F_rests = f at *
    generalize (fun k : Nat => Dat.tup [rk ks k, .bl true]) = fk at *
    simp [h, rg, sm, lc, d1, d2, hN]
  · exact ⟨q7, by simp [h]⟩
end Law

namespace Law
open PySem PySem.Spec PyProof.Rows L2 Fx
theorem ev_neB (a b : Bool) (S : Sto) : oNe (.bl a) (.bl b) S = .ok (.bl (!decide (a = b))) S := id rfl
theorem ev_eqI' (x y : Int) (S : Sto) : oEq (.int x) (.int y) S = .ok (.bl (decide (x = y))) S := id rfl
theorem ne_twice (a b : Int) (S : Sto) : oNe (.lst [.tup [.int a, .int b], .tup [.int a, .int b]]) (.lst [.tup [.int a, .int b], .tup [.int a, .int b]]) S = .ok (.bl false) S := by
  have e : eqD (.lst [.tup [.int a, .int b], .tup [.int a, .int b]]) (.lst [.tup [.int a, .int b], .tup [.int a, .int b]]) S = (if SeqAt.shaped (.list [.tuple [.int a, .int b], .tuple [.int a, .int b]]) && SeqAt.shaped (.list [.tuple [.int a, .int b], .tuple [.int a, .int b]]) then some (PyData.eqv (.list [.tuple [.int a, .int b], .tuple [.int a, .int b]]) (.list [.tuple [.int a, .int b], .tuple [.int a, .int b]])) else none) := id rfl
  have s : SeqAt.shaped (.list [.tuple [.int a, .int b], .tuple [.int a, .int b]]) = true := by simp [SeqAt.shaped, PyData.canLay0, PyData.canLayAll0, PyData.depth, PyData.depthAll]
  have v : PyData.eqv (.list [.tuple [.int a, .int b], .tuple [.int a, .int b]]) (.list [.tuple [.int a, .int b], .tuple [.int a, .int b]]) = true := by simp [PyData.eqv, PyData.eqvAll]
  unfold oNe
  rw [e, s, v]
  rfl
theorem ml_twice (t : Dat) (S : Sto) : oMl (.lst [t]) (.int 2) S = .ok (.lst [t, t]) S := by
  have e : oMl (.lst [t]) (.int 2) S = Res.guard (decide (-(2 ^ 63 : Int) ≤ 2) && decide ((2 : Int) < 2 ^ 63)) (Res.guard (decide ([t].length * (2 : Int).toNat ≤ sizeLine)) (.ok (.lst (List.replicate (2 : Int).toNat [t]).flatten) S)) := id rfl
  rw [e, show (decide (-(2 ^ 63 : Int) ≤ 2) && decide ((2 : Int) < 2 ^ 63)) = true from by decide, decide_eq_true (show [t].length * (2 : Int).toNat ≤ sizeLine from by rw [sizeLine_eq]; show 1 * 2 ≤ 16777216; decide)]
  rfl
theorem body_eq (ns : List Int) (k : Int) (hk : 0 ≤ k ∧ k ≤ 8) (q2 q3 q4 q5 q6 q7 q8 q9 q10 q11 : Option Dat) (S : Sto) :
    ∃ r2 r3 r4 r5 r6 r7 r8 r9 r10 r11 S', L1_law [some (.scr ns), some (.int k), q2, q3, q4, q5, q6, q7, q8, q9, q10, q11, none, none] S = .nx [some (.scr ns), some (.int k), r2, r3, r4, r5, r6, r7, r8, r9, r10, r11, none, none] S' := by
  obtain ⟨c, s, e1, hs1, hs2⟩ := F_left_eq ns k hk S
  have pot1 : Pot S.length (S ++ [potO c s 60]) := ⟨c, s, 60, hs1, hs2, by simp⟩
  generalize S ++ [potO c s 60] = S1 at *
  generalize S.length = n at *
  obtain ⟨ms0, S2, e2, m1, m2, m3, p2⟩ := F_moduli_eq pot1
  have sl : oSl (.tup (ms0.map .int)) none (some 39) S2 = .ok (.tup ((ms0.take (min 39 ms0.length)).map .int)) S2 := by
    have e : oSl (.tup (ms0.map .int)) none (some 39) S2 = .ok (.tup (Fx.cutD (ms0.map .int) none (some 39))) S2 := id rfl
    have e' : Fx.cutD (ms0.map .int) none (some 39) = (ms0.take (min 39 ms0.length)).map .int := by
      unfold Fx.cutD
      have := HT.sIx_nat (ms0.map Dat.int).length (ms0.map Dat.int).length 39
      have h39 : ((39 : Nat) : Int) = 39 := rfl
      rw [h39] at this
      rw [this, HT.sIx_none]
      simp [List.map_take]
    rw [e, e']
  obtain ⟨ks1, e3, a1, a2, a3, a4⟩ := F_apart_eq (ms0.take (min 39 ms0.length)) (fun m h => m1 m (List.mem_of_mem_take h)) (by simp; omega) (by simp; omega) S2
  obtain ⟨ks2, S3, e4, b1, b2, b3, b4, p4⟩ := F_few_eq p2.pot
  obtain ⟨v, S4, e5, hv, p5⟩ := F_pick_eq p4.pot 2 (by omega)
  have ix : ∃ ks : List Int, oIx (.lst [.tup (ks1.map .int), .tup (ks2.map .int)]) (.int v) S4 = .ok (.tup (ks.map .int)) S4 ∧ Mods2 ks ∧ PW ks ∧ ks.length ≤ 41 ∧ 1 ≤ ks.length := by
    have : v = 0 ∨ v = 1 := by omega
    rcases this with rfl | rfl
    · exact ⟨ks1, ev_ix_lst rfl, a1, a2, a3, a4⟩
    · exact ⟨ks2, ev_ix_lst rfl, b1, b2, b3, b4⟩
  obtain ⟨ks, e6, hm, hp, hl, h1⟩ := ix
  have la := F_law_all_eq ks hm.mods hl S4
  have pp := prodI_pos hm.mods
  obtain ⟨one, S5, e7, ho, p7⟩ := F_below_eq p5.pot (prodI ks) pp (prodI_big hm.mods hl)
  obtain ⟨other, S6, e8, ho2, p8⟩ := F_below_eq p7.pot (prodI ks) pp (prodI_big hm.mods hl)
  obtain ⟨S7, e9, p9⟩ := F_right_eq ks hm hl hp one other ho ho2 n S6 p8.pot
  have sh := F_shared_none hm (by omega) hp S7
  have isn : oIsNot .non .non S7 = .ok (.bl false) S7 := rfl
  obtain ⟨r7, e10⟩ := dict_if ks hm hl hp (some (.scr ns)) (some (.int k)) (some (.ref n)) (some (.int one)) (some (.int other)) q7 q8 q9 q10 q11 S7
  have ro := F_rests_eq ks hm.mods (by omega) one S7
  have rt := F_rests_eq ks hm.mods (by omega) other S7
  obtain ⟨zs, mx, z1, z2, z3⟩ := mixed_sol ks (ks.map fun m => other % m) hm hl hp (by simp) (rests_small hm _) other ho2 (sol_rests _ _) S7
  have shm := F_shows_mixed_eq ks (ks.map fun m => one % m) hm hl hp zs z1 z2 S7
  rw [z3] at shm
  have eqd : decide ((ks.map fun m => other % m) = ks.map fun m => one % m) = decide (one = other) := decide_eq_decide.mpr ((rests_inj hp ho2 ho).trans eq_comm)
  rw [eqd] at shm
  have neb := ev_neB (decide (one = other)) (decide (one = other)) S7
  obtain ⟨av, S8, e11, ha, p11⟩ := F_pick_eq p9.pot (ks.length : Int) (by omega)
  obtain ⟨a, rfl⟩ := Int.eq_ofNat_of_zero_le ha.1
  have hak : a < ks.length := by omega
  have ixa : oIx (.tup (ks.map .int)) (.int (a : Int)) S8 = .ok (.int ks[a]) S8 := by
    have := ev_ix_tup (S := S8) (atD_int hak)
    rw [show ks.getD a 0 = ks[a] from by simp [List.getD, hak]] at this
    exact this
  have cat : oAdd (.tup (ks.map .int)) (.tup [.int ks[a]]) S8 = .ok (.tup ((ks ++ [ks[a]]).map .int)) S8 := by
    have e : oAdd (.tup (ks.map .int)) (.tup [.int ks[a]]) S8 = Res.guard (decide ((ks.map Dat.int).length + [Dat.int ks[a]].length ≤ sizeLine)) (.ok (.tup (ks.map .int ++ [.int ks[a]])) S8) := id rfl
    rw [e, decide_eq_true (by rw [sizeLine_eq]; simp; omega)]
    simp
  have hm' : Mods (ks ++ [ks[a]]) := fun m h => by
    rcases List.mem_append.mp h with h | h
    · exact hm.mods m h
    · rw [List.mem_singleton.mp h]; exact hm.mods _ (List.getElem_mem hak)
  have rm := F_rests_eq (ks ++ [ks[a]]) hm' (by simp; omega) one S8
  have dup := F_shared_dup ks hm hl hp a hak S8
  have ne2 : oNe (.tup [.int (a : Int), .int (ks.length : Int)]) (.tup [.int (a : Int), .int (ks.length : Int)]) S8 = .ok (.bl false) S8 := by
    have := ev_neT [(a : Int), (ks.length : Int)] [(a : Int), (ks.length : Int)] S8
    simpa using this
  have rg2 := ev_rng1 (S := S8) (show (0 : Int) ≤ 2 by decide) (by decide)
  have tn : (2 : Int).toNat = 2 := rfl
  rw [tn] at rg2
  have ref := fun y w => F_law_refused_eq ks hm hl hp a hak y w S8
  have lc2 : ∀ (b2 b3 b4 b5 b6 b7 b8 b9 : Option Dat) (y : Dat), lcGo (fun _ => true) (gN 12) bYes (eCall 3 F_law_refused (aCons (cV 12) (aCons (cV 10) (aCons (cV 11) aNil)))) [some (.scr ns), some (.int k), b2, b3, b4, b5, b6, b7, b8, b9, some (.tup ((ks ++ [ks[a]]).map .int)), some y, none, none] (rangeD 0 1 2) S8 = .ok [.tup [.int (a : Int), .int (ks.length : Int)], .tup [.int (a : Int), .int (ks.length : Int)]] S8 := by
    intro b2 b3 b4 b5 b6 b7 b8 b9 y
    generalize hM : Dat.tup ((ks ++ [ks[a]]).map .int) = M at *
    have := lcGo_map (chk := fun _ => true) (g := gN 12) (te := (eCall 3 F_law_refused (aCons (cV 12) (aCons (cV 10) (aCons (cV 11) aNil))))) (σ0 := [some (.scr ns), some (.int k), b2, b3, b4, b5, b6, b7, b8, b9, some M, some y, none, none]) (S := S8) (fun _ => .tup [.int (a : Int), .int (ks.length : Int)]) rfl (rangeD 0 1 2) (fun d hd => by
      rw [rangeD_map] at hd
      obtain ⟨x, _, rfl⟩ := List.mem_map.mp hd
      have r := ref y (0 + (x : Int))
      generalize F_law_refused = f at *
      exact ⟨[some (.scr ns), some (.int k), b2, b3, b4, b5, b6, b7, b8, b9, some M, some y, some (.int (0 + (x : Int))), none], rfl, by
        simp only [ev_eCall, ev_aCons, ev_aNil, ev_cV (show [some (Dat.scr ns), some (.int k), b2, b3, b4, b5, b6, b7, b8, b9, some M, some y, some (.int (0 + (x : Int))), none][12]? = _ from rfl), ev_cV (show [some (Dat.scr ns), some (.int k), b2, b3, b4, b5, b6, b7, b8, b9, some M, some y, some (.int (0 + (x : Int))), none][10]? = _ from rfl), ev_cV (show [some (Dat.scr ns), some (.int k), b2, b3, b4, b5, b6, b7, b8, b9, some M, some y, some (.int (0 + (x : Int))), none][11]? = _ from rfl), Res.bind_ok, List.length_cons, List.length_nil, if_true, r]⟩)
    rw [this]
    rfl
  have ml2 := ml_twice (.tup [.int (a : Int), .int (ks.length : Int)]) S8
  have ne3 := ne_twice (a : Int) (ks.length : Int) S8
  have sm2 : small (rangeD 0 1 2).length = true := small_of (by rw [rangeD_len]; decide)
  have eqi := ev_eqI' one other S7
  unfold L1_law
  generalize (sIf (bV (Fx.e2 oLe (cV 4) (cC (.int 3000)))) (sSeq (sSet 7 (eA (oDict true) (aCons (eLc (iRng1 (aCons (cV 4) aNil)) (gN 13) bYes (eTup (aCons (eCall 2 F_rests (aCons (cV 3) (aCons (cV 13) aNil))) (aCons (cC (.bl true)) aNil))) [13]) aNil))) (sIf (bV (Fx.e2 oNe (eA oLen (aCons (cV 7) aNil)) (cV 4))) (sRet (cC (.bl false))) sNil)) sNil) = DD at *
  generalize F_law_left = f1 at *
  generalize F_law_moduli = f2 at *
  generalize F_law_apart = f3 at *
  generalize F_law_few = f4 at *
  generalize F_law_pick = f5 at *
  generalize F_law_all = f6 at *
  generalize F_law_below = f7 at *
  generalize F_law_right = f8 at *
  generalize F_shared = f9 at *
  generalize F_mixed = f10 at *
  generalize F_rests = f11 at *
  generalize F_shows_mixed = f12 at *
  generalize F_law_refused = f13 at *
  generalize prodI ks = PP at *
  generalize ((ks ++ [ks[a]]).map fun m => one % m).map Dat.int = RM at *
  generalize (ks ++ [ks[a]]).map Dat.int = KA at *
  generalize (ks.map fun m => one % m).map Dat.int = RO at *
  generalize (ks.map fun m => other % m).map Dat.int = RT at *
  generalize (zs.map (·.1)).map Dat.int = Z at *
  generalize (ms0.take (min 39 ms0.length)).map Dat.int = MT at *
  refine ⟨some (.ref n), some (.tup (ks.map .int)), some (.int PP), some (.int one), some (.int other), r7, some (.tup Z), some (.int (a : Int)), some (.tup KA), some (.tup RM), S8, ?_⟩
  simp [e1, e2, sl, e3, e4, e5, e6, la, e7, e8, e9, sh, isn, e10, ro, rt, mx, shm, neb, eqi, e11, ixa, cat, rm, dup, ne2, rg2, sm2, lc2, ml2, ne3]
theorem law_true (ns : List Int) (hl : ns.length ≤ 63) : F_law [.scr ns] [] = .ok (.bl true) [] := by
  have mn : oMin2 [.int 8, .int ns.length] [] = .ok (.int (if (ns.length : Int) < 8 then (ns.length : Int) else 8)) [] := id rfl
  generalize hM : (if (ns.length : Int) < 8 then (ns.length : Int) else 8) = M at mn
  have hM1 : 0 ≤ M ∧ M ≤ 8 := by rw [← hM]; split <;> omega
  have rg := ev_rng1 (S := []) (show 0 ≤ 1 + M by omega) (by omega)
  have key : ∃ σ S', forGo (fun _ => true) (gN 1) L1_law (rangeD 0 1 (1 + M).toNat) [some (.scr ns), none, none, none, none, none, none, none, none, none, none, none, none, none] [] = .nx σ S' := by
    refine forGo_ind (fun xs σ S' => ∃ (k : Nat) (q1 q2 q3 q4 q5 q6 q7 q8 q9 q10 q11 : Option Dat), xs = rangeD (k : Int) 1 ((1 + M).toNat - k) ∧ σ = [some (.scr ns), q1, q2, q3, q4, q5, q6, q7, q8, q9, q10, q11, none, none])
      (fun o => ∃ σ S', o = .nx σ S') ?_ ?_ _ _ _ ⟨0, none, none, none, none, none, none, none, none, none, none, none, rfl, rfl⟩
    · rintro σ S' _
      exact ⟨rfl, σ, S', rfl⟩
    · rintro d r σ S' ⟨k, q1, q2, q3, q4, q5, q6, q7, q8, q9, q10, q11, hx, rfl⟩
      cases e : (1 + M).toNat - k with
      | zero => rw [e] at hx; cases hx
      | succ j =>
        rw [e] at hx
        simp only [rangeD, List.cons.injEq] at hx
        obtain ⟨rfl, rfl⟩ := hx
        obtain ⟨r2, r3, r4, r5, r6, r7, r8, r9, r10, r11, S2, eb⟩ := body_eq ns (k : Int) (by omega) q2 q3 q4 q5 q6 q7 q8 q9 q10 q11 S'
        refine ⟨rfl, [some (.scr ns), some (.int (k : Int)), q2, q3, q4, q5, q6, q7, q8, q9, q10, q11, none, none], S', rfl, ?_⟩
        rw [eb]
        refine ⟨k + 1, _, _, _, _, _, _, _, _, _, _, _, ?_, rfl⟩
        rw [show (1 + M).toNat - (k + 1) = j from by omega]
        push_cast
        rfl
  obtain ⟨σ, S', e⟩ := key
  have fi : fin [] (.rt (.bl true) S') = .ok (.bl true) [] := by
    show trunc [] _ _ S' = _
    unfold trunc
    simp [Dat.lt, okTr]
  unfold F_law b_law
  generalize L1_law = l1 at *
  simp [mkFn, mn, rg, e, fi]
end Law

open PySem PySem.W PySem.Calls PyProof.Rows
theorem PySem.Challenge.cw_partmill_k94_whole_rests_of_one_number_holds : PySem.Challenge.rw_partmill_k94_whole_rests_of_one_number.Holds := by
  w_on; o_law
  refine HandSHeadRun.head_any (r := OpenLaw.row PySem.Challenge.rw_partmill_k94_whole_rests_of_one_number) (q := view (OpenLaw.row PySem.Challenge.rw_partmill_k94_whole_rests_of_one_number).prog [28]) (H := Law.hk) (ob := Law.ob) (M := 1500) (loose := Law.loose) (d := HandSHeadRun.topDef (OpenLaw.row PySem.Challenge.rw_partmill_k94_whole_rests_of_one_number).prog 28) (kwd := []) Law.ob_eq
    (by kernel_rfl) (fun s => by kernel_rfl) Law.run (by kernel_rfl) (by kernel_rfl) (by kernel_rfl) (by rfl) (by first | assumption | decide +kernel) (by decide +kernel) ⟨rfl, rfl, rfl, rfl, rfl, by decide +kernel⟩ ?hw ?hc
  case hw => w_witness2
  case hc =>
    refine L2.walk_ofE (l := PySem.Challenge.rw_partmill_k94_whole_rests_of_one_number) (n := 63) (k := 7) (x := "_law_script") (CX := L2.CX0) rfl (by decide) (by kernel_rfl) ⟨rfl, by decide, by decide⟩ ?F (fun _ _ _ _ z => z)
    intro w mg fa h Y G hmg0
    obtain ⟨K, KX, c⟩ := Y
    have hmg : mg ("law" : PySem.Str) = some (.ref fa) := by
      have e : (HandSHeadRun.topDef (OpenLaw.row PySem.Challenge.rw_partmill_k94_whole_rests_of_one_number).prog 28).name = ("law" : PySem.Str) := by kernel_rfl
      rw [← e]
      exact hmg0
    exact Fx.law_end (P := (PySem.Challenge.rw_partmill_k94_whole_rests_of_one_number).prog) (w := w) (n := 63) KX (Law.ok_law (Law.txt KX G c)) hmg (Law.txt KX G c).g_law Law.law_true

