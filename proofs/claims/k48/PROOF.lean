import PyProof.Rows.All
import Wide.All
import OpenK.AllK
import Wide.FinOn
import PyProof.EqAt
import PyProof.EqKinds
import PyProof.TupleCall
import KE.KStateDown
import Lean
import HandS.Base
import HandS.Call
import HandS.List
import HandS.Comp
import HandS.Ends
import HandS.More
import HandS.Words
import HandS.WordsExc
import HandS.Exc
import HandS.ExcOwn
import HandS.ExcInit
import HandS.Defaults
import HandS.IsInst
import HandS.Iter
import HandS.Zip
import HandS.Wide
import HandS.Deep
import HandS.Flow
import HandS.Dict
import HandS.Text
import KE.KRevSl
import HandS.WordsDict
import HandS.Rev
import HandS.SortInts
import HandS.Conv
import HandS.TryMany
import HandS.ExcField
import HandS.Head0
import HandS.Head1
import HandS.Head2
import HandS.HeadEnd
import HandS.HeadHook1
import HandS.HeadHook2
import PySem.Challenge.RW_jointmaps_k48_whole_trees_of_anything
set_option Elab.async false
set_option linter.all false
set_option maxRecDepth 100000
set_option maxHeartbeats 2000000
/-! Jm, part A: values as trees over a store, what they stand for in HandS's abstract heap. -/
namespace Jm
open PySem PySem.Spec PyProof.Rows L2

theorem ex_self {A : Type} (a : A) : ∃ k, k = a := ⟨a, rfl⟩
/-- a known value that no reduction goes into -/
noncomputable def hid {A : Type} (a : A) : A := Classical.choose (ex_self a)
theorem hid_eq {A : Type} (a : A) : hid a = a := Classical.choose_spec (ex_self a)
/-! ### values, store, results -/
/-- the built-in types that are spoken of -/
inductive Tn where
  | int | bool | str | tuple | list | dict | none | set | range
  deriving DecidableEq, Inhabited
def Tn.name : Tn → String
  | .int => "int" | .bool => "bool" | .str => "str" | .tuple => "tuple" | .list => "list" | .dict => "dict" | .none => "NoneType" | .set => "set" | .range => "range"
/-- tup: a tuple; scr: the list that the law is given (nobody writes to it); loc: an object of the store; fn: a def or class of the module, by its number; rng: a range -/
inductive D where
  | non | bl (b : Bool) | int (i : Int) | str (x : Str) | tup (xs : List D) | loc (l : Nat) | fn (i : Nat) | ty (n : Tn) | exc (c : Nat) (fs : List D) | rng (lo hi : Int) | scr (xs : List D)
  deriving Inhabited
inductive O where
  | lst (xs : List D) | dct (kvs : List (Key × D))
  deriving Inhabited
abbrev Sto := List O
inductive Res (A : Type) where
  | ok (a : A) (S : Sto) | exc (c : Nat) (fs : List D) (S : Sto) | bad
abbrev M (A : Type) := Sto → Res A
abbrev En := List (Option D)
abbrev E (A : Type) := En → M A
def rbind {A B : Type} (r : Res A) (f : A → Sto → Res B) : Res B := match r with
  | .ok a S => f a S
  | .exc c fs S => .exc c fs S
  | .bad => .bad
@[simp] theorem rbind_ok {A B : Type} (a : A) (S : Sto) (f : A → Sto → Res B) : rbind (.ok a S) f = f a S := rfl
@[simp] theorem rbind_bad {A B : Type} (f : A → Sto → Res B) : rbind .bad f = .bad := rfl
@[simp] theorem rbind_exc {A B : Type} (c : Nat) (fs : List D) (S : Sto) (f : A → Sto → Res B) : rbind (.exc c fs S) f = .exc c fs S := rfl
theorem rbind_assoc {A B C : Type} (r : Res A) (f : A → Sto → Res B) (g : B → Sto → Res C) : rbind (rbind r f) g = rbind r (fun a S => rbind (f a S) g) := by cases r <;> rfl
def alloc (o : O) : M D := fun S => .ok (.loc S.length) (S ++ [o])

/-! ### what they stand for -/
/-- the one field of an own exception class, by the class's number -/
def fldName (c : Nat) : Str := match c % 4 with
  | 1 => "given"
  | 2 => "index"
  | _ => "reason"
/-- the written part; where the module's defs and classes stand; the script; ex: the exception of the except suite around -/
structure RC where
  K : PySem.W.Frag
  fa : Nat → Addr
  g : Option Addr
  ex : Option (Addr × Nat × Option Addr)
/-- the list that the law is given: nothing of the store, or a part of the written text -/
def ScrAt (R : RC) (p : List Addr) (H : Hp) (a : Addr) (xs : List V) : Prop := (R.g = some a ∧ a ∉ p ∧ Rd H a (.lst xs)) ∨ ∃ (o : Obj) (its : Array Value) (n : Nat), R.K.lookup a = some o ∧ o.cls = .type "list" ∧ o.dict = none ∧ o.data = .seq its n ∧ its.size ≤ sizeLine ∧ Vals xs its.toList
theorem ScrAt.sq {R : RC} {p : List Addr} {H : Hp} {a : Addr} {xs : List V} (h : ScrAt R p H a xs) : SqL R.K H a xs := by
  rcases h with ⟨_, _, h⟩ | h
  · exact .inl h
  · exact .inr h
/-- a tuple: nothing of the store, or a part of the written text -/
def TupAt (R : RC) (p : List Addr) (H : Hp) (a : Addr) (xs : List V) : Prop := (a ∉ p ∧ Rd H a (.tup xs)) ∨ ∃ (o : Obj) (its : Array Value) (n : Nat), R.K.lookup a = some o ∧ o.cls = .type "tuple" ∧ o.data = .seq its n ∧ its.size ≤ sizeLine ∧ Vals xs its.toList
theorem TupAt.sq {R : RC} {p : List Addr} {H : Hp} {a : Addr} {xs : List V} (h : TupAt R p H a xs) : SqT R.K H a xs := by
  rcases h with ⟨_, h⟩ | h
  · exact .inl h
  · exact .inr h
mutual
inductive RV (R : RC) (p : List Addr) (H : Hp) : D → V → Prop
  | non : RV R p H .non .non
  | bl (b : Bool) : RV R p H (.bl b) (.bl b)
  | int (i : Int) : RV R p H (.int i) (.int i)
  | str (x : Str) : RV R p H (.str x) (.str x)
  | ty (n : Tn) : RV R p H (.ty n) (.ty n.name)
  | tup {a : Addr} {xs : List V} {ds : List D} : TupAt R p H a xs → RVs R p H ds xs → RV R p H (.tup ds) (.ref a)
  | loc {l : Nat} {a : Addr} : p[l]? = some a → RV R p H (.loc l) (.ref a)
  | fn (i : Nat) : RV R p H (.fn i) (.ref (R.fa i))
  | rng {lo hi : Int} {a : Addr} : a ∉ p → H a = some (.rng lo hi) → RV R p H (.rng lo hi) (.ref a)
  | scr {a : Addr} {xs : List V} {ds : List D} : ScrAt R p H a xs → RVs R p H ds xs → RV R p H (.scr ds) (.ref a)
  | exc {c : Nat} {a d : Addr} {x : D} {v : V} : R.ex = some (a, c, some d) → d ∉ p → H d = some (.xd [(fldName c, v)]) → RV R p H x v → RV R p H (.exc c [x]) (.ref a)
  | exc0 {c : Nat} {a : Addr} : R.ex = some (a, c, none) → RV R p H (.exc c []) (.ref a)
inductive RVs (R : RC) (p : List Addr) (H : Hp) : List D → List V → Prop
  | nil : RVs R p H [] []
  | cons {d : D} {v : V} {ds : List D} {vs : List V} : RV R p H d v → RVs R p H ds vs → RVs R p H (d :: ds) (v :: vs)
end
/-- what is not of the store stays -/
def Tm (p : List Addr) (H : Hp) (p' : List Addr) (H' : Hp) : Prop := ∀ a u, a ∉ p → H a = some u → a ∉ p' ∧ H' a = some u
theorem Tm.refl {p : List Addr} {H : Hp} : Tm p H p H := fun _ _ n e => ⟨n, e⟩
theorem Tm.trans {p p1 p2 : List Addr} {H H1 H2 : Hp} (a : Tm p H p1 H1) (b : Tm p1 H1 p2 H2) : Tm p H p2 H2 := fun x o n e =>
  let ⟨n1, e1⟩ := a x o n e
  b x o n1 e1
theorem Tm.new {p : List Addr} {H : Hp} {q : Addr} {o : HO} (n : H q = none) : Tm p H p (upd H q o) := fun x u np e => ⟨np, by
  rw [upd_ne (ne_of_none e n)]; exact e⟩
theorem Tm.all {p : List Addr} {H : Hp} {q : Addr} {o : HO} (n : H q = none) : Tm p H (p ++ [q]) (upd H q o) := fun x u np e => by
  have ne := ne_of_none e n
  refine ⟨fun z => ?_, by rw [upd_ne ne]; exact e⟩
  rcases List.mem_append.mp z with z | z
  · exact np z
  · exact ne (by simpa using z)
theorem Tm.mut {p : List Addr} {H : Hp} {q : Addr} {o : HO} (hq : q ∈ p) : Tm p H p (upd H q o) := fun x v np ex => ⟨np, by
  rw [upd_ne (fun z => np (by rw [z]; exact hq))]; exact ex⟩
theorem Tm.scr {R : RC} {p p' : List Addr} {H H' : Hp} (t : Tm p H p' H') {a : Addr} {xs : List V} (h : ScrAt R p H a xs) : ScrAt R p' H' a xs := by
  rcases h with ⟨g, hg, h | ⟨o, h⟩⟩ | h
  · exact .inl ⟨g, (t a _ hg h).1, .inl (t a _ hg h).2⟩
  · exact .inl ⟨g, (t a _ hg h).1, .inr ⟨o, (t a _ hg h).2⟩⟩
  · exact .inr h
theorem Tm.tup {R : RC} {p p' : List Addr} {H H' : Hp} (t : Tm p H p' H') {a : Addr} {xs : List V} (h : TupAt R p H a xs) : TupAt R p' H' a xs := by
  rcases h with ⟨hg, h | ⟨o, h⟩⟩ | h
  · exact .inl ⟨(t a _ hg h).1, .inl (t a _ hg h).2⟩
  · exact .inl ⟨(t a _ hg h).1, .inr ⟨o, (t a _ hg h).2⟩⟩
  · exact .inr h
theorem pre_get {p p' : List Addr} (h : p <+: p') {l : Nat} {a : Addr} (e : p[l]? = some a) : p'[l]? = some a := by
  obtain ⟨r, rfl⟩ := h
  rw [List.getElem?_append_left (List.getElem?_eq_some_iff.mp e).1]; exact e
mutual
theorem RV.mono {R : RC} {p p' : List Addr} {H H' : Hp} (hp : p <+: p') (t : Tm p H p' H') : ∀ {d : D} {v : V}, RV R p H d v → RV R p' H' d v
  | _, _, .non => .non
  | _, _, .bl b => .bl b
  | _, _, .int i => .int i
  | _, _, .str x => .str x
  | _, _, .ty n => .ty n
  | _, _, .tup s r => .tup (t.tup s) (RVs.mono hp t r)
  | _, _, .loc e => .loc (pre_get hp e)
  | _, _, .fn i => .fn i
  | _, _, .rng n e => .rng (t _ _ n e).1 (t _ _ n e).2
  | _, _, .scr s r => .scr (t.scr s) (RVs.mono hp t r)
  | _, _, .exc e n h r => .exc e (t _ _ n h).1 (t _ _ n h).2 (RV.mono hp t r)
  | _, _, .exc0 e => .exc0 e
theorem RVs.mono {R : RC} {p p' : List Addr} {H H' : Hp} (hp : p <+: p') (t : Tm p H p' H') : ∀ {ds : List D} {vs : List V}, RVs R p H ds vs → RVs R p' H' ds vs
  | _, _, .nil => .nil
  | _, _, .cons r rs => .cons (RV.mono hp t r) (RVs.mono hp t rs)
end
theorem RVs.length {R : RC} {p : List Addr} {H : Hp} : ∀ {ds : List D} {vs : List V}, RVs R p H ds vs → ds.length = vs.length
  | _, _, .nil => rfl
  | _, _, .cons _ rs => congrArg (· + 1) rs.length
theorem RVs.append {R : RC} {p : List Addr} {H : Hp} : ∀ {ds es : List D} {vs us : List V}, RVs R p H ds vs → RVs R p H es us → RVs R p H (ds ++ es) (vs ++ us)
  | _, _, _, _, .nil, s => s
  | _, _, _, _, .cons r rs, s => .cons r (rs.append s)
theorem RVs.get {R : RC} {p : List Addr} {H : Hp} : ∀ {ds : List D} {vs : List V} {i : Nat} {d : D}, RVs R p H ds vs → ds[i]? = some d → ∃ v, vs[i]? = some v ∧ RV R p H d v
  | _, _, _, _, .nil, e => by simp at e
  | _, _, 0, _, .cons r _, e => by simp at e; subst e; exact ⟨_, rfl, r⟩
  | _, _, i + 1, d, .cons _ t, e => by
    obtain ⟨v, h1, h2⟩ := RVs.get (i := i) (d := d) t (by simpa using e)
    exact ⟨v, by simpa using h1, h2⟩
theorem RVs.getv {R : RC} {p : List Addr} {H : Hp} : ∀ {ds : List D} {vs : List V} {i : Nat} {v : V}, RVs R p H ds vs → vs[i]? = some v → ∃ d, ds[i]? = some d ∧ RV R p H d v
  | _, _, _, _, .nil, e => by simp at e
  | _, _, 0, _, .cons r _, e => by simp at e; subst e; exact ⟨_, rfl, r⟩
  | _, _, i + 1, v, .cons _ t, e => by
    obtain ⟨d, h1, h2⟩ := RVs.getv (i := i) (v := v) t (by simpa using e)
    exact ⟨d, by simpa using h1, h2⟩
theorem RVs.set {R : RC} {p : List Addr} {H : Hp} {d : D} {v : V} (r : RV R p H d v) : ∀ {ds : List D} {vs : List V} (i : Nat), RVs R p H ds vs → RVs R p H (ds.set i d) (vs.set i v)
  | _, _, _, .nil => .nil
  | _, _, 0, .cons _ t => .cons r t
  | _, _, i + 1, .cons q t => .cons q (RVs.set r i t)
theorem RVs.take {R : RC} {p : List Addr} {H : Hp} : ∀ {ds : List D} {vs : List V} (n : Nat), RVs R p H ds vs → RVs R p H (ds.take n) (vs.take n)
  | _, _, 0, _ => .nil
  | _, _, _ + 1, .nil => .nil
  | _, _, n + 1, .cons r t => .cons r (RVs.take n t)
theorem RVs.drop {R : RC} {p : List Addr} {H : Hp} : ∀ {ds : List D} {vs : List V} (n : Nat), RVs R p H ds vs → RVs R p H (ds.drop n) (vs.drop n)
  | _, _, 0, r => r
  | _, _, _ + 1, .nil => .nil
  | _, _, n + 1, .cons _ t => RVs.drop n t
theorem RVs.rev {R : RC} {p : List Addr} {H : Hp} : ∀ {ds : List D} {vs : List V}, RVs R p H ds vs → RVs R p H ds.reverse vs.reverse
  | _, _, .nil => .nil
  | _, _, .cons r t => by
    rw [List.reverse_cons, List.reverse_cons]
    exact RVs.append (RVs.rev t) (.cons r .nil)
theorem RVs.dropLast {R : RC} {p : List Addr} {H : Hp} {ds : List D} {vs : List V} (r : RVs R p H ds vs) : RVs R p H ds.dropLast vs.dropLast := by
  rw [List.dropLast_eq_take, List.dropLast_eq_take, r.length]
  exact r.take _
theorem RVs.eraseIdx {R : RC} {p : List Addr} {H : Hp} : ∀ {ds : List D} {vs : List V} (i : Nat), RVs R p H ds vs → RVs R p H (ds.eraseIdx i) (vs.eraseIdx i)
  | _, _, _, .nil => .nil
  | _, _, 0, .cons _ t => t
  | _, _, i + 1, .cons r t => .cons r (RVs.eraseIdx i t)

/-- an object of the store -/
def RO (R : RC) (p : List Addr) (H : Hp) (a : Addr) : O → Prop
  | .lst ds => ∃ vs, H a = some (.lst vs) ∧ RVs R p H ds vs
  | .dct kvs => ∃ us : List (Key × V), H a = some (.dK us) ∧ Paired (fun (x : Key × D) (y : Key × V) => x.1 = y.1 ∧ RV R p H x.2 y.2) kvs us
/-- the slots -/
def RE (R : RC) (p : List Addr) (n : En) (s : L2.St) (H : Hp) : Prop := n.length = s.length ∧ ∀ (i : Nat) (d : D), n[i]? = some (some d) → ∃ v, s[i]? = some (some v) ∧ RV R p H d v
theorem RE.mono {R : RC} {p p' : List Addr} {n : En} {s : L2.St} {H H' : Hp} (r : RE R p n s H) (hp : p <+: p') (t : Tm p H p' H') : RE R p' n s H' := ⟨r.1, fun i d e => by
  obtain ⟨v, h1, h2⟩ := r.2 i d e
  exact ⟨v, h1, h2.mono hp t⟩⟩
theorem RE.set {R : RC} {p : List Addr} {n : En} {s : L2.St} {H : Hp} (r : RE R p n s H) {i : Nat} {d : D} {v : V} (h : RV R p H d v) : RE R p (n.set i (some d)) (s.set i (some v)) H := ⟨by simp [r.1], fun j e hj => by
  by_cases hi : i = j
  · subst hi
    by_cases hl : i < n.length
    · rw [List.getElem?_set_self hl] at hj
      cases hj
      exact ⟨v, List.getElem?_set_self (by rw [← r.1]; exact hl), h⟩
    · rw [List.getElem?_eq_none (by simpa using hl)] at hj; cases hj
  · rw [List.getElem?_set_ne hi] at hj ⊢
    exact r.2 j e hj⟩
theorem RE.wipe {R : RC} {p : List Addr} {n : En} {s : L2.St} {H : Hp} (r : RE R p n s H) {i : Nat} : RE R p (n.set i none) (s.set i none) H := ⟨by simp [r.1], fun j e hj => by
  by_cases hi : i = j
  · subst hi
    by_cases hl : i < n.length
    · rw [List.getElem?_set_self hl] at hj; cases hj
    · rw [List.getElem?_eq_none (by simpa using hl)] at hj; cases hj
  · rw [List.getElem?_set_ne hi] at hj ⊢
    exact r.2 j e hj⟩
theorem paired_imp {A B : Type} {F G : A → B → Prop} : ∀ {l : List A} {k : List B}, Paired F l k → (∀ a b, F a b → G a b) → Paired G l k
  | _, _, .nil, _ => .nil
  | _, _, .cons r t, f => .cons (f _ _ r) (paired_imp t f)
theorem RO.mono {R : RC} {p p' : List Addr} {H H' : Hp} {a : Addr} {o : O} (r : RO R p H a o) (hp : p <+: p') (t : Tm p H p' H') (e : H' a = H a) : RO R p' H' a o := by
  cases o with
  | lst ds => obtain ⟨vs, h1, h2⟩ := r; exact ⟨vs, e.trans h1, h2.mono hp t⟩
  | dct kvs => obtain ⟨us, h1, h2⟩ := r; exact ⟨us, e.trans h1, paired_imp h2 fun x y z => ⟨z.1, z.2.mono hp t⟩⟩
theorem RO.there {R : RC} {p : List Addr} {H : Hp} {a : Addr} {o : O} (r : RO R p H a o) : ∃ u, H a = some u := by
  cases o with
  | lst ds => obtain ⟨vs, h1, h2⟩ := r; exact ⟨_, h1⟩
  | dct kvs => obtain ⟨us, h1, h2⟩ := r; exact ⟨_, h1⟩
structure RS (R : RC) (p : List Addr) (S : Sto) (H : Hp) : Prop where
  len : p.length = S.length
  nd : p.Nodup
  gt : ∀ a, R.g = some a → a ∉ p ∧ ∃ u, H a = some u
  at_ : ∀ (l : Nat) (o : O) (a : Addr), S[l]? = some o → p[l]? = some a → RO R p H a o
theorem RS.addr {R : RC} {p : List Addr} {S : Sto} {H : Hp} (r : RS R p S H) {l : Nat} {o : O} (e : S[l]? = some o) : ∃ a, p[l]? = some a ∧ RO R p H a o := by
  have hl : l < p.length := by rw [r.len]; exact (List.getElem?_eq_some_iff.mp e).1
  exact ⟨p[l], by simp [hl], r.at_ l o _ e (by simp [hl])⟩
theorem RS.mem {R : RC} {p : List Addr} {S : Sto} {H : Hp} (r : RS R p S H) {a : Addr} (h : a ∈ p) : ∃ u, H a = some u := by
  obtain ⟨l, hl, e⟩ := List.mem_iff_getElem.mp h
  have hs : l < S.length := by rw [← r.len]; exact hl
  exact (r.at_ l S[l] a (by simp [hs]) (by simp [hl, e])).there
theorem RS.nin {R : RC} {p : List Addr} {S : Sto} {H : Hp} (r : RS R p S H) {a : Addr} (h : H a = none) : a ∉ p := fun z => by
  obtain ⟨u, e⟩ := r.mem z
  rw [h] at e; cases e
theorem RS.ng {R : RC} {p : List Addr} {S : Sto} {H : Hp} (r : RS R p S H) {a : Addr} (h : H a = none) : R.g ≠ some a := fun z => by
  obtain ⟨_, u, e⟩ := r.gt a z
  rw [h] at e; cases e
/-- a heap that has what the store has -/
theorem RS.mono {R : RC} {p : List Addr} {S : Sto} {H H' : Hp} (r : RS R p S H) (t : Tm p H p H') (k : ∀ a u, a ∈ p → H a = some u → H' a = some u) : RS R p S H' :=
  ⟨r.len, r.nd, fun a e => by
    obtain ⟨n, u, h⟩ := r.gt a e
    exact ⟨(t a u n h).1, u, (t a u n h).2⟩, fun l o a e1 e2 => by
    have q := r.at_ l o a e1 e2
    obtain ⟨u, h1⟩ := q.there
    exact q.mono (List.prefix_refl _) t ((k a u (List.mem_of_getElem? e2) h1).trans h1.symm)⟩
theorem RS.newT {R : RC} {p : List Addr} {S : Sto} {H : Hp} (r : RS R p S H) {q : Addr} {o : HO} (n : H q = none) : RS R p S (upd H q o) :=
  r.mono (Tm.new n) fun a u _ e => by rw [upd_ne (ne_of_none e n)]; exact e
theorem pre_snoc {A : Type} (p : List A) (q : A) : p <+: p ++ [q] := ⟨[q], rfl⟩
/-- a tracked object that is none of the store becomes one -/
theorem RS.adopt {R : RC} {p : List Addr} {S : Sto} {H : Hp} (r : RS R p S H) {q : Addr} {o : O} (nq : q ∉ p) (h : RO R (p ++ [q]) H q o) (ng : R.g ≠ some q) (t : ∀ (l : Nat) (o' : O) (a : Addr), S[l]? = some o' → p[l]? = some a → RO R (p ++ [q]) H a o') : RS R (p ++ [q]) (S ++ [o]) H := by
  refine ⟨by simp [r.len], ?_, fun a e => ⟨fun z => ?_, (r.gt a e).2⟩, fun l o' a e1 e2 => ?_⟩
  · rw [List.nodup_append]
    refine ⟨r.nd, by simp, fun a ha b hb => ?_⟩
    have : b = q := by simpa using hb
    subst this
    intro z
    subst z
    exact nq ha
  · rcases List.mem_append.mp z with z | z
    · exact (r.gt a e).1 z
    · have : a = q := by simpa using z
      subst this
      exact ng e
  · by_cases hl : l < S.length
    · rw [List.getElem?_append_left hl] at e1
      rw [List.getElem?_append_left (by rw [r.len]; exact hl)] at e2
      exact t l o' a e1 e2
    · have e : l = S.length := by
        have := (List.getElem?_eq_some_iff.mp e1).1
        simp at this; omega
      subst e
      simp at e1
      subst e1
      have e3 : (p ++ [q])[p.length]? = some q := by simp
      rw [← r.len] at e2
      rw [e3] at e2; cases e2
      exact h
/-- a new object of the store -/
theorem RS.new {R : RC} {p : List Addr} {S : Sto} {H : Hp} (r : RS R p S H) {q : Addr} {o : O} {u : HO} (n : H q = none) (h : RO R (p ++ [q]) (upd H q u) q o) : RS R (p ++ [q]) (S ++ [o]) (upd H q u) := by
  have r1 := r.newT (o := u) n
  refine r1.adopt (r.nin n) h (r.ng n) fun l o' a e1 e2 => ?_
  have ne : a ≠ q := fun z => r.nin n (by rw [← z]; exact List.mem_of_getElem? e2)
  exact (r.at_ l o' a e1 e2).mono (pre_snoc _ _) (Tm.all n) (upd_ne ne)
/-- an object of the store changes -/
theorem RS.put {R : RC} {p : List Addr} {S : Sto} {H : Hp} (r : RS R p S H) {l : Nat} {q : Addr} {o0 o : O} {u : HO} (e0 : S[l]? = some o0) (eq : p[l]? = some q) (h : RO R p (upd H q u) q o) : RS R p (S.set l o) (upd H q u) := by
  refine ⟨by simp [r.len], r.nd, fun a e => ⟨(r.gt a e).1, ?_⟩, fun j o' a e1 e2 => ?_⟩
  · obtain ⟨n, u, h1⟩ := r.gt a e
    exact ⟨u, by rw [upd_ne (fun z => n (by rw [z]; exact List.mem_of_getElem? eq))]; exact h1⟩
  by_cases hj : j = l
  · subst hj
    rw [eq] at e2; cases e2
    rw [List.getElem?_set_self (List.getElem?_eq_some_iff.mp e0).1] at e1
    cases e1
    exact h
  · rw [List.getElem?_set_ne (Ne.symm hj)] at e1
    have na : a ≠ q := fun z => hj (by
      obtain ⟨h1, x1⟩ := List.getElem?_eq_some_iff.mp e2
      obtain ⟨h2, x2⟩ := List.getElem?_eq_some_iff.mp eq
      exact (List.getElem_inj r.nd).mp (x1.trans (z.trans x2.symm)))
    exact (r.at_ j o' a e1 e2).mono (List.prefix_refl _) (Tm.mut (List.mem_of_getElem? eq)) (upd_ne na)

/-! ### what is wanted of a result -/
/-- the wish about exceptions, by the classes' numbers and the fields: how it lies in the heap is told by EX -/
def EX (R : RC) (p : List Addr) (H : Hp) (c : Nat) (fs : List D) (cls : Value) (dd : Option Addr) : Prop :=
  cls = .ref (R.fa c) ∧ ((fs = [] ∧ dd = none) ∨ ∃ (d : Addr) (x : D) (v : V), fs = [x] ∧ dd = some d ∧ d ∉ p ∧ H d = some (.xd [(fldName c, v)]) ∧ RV R p H x v)
def Aft {A : Type} (R : RC) (p : List Addr) (H : Hp) (r : Res A) (Q : A → List Addr → Sto → Hp → Prop) (W : Value → Option Addr → Hp → Prop) : Prop := match r with
  | .ok a S' => ∀ p' H', p <+: p' → Tm p H p' H' → RS R p' S' H' → Q a p' S' H'
  | .exc c fs S' => ∀ p' H' cls dd, p <+: p' → Tm p H p' H' → RS R p' S' H' → EX R p' H' c fs cls dd → W cls dd H'
  | .bad => False
theorem Aft.bind {A B : Type} {R : RC} {p : List Addr} {H : Hp} {r : Res A} {f : A → Sto → Res B} {Q : B → List Addr → Sto → Hp → Prop} {W : Value → Option Addr → Hp → Prop} (h : Aft R p H (rbind r f) Q W) :
    Aft R p H r (fun a p' S' H' => Aft R p' H' (f a S') Q W) W := by
  cases r with
  | ok a S' =>
    intro p' H' hp t rs
    have h : Aft R p H (f a S') Q W := h
    show Aft R p' H' (f a S') Q W
    cases e : f a S' with
    | ok b S2 => rw [e] at h; exact fun p2 H2 hp2 t2 rs2 => h p2 H2 (hp.trans hp2) (t.trans t2) rs2
    | exc c fs S2 => rw [e] at h; exact fun p2 H2 cls dd hp2 t2 rs2 x => h p2 H2 cls dd (hp.trans hp2) (t.trans t2) rs2 x
    | bad => rw [e] at h; exact h
  | exc c fs S' => exact h
  | bad => exact h
theorem Aft.later {A : Type} {R : RC} {p p1 : List Addr} {H H1 : Hp} {r : Res A} {Q : A → List Addr → Sto → Hp → Prop} {W : Value → Option Addr → Hp → Prop} (h : Aft R p H r Q W) (hp : p <+: p1) (t : Tm p H p1 H1) : Aft R p1 H1 r Q W := by
  cases r with
  | ok a S' => exact fun p' H' hp' t' rs => h p' H' (hp.trans hp') (t.trans t') rs
  | exc c fs S' => exact fun p' H' cls dd hp' t' rs x => h p' H' cls dd (hp.trans hp') (t.trans t') rs x
  | bad => exact h
theorem Aft.imp {A : Type} {R : RC} {p : List Addr} {H : Hp} {r : Res A} {Q Q' : A → List Addr → Sto → Hp → Prop} {W W' : Value → Option Addr → Hp → Prop} (h : Aft R p H r Q W) (hq : ∀ a p' S' H', p <+: p' → Tm p H p' H' → RS R p' S' H' → Q a p' S' H' → Q' a p' S' H') (hw : ∀ c d H', W c d H' → W' c d H') : Aft R p H r Q' W' := by
  cases r with
  | ok a S' => exact fun p' H' hp t rs => hq _ _ _ _ hp t rs (h p' H' hp t rs)
  | exc c fs S' => exact fun p' H' cls dd hp t rs x => hw _ _ _ (h p' H' cls dd hp t rs x)
  | bad => exact h

/-! ### the judgements' readings -/
/-- an expression's -/
def xE (R : RC) (W : WX) (f : E D) : TE := fun s H Q => ∃ p n S, RS R p S H ∧ RE R p n s H ∧ Aft R p H (f n S) (fun d p' S' H' => ∀ v, RV R p' H' d v → Q v H') (fun c dd H' => W c dd s H')
/-- several expressions' -/
def xA (R : RC) (W : WX) (f : E (List D)) : TA := fun s H Q => ∃ p n S, RS R p S H ∧ RE R p n s H ∧ Aft R p H (f n S) (fun ds p' S' H' => ∀ vs, RVs R p' H' ds vs → Q vs H') (fun c dd H' => W c dd s H')
/-- a test's -/
def xT (R : RC) (W : WX) (f : E Bool) : TT := fun s H Q => ∃ p n S, RS R p S H ∧ RE R p n s H ∧ Aft R p H (f n S) (fun b p' S' H' => Q b H') (fun c dd H' => W c dd s H')
/-- a statement's: it goes on, hands back, breaks, continues, raises -/
inductive Out where
  | nx (n : En) | rt (d : D) | bk (n : En) | ct (n : En) | er (c : Nat) (fs : List D) (n : En)
def Out.post (R : RC) (W : WX) (D0 : Ends) (o : Out) (p : List Addr) (H : Hp) : Prop := match o with
  | .nx n => ∀ s, RE R p n s H → D0.nx s H
  | .rt d => ∀ v, RV R p H d v → D0.rt v H
  | .bk n => ∀ s, RE R p n s H → D0.bk s H
  | .ct n => ∀ s, RE R p n s H → D0.ct s H
  | .er c fs n => ∀ s cls dd, RE R p n s H → EX R p H c fs cls dd → W cls dd s H
def xS (R : RC) (W : WX) (f : E Out) : TS := fun D0 s H => ∃ p n S, RS R p S H ∧ RE R p n s H ∧ Aft R p H (f n S) (fun o p' S' H' => o.post R W D0 p' H') (fun _ _ _ => False)
end Jm

set_option Elab.async false
set_option linter.all false
set_option maxRecDepth 100000
set_option maxHeartbeats 2000000
/-! Jm, part B: expressions: names, constants, displays, operators, truth, calls by values. -/
namespace Jm
open PySem PySem.Spec PyProof.Rows L2

/-! ### combinators -/
def LINE : Nat := 16777216
theorem line_eq : sizeLine = LINE := sizeLine_eq
def lft {A : Type} (o : Option (A × Sto)) : Res A := match o with
  | some (a, S) => .ok a S
  | none => .bad
def eVar (i : Nat) : E D := fun n S => match n[i]? with
  | some (some d) => .ok d S
  | _ => .bad
def eCst (d : D) : E D := fun _ S => .ok d S
def eBnd {A B : Type} (f : E A) (g : A → E B) : E B := fun n S => rbind (f n S) fun a S' => g a n S'
def eAll : List (E D) → E (List D)
  | [] => fun _ S => .ok [] S
  | f :: fs => eBnd f fun d => eBnd (eAll fs) fun ds _ S => .ok (d :: ds) S
/-- a primitive of the values -/
def eOp1 (g : D → Sto → Option (D × Sto)) (f : E D) : E D := eBnd f fun d _ S => lft (g d S)
def eOp2 (g : D → D → Sto → Option (D × Sto)) (f1 f2 : E D) : E D := eBnd f1 fun d1 => eBnd f2 fun d2 _ S => lft (g d1 d2 S)
def eOpN (g : List D → Sto → Option (D × Sto)) (fs : List (E D)) : E D := eBnd (eAll fs) fun ds _ S => lft (g ds S)
def mkTup (ds : List D) (S : Sto) : Option (D × Sto) := if ds.length ≤ LINE then some (.tup ds, S) else none
def mkLst (ds : List D) (S : Sto) : Option (D × Sto) := if ds.length ≤ LINE then some (.loc S.length, S ++ [.lst ds]) else none
def lineOk (n : Nat) : Bool := decide (n ≤ LINE)
def lstAt (S : Sto) (l : Nat) : Option (List D) := match S[l]? with
  | some (.lst ds) => some ds
  | _ => none
def dctAt (S : Sto) (l : Nat) : Option (List (Key × D)) := match S[l]? with
  | some (.dct ds) => some ds
  | _ => none

/-! ### the judgements with weaker readings -/
section
variable {X : Cx} {e : Expr} {es : List Expr}
theorem impE {t t' : TE} (h : PE X e t) (m : ∀ s H Q, t' s H Q → t s H Q) : PE X e t' := ⟨fun pins s σ H Q I hw => h.run pins s σ H Q I (m _ _ _ hw)⟩
theorem impT {t t' : TT} (h : PT X e t) (m : ∀ s H Q, t' s H Q → t s H Q) : PT X e t' := ⟨fun pins s σ H Q I hw => h.run pins s σ H Q I (m _ _ _ hw)⟩
theorem impW {t t' : TT} (h : PW X e t) (m : ∀ s H Q, t' s H Q → t s H Q) : PW X e t' := ⟨fun wh pins s σ H Q I hw => h.run wh pins s σ H Q I (m _ _ _ hw)⟩
theorem impA {t t' : TA} (h : PA X es t) (m : ∀ s H Q, t' s H Q → t s H Q) : PA X es t' := ⟨fun pos pins s σ H Q I hw => h.run pos pins s σ H Q I (m _ _ _ hw)⟩
end

/-! ### expressions -/
/-- where the module's defs and classes stand; the script, where it is tracked -/
structure Gl0 where
  fa : Nat → Addr
  g : Option Addr
  ex : Option (Addr × Nat × Option Addr) := none
abbrev rc (X : Cx) (fa : Gl0) : RC := ⟨X.K, fa.fa, fa.g, fa.ex⟩
section
variable {X : Cx} {fa : Gl0} {W : WX} {e a b : Expr} {es : List Expr} {pos : Pos}
/-- one part, then the rest -/
theorem xE_of {R : RC} {B : Type} {f : E D} {g : D → E B} {s : L2.St} {H : Hp} {QB : B → List Addr → Sto → Hp → Prop} {p : List Addr} {n : En} {S : Sto} {Q : VK}
    (rs : RS R p S H) (re : RE R p n s H) (h : Aft R p H (eBnd f g n S) QB (fun c dd H' => W c dd s H'))
    (m : ∀ d p1 S1 H1 v, RS R p1 S1 H1 → RE R p1 n s H1 → p <+: p1 → Tm p H p1 H1 → RV R p1 H1 d v → Aft R p1 H1 (g d n S1) QB (fun c dd H' => W c dd s H') → Q v H1) : xE R W f s H Q :=
  ⟨p, n, S, rs, re, (Aft.bind h).imp (fun d p1 S1 H1 hp t rs1 h1 v rv => m d p1 S1 H1 v rs1 (re.mono hp t) hp t rv h1) fun _ _ _ w => w⟩
theorem xA_of {R : RC} {B : Type} {f : E (List D)} {g : List D → E B} {s : L2.St} {H : Hp} {QB : B → List Addr → Sto → Hp → Prop} {p : List Addr} {n : En} {S : Sto} {Q : List V → Hp → Prop}
    (rs : RS R p S H) (re : RE R p n s H) (h : Aft R p H (eBnd f g n S) QB (fun c dd H' => W c dd s H'))
    (m : ∀ ds p1 S1 H1 vs, RS R p1 S1 H1 → RE R p1 n s H1 → p <+: p1 → Tm p H p1 H1 → RVs R p1 H1 ds vs → Aft R p1 H1 (g ds n S1) QB (fun c dd H' => W c dd s H') → Q vs H1) : xA R W f s H Q :=
  ⟨p, n, S, rs, re, (Aft.bind h).imp (fun ds p1 S1 H1 hp t rs1 h1 vs rv => m ds p1 S1 H1 vs rs1 (re.mono hp t) hp t rv h1) fun _ _ _ w => w⟩
theorem xT_of {R : RC} {B : Type} {f : E Bool} {g : Bool → E B} {s : L2.St} {H : Hp} {QB : B → List Addr → Sto → Hp → Prop} {p : List Addr} {n : En} {S : Sto} {Q : Bool → Hp → Prop}
    (rs : RS R p S H) (re : RE R p n s H) (h : Aft R p H (eBnd f g n S) QB (fun c dd H' => W c dd s H'))
    (m : ∀ b p1 S1 H1, RS R p1 S1 H1 → RE R p1 n s H1 → p <+: p1 → Tm p H p1 H1 → Aft R p1 H1 (g b n S1) QB (fun c dd H' => W c dd s H') → Q b H1) : xT R W f s H Q :=
  ⟨p, n, S, rs, re, (Aft.bind h).imp (fun b p1 S1 H1 hp t rs1 h1 => m b p1 S1 H1 rs1 (re.mono hp t) hp t h1) fun _ _ _ w => w⟩
theorem aft_ok {A : Type} {R : RC} {p : List Addr} {H : Hp} {d : A} {S : Sto} {Q : A → List Addr → Sto → Hp → Prop} {W' : Value → Option Addr → Hp → Prop} (rs : RS R p S H) (h : Aft R p H (.ok d S) Q W') : Q d p S H := h p H (List.prefix_refl _) Tm.refl rs
theorem aft_lft {A : Type} {R : RC} {p : List Addr} {H : Hp} {o : Option (A × Sto)} {Q : A → List Addr → Sto → Hp → Prop} {W' : Value → Option Addr → Hp → Prop} (h : Aft R p H (lft o) Q W') :
    ∃ d S', o = some (d, S') ∧ ∀ p' H', p <+: p' → Tm p H p' H' → RS R p' S' H' → Q d p' S' H' := by
  cases o with
  | none => exact False.elim h
  | some x =>
    obtain ⟨d, S'⟩ := x
    exact ⟨d, S', rfl, h⟩

theorem f_var {i : Nat} {x : Str} (hN : X.N[i]? = some x) (hv : Vis X.env.scope x) (hd : (x == ("__debug__" : Str)) = false) (hcd : (x == ("__classdict__" : Str)) = false) : PE X (.Name x pos) (xE (rc X fa) W (eVar i)) :=
  impE (pe_var hN hv hd hcd) fun s H Q h => by
    obtain ⟨p, n, S, rs, re, h⟩ := h
    unfold eVar at h
    split at h
    · rename_i d e
      obtain ⟨v, h1, h2⟩ := re.2 i d e
      exact ⟨v, h1, aft_ok rs h v h2⟩
    · exact h.elim
theorem f_cst {c : V} {d : D} (h : PE X e (tC c)) (r : ∀ p H, RV (rc X fa) p H d c) : PE X e (xE (rc X fa) W (eCst d)) :=
  impE h fun s H Q ⟨p, n, S, rs, re, h⟩ => aft_ok rs h c (r p H)
theorem f_nil : PA X [] (xA (rc X fa) W (eAll [])) := impA pa_nil fun s H Q ⟨p, n, S, rs, re, h⟩ => aft_ok rs h [] .nil
theorem f_cons {f : E D} {fs : List (E D)} (ha : PE X e (xE (rc X fa) W f)) (hr : PA X es (xA (rc X fa) W (eAll fs))) (hs : starEach (e :: es) X.env = (false, eval e X.env) :: starEach es X.env) :
    PA X (e :: es) (xA (rc X fa) W (eAll (f :: fs))) :=
  impA (pa_cons ha hr hs) fun s H Q ⟨p, n, S, rs, re, h⟩ => xE_of rs re h fun d p1 S1 H1 v rs1 re1 hp t rv h1 =>
    xA_of rs1 re1 h1 fun ds p2 S2 H2 vs rs2 re2 hp2 t2 rvs h2 => aft_ok rs2 h2 _ (.cons (rv.mono hp2 t2) rvs)

/-! ### values' rules -/
def x2 (R : RC) (g : D → D → Sto → Option (D × Sto)) : R2 := fun x y H Q => ∃ p S d1 d2 d S', RS R p S H ∧ RV R p H d1 x ∧ RV R p H d2 y ∧ g d1 d2 S = some (d, S') ∧ ∀ p' H', p <+: p' → Tm p H p' H' → RS R p' S' H' → ∀ v, RV R p' H' d v → Q v H'
def x1 (R : RC) (g : D → Sto → Option (D × Sto)) : V → Hp → VK → Prop := fun x H Q => ∃ p S d1 d S', RS R p S H ∧ RV R p H d1 x ∧ g d1 S = some (d, S') ∧ ∀ p' H', p <+: p' → Tm p H p' H' → RS R p' S' H' → ∀ v, RV R p' H' d v → Q v H'
def xN (R : RC) (g : List D → Sto → Option (D × Sto)) : List V → Hp → VK → Prop := fun xs H Q => ∃ p S ds d S', RS R p S H ∧ RVs R p H ds xs ∧ g ds S = some (d, S') ∧ ∀ p' H', p <+: p' → Tm p H p' H' → RS R p' S' H' → ∀ v, RV R p' H' d v → Q v H'
theorem op2_in {g : D → D → Sto → Option (D × Sto)} {f1 f2 : E D} {s : L2.St} {H : Hp} {Q : VK} (h : xE (rc X fa) W (eOp2 g f1 f2) s H Q) : tOp (x2 (rc X fa) g) (xE (rc X fa) W f1) (xE (rc X fa) W f2) s H Q := by
  obtain ⟨p, n, S, rs, re, h⟩ := h
  exact xE_of rs re h fun d p1 S1 H1 v rs1 re1 hp t rv h1 => xE_of rs1 re1 h1 fun d2 p2 S2 H2 v2 rs2 re2 hp2 t2 rv2 h2 => by
    obtain ⟨d3, S3, e3, h3⟩ := aft_lft h2
    exact ⟨p2, S2, d, d2, d3, S3, rs2, rv.mono hp2 t2, rv2, e3, h3⟩
theorem f_op {op : Operator} {g : D → D → Sto → Option (D × Sto)} {f1 f2 : E D} (ho : OpR X (binaryOp op) (x2 (rc X fa) g)) (ha : PE X a (xE (rc X fa) W f1)) (hb : PE X b (xE (rc X fa) W f2)) : PE X (.BinOp a op b pos) (xE (rc X fa) W (eOp2 g f1 f2)) :=
  impE (pe_op ho ha hb) fun s H Q h => op2_in h
theorem f_cmp {op : CmpOp} {g : D → D → Sto → Option (D × Sto)} {f1 f2 : E D} (ho : OpR X (compareOp op) (x2 (rc X fa) g)) (ha : PE X a (xE (rc X fa) W f1)) (hb : PE X b (xE (rc X fa) W f2)) (hm : behindInMarks op b = false) : PE X (.Compare a [op] [b] pos) (xE (rc X fa) W (eOp2 g f1 f2)) :=
  impE (pe_cmpR ho ha hb hm) fun s H Q h => op2_in h
theorem f_un {op : UnaryOp} {g : D → Sto → Option (D × Sto)} {f1 : E D} (ho : UnR X (unaryOp op) (x1 (rc X fa) g)) (ha : PE X a (xE (rc X fa) W f1)) : PE X (.UnaryOp op a pos) (xE (rc X fa) W (eOp1 g f1)) :=
  impE (pe_un ho ha) fun s H Q ⟨p, n, S, rs, re, h⟩ => xE_of rs re h fun d p1 S1 H1 v rs1 re1 hp t rv h1 => by
    obtain ⟨d3, S3, e3, h3⟩ := aft_lft h1
    exact ⟨p1, S1, d, d3, S3, rs1, rv, e3, h3⟩
theorem opN_in {g : List D → Sto → Option (D × Sto)} {fs : List (E D)} {s : L2.St} {H : Hp} {Q : VK} (h : xE (rc X fa) W (eOpN g fs) s H Q) : xA (rc X fa) W (eAll fs) s H (fun vs H1 => xN (rc X fa) g vs H1 Q) := by
  obtain ⟨p, n, S, rs, re, h⟩ := h
  exact xA_of rs re h fun ds p1 S1 H1 vs rs1 re1 hp t rv h1 => by
    obtain ⟨d3, S3, e3, h3⟩ := aft_lft h1
    exact ⟨p1, S1, ds, d3, S3, rs1, rv, e3, h3⟩
theorem f_bif {x : Str} {id : String} {q : Pos} {g : List D → Sto → Option (D × Sto)} {fs : List (E D)} (hc : CallR X (.builtin id) (xN (rc X fa) g)) (hg : Gl X x) (hm : X.mg x = none) (hv : bootBuiltins x = some (.builtin id)) (ha : PA X (e :: es) (xA (rc X fa) W (eAll fs))) (hn : x ≠ "__name__") (hdb : (x == ("__debug__" : Str)) = false)
    (he : starEach (e :: es) X.env = (false, eval e X.env) :: starEach es X.env) (hpl : (backTo pos (starEach es X.env)).any (·.1) = false) : PE X (.Call (.Name x q) (e :: es) [] pos) (xE (rc X fa) W (eOpN g fs)) :=
  impE (pe_callB hc hg hm hv ha hn hdb he hpl) fun s H Q h => opN_in h
theorem f_bty {x : Str} {T : String} {q : Pos} {g : List D → Sto → Option (D × Sto)} {fs : List (E D)} (hc : CallR X (.type T) (xN (rc X fa) g)) (hg : Gl X x) (hm : X.mg x = none) (hv : bootBuiltins x = some (.type T)) (ha : PA X (e :: es) (xA (rc X fa) W (eAll fs))) (hn : x ≠ "__name__") (hdb : (x == ("__debug__" : Str)) = false)
    (he : starEach (e :: es) X.env = (false, eval e X.env) :: starEach es X.env) (hpl : (backTo pos (starEach es X.env)).any (·.1) = false) : PE X (.Call (.Name x q) (e :: es) [] pos) (xE (rc X fa) W (eOpN g fs)) :=
  impE (pe_callTy hc hg hm hv ha hn hdb he hpl) fun s H Q h => opN_in h
theorem f_tup {fs : List (E D)} {k : Nat} (ha : PA X es (xA (rc X fa) W (eAll fs))) : PE X (.Tuple es k pos) (xE (rc X fa) W (eOpN mkTup fs)) :=
  impE (pe_tup ha) fun s H Q ⟨p, n, S, rs, re, h⟩ => xA_of rs re h fun ds p1 S1 H1 vs rs1 re1 hp t rv h1 => by
    obtain ⟨d3, S3, e3, h3⟩ := aft_lft h1
    unfold mkTup at e3
    split at e3
    · rename_i hl
      cases e3
      refine ⟨by rw [← rv.length, line_eq]; exact hl, fun q hq => ?_⟩
      have T := Tm.new (p := p1) (o := .tup vs) hq
      exact h3 p1 _ (List.prefix_refl _) T (rs1.newT hq) _ (.tup (.inl ⟨RS.nin (by assumption) (by assumption), .inl upd_same⟩) (rv.mono (List.prefix_refl _) T))
    · cases e3
theorem f_lst {fs : List (E D)} (ha : PA X es (xA (rc X fa) W (eAll fs))) : PE X (.List es pos) (xE (rc X fa) W (eOpN mkLst fs)) :=
  impE (pe_lst ha) fun s H Q ⟨p, n, S, rs, re, h⟩ => xA_of rs re h fun ds p1 S1 H1 vs rs1 re1 hp t rv h1 => by
    obtain ⟨d3, S3, e3, h3⟩ := aft_lft h1
    unfold mkLst at e3
    split at e3
    · rename_i hl
      cases e3
      refine ⟨by rw [← rv.length, line_eq]; exact hl, fun q hq => ?_⟩
      have T := Tm.all (p := p1) (o := .lst vs) hq
      refine h3 (p1 ++ [q]) _ (pre_snoc _ _) T (rs1.new hq ⟨vs, upd_same, rv.mono (pre_snoc _ _) T⟩) _ (.loc ?_)
      rw [← rs1.len]; simp
    · cases e3

/-! ### truth -/
def truD (d : D) (S : Sto) : Option Bool := match d with
  | .non => some false
  | .bl b => some b
  | .int i => some (i != 0)
  | .str x => if x.length ≤ LINE then some ((x.length : Int) != 0) else none
  | .tup xs => some (!xs.isEmpty)
  | .scr xs => some (!xs.isEmpty)
  | .loc l => match S[l]? with
    | some (.lst xs) => some (!xs.isEmpty)
    | some (.dct xs) => some (!xs.isEmpty)
    | none => none
  | _ => none
def tru (d : D) : E Bool := fun _ S => match truD d S with
  | some b => .ok b S
  | none => .bad
theorem RVs.isEmpty {R : RC} {p : List Addr} {H : Hp} {ds : List D} {vs : List V} (r : RVs R p H ds vs) : vs.isEmpty = ds.isEmpty := by cases r <;> rfl
theorem paired_isEmpty {A B : Type} {F : A → B → Prop} {l : List A} {k : List B} (r : Paired F l k) : k.isEmpty = l.isEmpty := by cases r <;> rfl
theorem tru_of {p : List Addr} {S : Sto} {H : Hp} {d : D} {v : V} {k : Bool} (rs : RS (rc X fa) p S H) (rv : RV (rc X fa) p H d v) (h : truD d S = some k) : TruV X.K v H k := by
  cases rv with
  | non => cases h; rfl
  | bl b => cases h; rfl
  | int i => cases h; rfl
  | str x =>
    have h' : (if x.length ≤ LINE then some ((x.length : Int) != 0) else none) = some k := h
    split at h'
    · rename_i hl
      cases h'
      exact ⟨by rw [line_eq]; exact hl, rfl⟩
    · cases h'
  | ty n => cases h
  | tup s r => cases h; exact .inr (.inl ⟨_, s.sq, by rw [r.isEmpty]⟩)
  | scr s r => cases h; exact .inl ⟨_, s.sq, by rw [r.isEmpty]⟩
  | fn i => cases h
  | rng e => cases h
  | exc _ _ _ _ => cases h
  | exc0 _ => cases h
  | @loc l a e =>
    have h' : (match S[l]? with | some (.lst xs) => some (!xs.isEmpty) | some (.dct xs) => some (!xs.isEmpty) | none => none) = some k := h
    cases q : S[l]? with
    | none => rw [q] at h'; cases h'
    | some o =>
      have ro := rs.at_ l o a q e
      rw [q] at h'
      cases o with
      | lst ds =>
        obtain ⟨vs, h1, h2⟩ := ro
        cases h'
        exact .inl ⟨vs, .of h1, by rw [h2.isEmpty]⟩
      | dct kvs =>
        obtain ⟨us, h1, h2⟩ := ro
        cases h'
        exact .inr (.inr ⟨us, h1, by rw [paired_isEmpty h2]⟩)
/-- a test by its value's truth -/
def eTru (f : E D) : E Bool := eBnd f tru
theorem tru_in {f : E D} {s : L2.St} {H : Hp} {Q : Bool → Hp → Prop} (h : xT (rc X fa) W (eTru f) s H Q) : xE (rc X fa) W f s H (fun x H' => ∃ k, TruV X.K x H' k ∧ Q k H') := by
  obtain ⟨p, n, S, rs, re, h⟩ := h
  exact xE_of rs re h fun d p1 S1 H1 v rs1 re1 hp t rv h1 => by
    unfold tru at h1
    split at h1
    · rename_i k e
      exact ⟨k, tru_of rs1 rv e, aft_ok rs1 h1⟩
    · exact h1.elim
theorem f_truth {f : E D} (ha : PE X a (xE (rc X fa) W f)) (he : ∀ whole, isTrue a X.env whole = (do let v ← whole; standAt a.pos; holding [v] (truthy v))) : PT X a (xT (rc X fa) W (eTru f)) :=
  impT (pt_truth ha he) fun s H Q h => tru_in h
def eNotT (f : E Bool) : E Bool := eBnd f fun b _ S => .ok (!b) S
def eAndT (f g : E Bool) : E Bool := eBnd f fun b => if b = true then g else fun _ S => .ok false S
def eOrT (f g : E Bool) : E Bool := eBnd f fun b => if b = true then fun _ S => .ok true S else g
theorem f_notT {f : E Bool} (ha : PT X a (xT (rc X fa) W f)) : PT X (.UnaryOp .Not a pos) (xT (rc X fa) W (eNotT f)) :=
  impT (pt_not ha) fun s H Q ⟨p, n, S, rs, re, h⟩ => xT_of rs re h fun b p1 S1 H1 rs1 re1 hp t h1 => aft_ok rs1 h1
theorem f_and1 {f : E Bool} (ha : PT X a (xT (rc X fa) W f)) : PW X (.BoolOp .And [a] pos) (xT (rc X fa) W f) := pw_and1 ha
theorem f_or1 {f : E Bool} (ha : PT X a (xT (rc X fa) W f)) : PW X (.BoolOp .Or [a] pos) (xT (rc X fa) W f) := pw_or1 ha
theorem f_andT {f g : E Bool} (ha : PT X a (xT (rc X fa) W f)) (hb : PW X (.BoolOp .And (b :: es) pos) (xT (rc X fa) W g)) : PW X (.BoolOp .And (a :: b :: es) pos) (xT (rc X fa) W (eAndT f g)) :=
  impW (pw_and ha hb) fun s H Q ⟨p, n, S, rs, re, h⟩ => xT_of rs re h fun c p1 S1 H1 rs1 re1 hp t h1 => by
    cases c with
    | true => exact ⟨p1, n, S1, rs1, re1, h1⟩
    | false => exact aft_ok rs1 h1
theorem f_orT {f g : E Bool} (ha : PT X a (xT (rc X fa) W f)) (hb : PW X (.BoolOp .Or (b :: es) pos) (xT (rc X fa) W g)) : PW X (.BoolOp .Or (a :: b :: es) pos) (xT (rc X fa) W (eOrT f g)) :=
  impW (pw_or ha hb) fun s H Q ⟨p, n, S, rs, re, h⟩ => xT_of rs re h fun c p1 S1 H1 rs1 re1 hp t h1 => by
    cases c with
    | true => exact aft_ok rs1 h1
    | false => exact ⟨p1, n, S1, rs1, re1, h1⟩
/-- values: and, or by truth -/
def eAnd (f g : E D) : E D := eBnd f fun d => eBnd (tru d) fun b => if b = true then g else fun _ S => .ok d S
def eOr (f g : E D) : E D := eBnd f fun d => eBnd (tru d) fun b => if b = true then fun _ S => .ok d S else g
def eNot (f : E D) : E D := eBnd (eTru f) fun b _ S => .ok (.bl (!b)) S
def eIf {A : Type} (t : E Bool) (f g : E A) : E A := eBnd t fun b => if b = true then f else g
theorem tru_ok' {d : D} {n : En} {S : Sto} {B : Type} {f : Bool → Sto → Res B} {R : RC} {p : List Addr} {H : Hp} {Q : B → List Addr → Sto → Hp → Prop} {W' : Value → Option Addr → Hp → Prop} (h : Aft R p H (rbind (tru d n S) f) Q W') : ∃ k, truD d S = some k ∧ Aft R p H (f k S) Q W' := by
  unfold tru at h
  split at h
  · rename_i k e
    exact ⟨k, e, h⟩
  · exact h.elim
theorem f_and {f g : E D} (ha : PE X a (xE (rc X fa) W f)) (hb : PE X (.BoolOp .And (b :: es) pos) (xE (rc X fa) W g)) : PE X (.BoolOp .And (a :: b :: es) pos) (xE (rc X fa) W (eAnd f g)) :=
  impE (pe_andT ha hb) fun s H Q ⟨p, n, S, rs, re, h⟩ => xE_of rs re h fun d p1 S1 H1 v rs1 re1 hp t rv h1 => by
    obtain ⟨k, e, h2⟩ := tru_ok' h1
    refine ⟨k, tru_of rs1 rv e, ?_⟩
    cases k with
    | true => exact ⟨p1, n, S1, rs1, re1, h2⟩
    | false => exact aft_ok rs1 h2 v rv
theorem f_or {f g : E D} (ha : PE X a (xE (rc X fa) W f)) (hb : PE X (.BoolOp .Or (b :: es) pos) (xE (rc X fa) W g)) : PE X (.BoolOp .Or (a :: b :: es) pos) (xE (rc X fa) W (eOr f g)) :=
  impE (pe_orT ha hb) fun s H Q ⟨p, n, S, rs, re, h⟩ => xE_of rs re h fun d p1 S1 H1 v rs1 re1 hp t rv h1 => by
    obtain ⟨k, e, h2⟩ := tru_ok' h1
    refine ⟨k, tru_of rs1 rv e, ?_⟩
    cases k with
    | true => exact aft_ok rs1 h2 v rv
    | false => exact ⟨p1, n, S1, rs1, re1, h2⟩
theorem f_not {f : E D} (ha : PE X a (xE (rc X fa) W f)) : PE X (.UnaryOp .Not a pos) (xE (rc X fa) W (eNot f)) :=
  impE (pe_notT ha) fun s H Q ⟨p, n, S, rs, re, h⟩ => by
    have e : eNot f n S = eBnd f (fun d => eBnd (tru d) fun b _ S => .ok (.bl (!b)) S) n S := rbind_assoc _ _ _
    rw [e] at h
    exact xE_of rs re h fun d p1 S1 H1 v rs1 re1 hp t rv h1 => by
      obtain ⟨k, e, h4⟩ := tru_ok' h1
      exact ⟨k, tru_of rs1 rv e, aft_ok rs1 h4 _ (.bl _)⟩
theorem f_ifE {t : E Bool} {c : Expr} {f g : E D} (hc : PT X c (xT (rc X fa) W t)) (ha : PE X a (xE (rc X fa) W f)) (hb : PE X b (xE (rc X fa) W g)) : PE X (.IfExp c a b pos) (xE (rc X fa) W (eIf t f g)) :=
  impE (pe_ifExp hc ha hb) fun s H Q ⟨p, n, S, rs, re, h⟩ => xT_of rs re h fun c p1 S1 H1 rs1 re1 hp t h1 => by
    cases c with
    | true => exact ⟨p1, n, S1, rs1, re1, h1⟩
    | false => exact ⟨p1, n, S1, rs1, re1, h1⟩
theorem isTrue_if {M : Model} {A : Around} {E0 : Value → Shared → Prop} {c x y : Expr} {env : Env} {wh : Sem Value} {Q : Bool → Shared → Prop} {s : Shared} (h : wpAny M A (isTrue c env (eval c env)) (fun b s1 => wpAny M A (if b = true then isTrue x env (eval x env) else isTrue y env (eval y env)) Q E0 s1) E0 s) :
    wpAny M A (isTrue (.IfExp c x y pos) env wh) Q E0 s := by
  rw [PySem.isTrue]
  exact wpAny_bind h
theorem f_ifT {t : E Bool} {c : Expr} {f g : E Bool} (hc : PT X c (xT (rc X fa) W t)) (ha : PT X a (xT (rc X fa) W f)) (hb : PT X b (xT (rc X fa) W g)) : PT X (.IfExp c a b pos) (xT (rc X fa) W (eIf t f g)) := by
  refine ⟨fun pins s σ H Q I ⟨p, n, S, rs, re, h⟩ => isTrue_if (thn (hc.run pins s σ H (fun b H1 => if b = true then xT (rc X fa) W f σ H1 Q else xT (rc X fa) W g σ H1 Q) I ?_) fun k s1 ⟨H1, I1, q1⟩ => ?_)⟩
  · exact xT_of rs re h fun c p1 S1 H1 rs1 re1 hp t h1 => by
      cases c with
      | true => exact ⟨p1, n, S1, rs1, re1, h1⟩
      | false => exact ⟨p1, n, S1, rs1, re1, h1⟩
  · cases k with
    | true => exact ha.run pins s1 σ H1 Q I1 q1
    | false => exact hb.run pins s1 σ H1 Q I1 q1
/-- a test whose value is a truth value -/
def eBl (f : E D) : E Bool := eBnd f fun d _ S => match d with
  | .bl b => .ok b S
  | _ => .bad
theorem bl_in {f : E D} {s : L2.St} {H : Hp} {Q : Bool → Hp → Prop} (h : xT (rc X fa) W (eBl f) s H Q) : xE (rc X fa) W f s H (fun x H' => ∃ k, x = .bl k ∧ Q k H') := by
  obtain ⟨p, n, S, rs, re, h⟩ := h
  exact xE_of rs re h fun d p1 S1 H1 v rs1 re1 hp t rv h1 => by
    cases rv with
    | bl b => exact ⟨b, rfl, aft_ok rs1 h1⟩
    | _ => exact h1.elim
theorem f_cmpT {op : CmpOp} {g : D → D → Sto → Option (D × Sto)} {f1 f2 : E D} (ho : OpR X (compareOp op) (x2 (rc X fa) g)) (ha : PE X a (xE (rc X fa) W f1)) (hb : PE X b (xE (rc X fa) W f2)) (hm : behindInMarks op b = false) : PT X (.Compare a [op] [b] pos) (xT (rc X fa) W (eBl (eOp2 g f1 f2))) :=
  impT (pt_cmpR ho ha hb hm) fun s H Q h => op2_in (bl_in h)
/-- a op b op' c -/
def eChain (g g' : D → D → Sto → Option (D × Sto)) (f1 f2 f3 : E D) : E D := eBnd f1 fun d1 => eBnd f2 fun d2 => eBnd (fun _ S => lft (g d1 d2 S)) fun k => match k with
  | .bl true => eBnd f3 fun d3 _ S => lft (g' d2 d3 S)
  | .bl false => fun _ S => .ok (.bl false) S
  | _ => fun _ _ => .bad
theorem chain_in {g g' : D → D → Sto → Option (D × Sto)} {f1 f2 f3 : E D} {s : L2.St} {H : Hp} {Q : VK} (h : xE (rc X fa) W (eChain g g' f1 f2 f3) s H Q) :
    tChain (x2 (rc X fa) g) (x2 (rc X fa) g') (xE (rc X fa) W f1) (xE (rc X fa) W f2) (xE (rc X fa) W f3) s H Q := by
  obtain ⟨p, n, S, rs, re, h⟩ := h
  refine xE_of rs re h fun d1 p1 S1 H1 x rs1 re1 hp1 t1 rv1 h1 => xE_of rs1 re1 h1 fun d2 p2 S2 H2 y rs2 re2 hp2 t2 rv2 h2 => ?_
  have h2 : Aft (rc X fa) p2 H2 (rbind (lft (g d1 d2 S2)) _) _ _ := h2
  cases e3 : g d1 d2 S2 with
  | none => rw [e3] at h2; exact h2.elim
  | some r =>
    obtain ⟨k, S3⟩ := r
    rw [e3] at h2
    refine ⟨p2, S2, d1, d2, k, S3, rs2, rv1.mono hp2 t2, rv2, e3, fun p3 H3 hp3 t3 rs3 z rz => ?_⟩
    have hr := re2.mono hp3 t3
    have h4 := Aft.imp (Q' := fun d p' S' H' => ∀ v, RV (rc X fa) p' H' d v → Q v H') (W' := fun c dd H' => W c dd s H') h2 (fun _ _ _ _ _ _ _ q => q) fun _ _ _ w => w
    cases k with
    | bl b =>
      cases rz
      refine ⟨b, rfl, ?_⟩
      cases b with
      | false => exact h4 p3 H3 hp3 t3 rs3 _ (.bl false)
      | true =>
        have h5 : Aft (rc X fa) p2 H2 (eBnd f3 (fun d3 _ S => lft (g' d2 d3 S)) n S3) (fun d p' S' H' => ∀ v, RV (rc X fa) p' H' d v → Q v H') (fun c dd H' => W c dd s H') := h4
        have h6 : Aft (rc X fa) p3 H3 (eBnd f3 (fun d3 _ S => lft (g' d2 d3 S)) n S3) (fun d p' S' H' => ∀ v, RV (rc X fa) p' H' d v → Q v H') (fun c dd H' => W c dd s H') := h5.later hp3 t3
        exact xE_of rs3 hr h6 fun d3 p4 S4 H4 w rs4 re4 hp4 t4 rv4 h7 => by
          obtain ⟨d5, S5, e5, h8⟩ := aft_lft h7
          exact ⟨p4, S4, d2, d3, d5, S5, rs4, (rv2.mono hp3 t3).mono hp4 t4, rv4, e5, h8⟩
    | _ => exact h4.elim
theorem f_chain {op op' : CmpOp} {c : Expr} {g g' : D → D → Sto → Option (D × Sto)} {f1 f2 f3 : E D} (ho : OpR X (compareOp op) (x2 (rc X fa) g)) (ho' : OpR X (compareOp op') (x2 (rc X fa) g')) (ha : PE X a (xE (rc X fa) W f1)) (hb : PE X b (xE (rc X fa) W f2)) (hc : PE X c (xE (rc X fa) W f3))
    (hm : lastMarks [op, op'] [b, c] = false) : PE X (.Compare a [op, op'] [b, c] pos) (xE (rc X fa) W (eChain g g' f1 f2 f3)) := impE (pe_chain ho ho' ha hb hc hm) fun s H Q h => chain_in h
theorem f_chainT {op op' : CmpOp} {c : Expr} {g g' : D → D → Sto → Option (D × Sto)} {f1 f2 f3 : E D} (ho : OpR X (compareOp op) (x2 (rc X fa) g)) (ho' : OpR X (compareOp op') (x2 (rc X fa) g')) (ha : PE X a (xE (rc X fa) W f1)) (hb : PE X b (xE (rc X fa) W f2)) (hc : PE X c (xE (rc X fa) W f3))
    (hm : lastMarks [op, op'] [b, c] = false) : PT X (.Compare a [op, op'] [b, c] pos) (xT (rc X fa) W (eBl (eChain g g' f1 f2 f3))) := impT (pt_chain ho ho' ha hb hc hm) fun s H Q h => chain_in (bl_in h)
end
end Jm

set_option Elab.async false
set_option linter.all false
set_option maxRecDepth 100000
set_option maxHeartbeats 2000000
/-! Jm, part C: primitives of values: operators. -/
namespace Jm
open PySem PySem.Spec PyProof.Rows L2
section
variable {X : Cx} {fa : Gl0}
theorem RS.list {R : RC} {p : List Addr} {S : Sto} {H : Hp} (rs : RS R p S H) {l : Nat} {a : Addr} {ds : List D} (e : p[l]? = some a) (h : lstAt S l = some ds) : ∃ vs, H a = some (.lst vs) ∧ RVs R p H ds vs := by
  unfold lstAt at h
  split at h
  · rename_i q
    cases h
    exact rs.at_ l _ a q e
  · cases h
theorem lstAt_of {S : Sto} {l : Nat} {ds : List D} (h : lstAt S l = some ds) : S[l]? = some (.lst ds) := by
  unfold lstAt at h
  split at h
  · rename_i q
    cases h
    exact q
  · cases h
/-- a new list -/
theorem new_list {R : RC} {p : List Addr} {S S' : Sto} {H : Hp} {ds : List D} {vs : List V} {d : D} {Q : VK} (rs : RS R p S H) (rv : RVs R p H ds vs) (e : mkLst ds S = some (d, S')) (q : ∀ p' H', p <+: p' → Tm p H p' H' → RS R p' S' H' → ∀ v, RV R p' H' d v → Q v H') :
    vs.length ≤ sizeLine ∧ ∀ a, H a = none → Q (.ref a) (upd H a (.lst vs)) := by
  unfold mkLst at e
  split at e
  · rename_i hl
    cases e
    refine ⟨by rw [← rv.length, line_eq]; exact hl, fun a ha => ?_⟩
    have T := Tm.all (p := p) (o := .lst vs) ha
    refine q (p ++ [a]) _ (pre_snoc _ _) T (rs.new ha ⟨vs, upd_same, rv.mono (pre_snoc _ _) T⟩) _ (.loc ?_)
    rw [← rs.len]; simp
  · cases e
theorem new_tup {R : RC} {p : List Addr} {S S' : Sto} {H : Hp} {ds : List D} {vs : List V} {d : D} {Q : VK} (rs : RS R p S H) (rv : RVs R p H ds vs) (e : mkTup ds S = some (d, S')) (q : ∀ p' H', p <+: p' → Tm p H p' H' → RS R p' S' H' → ∀ v, RV R p' H' d v → Q v H') :
    vs.length ≤ sizeLine ∧ ∀ a, H a = none → Q (.ref a) (upd H a (.tup vs)) := by
  unfold mkTup at e
  split at e
  · rename_i hl
    cases e
    refine ⟨by rw [← rv.length, line_eq]; exact hl, fun a ha => ?_⟩
    have T := Tm.new (p := p) (o := .tup vs) ha
    exact q p _ (List.prefix_refl _) T (rs.newT ha) _ (.tup (.inl ⟨RS.nin (by assumption) (by assumption), .inl upd_same⟩) (rv.mono (List.prefix_refl _) T))
  · cases e
theorem at_once {R : RC} {p : List Addr} {S : Sto} {H : Hp} {d : D} {v : V} {Q : VK} (rs : RS R p S H) (q : ∀ p' H', p <+: p' → Tm p H p' H' → RS R p' S H' → ∀ v, RV R p' H' d v → Q v H') (rv : RV R p H d v) : Q v H := q p H (List.prefix_refl _) Tm.refl rs v rv

/-! ### + -/
def addD (x y : D) (S : Sto) : Option (D × Sto) := match x, y with
  | .int a, .int b => some (.int (a + b), S)
  | .int a, .bl b => some (.int (a + b2i b), S)
  | .str a, .str b => if a.length + b.length ≤ LINE then some (.str (a ++ b), S) else none
  | .tup a, .tup b => mkTup (a ++ b) S
  | .loc a, .loc b => match lstAt S a, lstAt S b with
    | some xs, some ys => mkLst (xs ++ ys) S
    | _, _ => none
  | _, _ => none
theorem op_addD : OpR X (binaryOp .Add) (x2 (rc X fa) addD) := by
  intro pins s σ H x y v u Q I rx ry ⟨p, S, d1, d2, d, S', rs, r1, r2, e, q⟩
  cases r1 with
  | int i =>
    cases r2 with
    | int j => cases e; exact op_add pins s σ H _ _ v u Q I rx ry ⟨i, j, rfl, rfl, at_once rs q (.int _)⟩
    | bl b => cases e; exact op_add_ib pins s σ H _ _ v u Q I rx ry ⟨i, b, rfl, rfl, at_once rs q (.int _)⟩
    | _ => exact nomatch e
  | str a =>
    cases r2 with
    | str b =>
      have e' : (if a.length + b.length ≤ LINE then some (D.str (a ++ b), S) else none) = some (d, S') := e
      split at e'
      · rename_i hl
        cases e'
        exact op_add_str pins s σ H _ _ v u Q I rx ry ⟨a, b, rfl, rfl, by rw [line_eq]; exact hl, at_once rs q (.str _)⟩
      · cases e'
    | _ => exact nomatch e
  | @tup a xs ds1 s1 v1 =>
    cases r2 with
    | @tup b ys ds2 s2 v2 =>
      have e' : mkTup (ds1 ++ ds2) S = some (d, S') := e
      obtain ⟨hz, hq⟩ := new_tup rs (v1.append v2) e' q
      rw [List.length_append] at hz
      by_cases hx : xs = []
      · subst hx
        cases rx
        cases ry
        obtain ⟨its, w1, p1, _⟩ := I.tuple s1.sq
        obtain ⟨its2, w2, p2, _⟩ := I.tuple s2.sq
        cases w1
        cases v1
        obtain ⟨⟨cls, dd, data, sl⟩, ho, hc, n, hd⟩ := id p1
        obtain ⟨⟨cls2, dd2, data2, sl2⟩, ho2, hc2, n2, hd2⟩ := id p2
        simp only at hc hd hc2 hd2
        subst hc hd hc2 hd2
        have e2 : (d, S') = (D.tup ds2, S) := by
          unfold mkTup at e'
          split at e'
          · cases e'; rfl
          · cases e'
        cases e2
        exact concat_meets ⟨_, ho, rfl⟩ ⟨_, ho2, rfl⟩ noFill_tuple_add seq_tuple_add PySem.F.slot_tuple_add PySem.F.entry_tuple_add (PySem.F.args_tuple_add_2 _ _)
          (tuple_addW0 a b _ _ n n2 dd dd2 sl sl2 (by simp)) ⟨ho, ho2, ⟨.ref b, H, I.tok _, rfl, at_once rs q (.tup s2 v2)⟩⟩
      · refine op_catT pins s σ H _ _ v u Q I rx ry ⟨a, b, xs, ys, rfl, rfl, s1.sq, s2.sq, hx, hz, fun hy => ?_, fun _ a ha => hq a ha⟩
        subst hy
        cases v2
        rw [List.append_nil] at e'
        have e2 : (d, S') = (D.tup ds1, S) := by
          unfold mkTup at e'
          split at e'
          · cases e'; rfl
          · cases e'
        cases e2
        exact at_once rs q (.tup s1 v1)
    | _ => exact nomatch e
  | @loc l1 a1 h1 =>
    cases r2 with
    | @loc l2 a2 h2 =>
      have e' : (match lstAt S l1, lstAt S l2 with | some xs, some ys => mkLst (xs ++ ys) S | _, _ => none) = some (d, S') := e
      split at e'
      · rename_i xs ys q1 q2
        obtain ⟨vs1, g1, w1⟩ := rs.list h1 q1
        obtain ⟨vs2, g2, w2⟩ := rs.list h2 q2
        obtain ⟨hz, hq⟩ := new_list rs (w1.append w2) e' q
        rw [List.length_append] at hz
        exact op_cat pins s σ H _ _ v u Q I rx ry ⟨a1, a2, vs1, vs2, rfl, rfl, g1, g2, hz, hq⟩
      · cases e'
    | _ => exact nomatch e
  | _ => exact nomatch e

/-! ### the other operators of ints -/
def subD (x y : D) (S : Sto) : Option (D × Sto) := match x, y with
  | .int a, .int b => some (.int (a - b), S)
  | _, _ => none
theorem op_subD : OpR X (binaryOp .Sub) (x2 (rc X fa) subD) := by
  intro pins s σ H x y v u Q I rx ry ⟨p, S, d1, d2, d, S', rs, r1, r2, e, q⟩
  cases r1 with
  | int i =>
    cases r2 with
    | int j => cases e; exact op_sub pins s σ H _ _ v u Q I rx ry ⟨i, j, rfl, rfl, at_once rs q (.int _)⟩
    | _ => exact nomatch e
  | _ => exact nomatch e
/-- a product that is not too long -/
def mulOk (a b : Int) : Bool := decide (a.natAbs < 2 ^ 64) || decide (b.natAbs < 2 ^ 64) || decide (a.natAbs.log2 + b.natAbs.log2 < 1000000)
def mulD (x y : D) (S : Sto) : Option (D × Sto) := match x, y with
  | .int a, .int b => if mulOk a b = true then some (.int (a * b), S) else none
  | .loc a, .int k => match lstAt S a with
    | some xs => if -(2 ^ 63) ≤ k ∧ k < 2 ^ 63 ∧ xs.length * k.toNat ≤ LINE then mkLst (List.replicate k.toNat xs).flatten S else none
    | none => none
  | _, _ => none
theorem RVs.rep {R : RC} {p : List Addr} {H : Hp} {ds : List D} {vs : List V} (r : RVs R p H ds vs) : ∀ k : Nat, RVs R p H (List.replicate k ds).flatten (List.replicate k vs).flatten
  | 0 => .nil
  | k + 1 => by
    rw [List.replicate_succ, List.replicate_succ, List.flatten_cons, List.flatten_cons]
    exact r.append (r.rep k)
theorem op_mulD : OpR X (binaryOp .Mult) (x2 (rc X fa) mulD) := by
  intro pins s σ H x y v u Q I rx ry ⟨p, S, d1, d2, d, S', rs, r1, r2, e, q⟩
  cases r1 with
  | int i =>
    cases r2 with
    | int j =>
      have e' : (if mulOk i j = true then some (D.int (i * j), S) else none) = some (d, S') := e
      split at e'
      · rename_i h
        cases e'
        unfold mulOk at h
        simp only [Bool.or_eq_true, decide_eq_true_eq] at h
        rcases h with (h | h) | h
        · exact op_mul pins s σ H _ _ v u Q I rx ry ⟨i, j, rfl, rfl, .inl (by omega), at_once rs q (.int _)⟩
        · exact op_mul pins s σ H _ _ v u Q I rx ry ⟨i, j, rfl, rfl, .inr (by omega), at_once rs q (.int _)⟩
        · exact op_mulW pins s σ H _ _ v u Q I rx ry ⟨i, j, rfl, rfl, h, at_once rs q (.int _)⟩
      · cases e'
    | _ => exact nomatch e
  | @loc l a h =>
    cases r2 with
    | int k =>
      have e' : (match lstAt S l with | some xs => if -(2 ^ 63) ≤ k ∧ k < 2 ^ 63 ∧ xs.length * k.toNat ≤ LINE then mkLst (List.replicate k.toNat xs).flatten S else none | none => none) = some (d, S') := e
      split at e'
      · rename_i xs q1
        split at e'
        · rename_i hk
          obtain ⟨vs1, g1, w1⟩ := rs.list h q1
          obtain ⟨hz, hq⟩ := new_list rs (w1.rep k.toNat) e' q
          exact op_rep pins s σ H _ _ v u Q I rx ry ⟨a, k, vs1, rfl, rfl, g1, hk.1, hk.2.1, by rw [← w1.length, line_eq]; exact hk.2.2, hq⟩
        · cases e'
      · cases e'
    | _ => exact nomatch e
  | _ => exact nomatch e
/-- // and %: by a divisor above 0 -/
def divOk (b : Int) : Bool := decide (0 < b) && decide (b.natAbs < 2 ^ 8000)
def fdivD (x y : D) (S : Sto) : Option (D × Sto) := match x, y with
  | .int a, .int b => if divOk b = true then some (.int (a / b), S) else none
  | _, _ => none
theorem op_fdivD : OpR X (binaryOp .FloorDiv) (x2 (rc X fa) fdivD) := by
  intro pins s σ H x y v u Q I rx ry ⟨p, S, d1, d2, d, S', rs, r1, r2, e, q⟩
  cases r1 with
  | int i =>
    cases r2 with
    | int j =>
      have e' : (if divOk j = true then some (D.int (i / j), S) else none) = some (d, S') := e
      split at e'
      · rename_i h
        cases e'
        unfold divOk at h
        simp only [Bool.and_eq_true, decide_eq_true_eq] at h
        exact op_fdivW pins s σ H _ _ v u Q I rx ry ⟨i, j, rfl, rfl, wide_div h.1 h.2 (by decide) (by decide), at_once rs q (.int _)⟩
      · cases e'
    | _ => exact nomatch e
  | _ => exact nomatch e
def modD (x y : D) (S : Sto) : Option (D × Sto) := match x, y with
  | .int a, .int b => if 0 < b then some (.int (a % b), S) else none
  | _, _ => none
theorem op_modD : OpR X (binaryOp .Mod) (x2 (rc X fa) modD) := by
  intro pins s σ H x y v u Q I rx ry ⟨p, S, d1, d2, d, S', rs, r1, r2, e, q⟩
  cases r1 with
  | int i =>
    cases r2 with
    | int j =>
      have e' : (if 0 < j then some (D.int (i % j), S) else none) = some (d, S') := e
      split at e'
      · rename_i h
        cases e'
        exact op_mod pins s σ H _ _ v u Q I rx ry ⟨i, j, rfl, rfl, h, at_once rs q (.int _)⟩
      · cases e'
    | _ => exact nomatch e
  | _ => exact nomatch e
def powD (x y : D) (S : Sto) : Option (D × Sto) := match x, y with
  | .int a, .int b => if 0 ≤ b ∧ b ≤ 1000000 ∧ a.natAbs < 2 ^ 64 then some (.int (a ^ b.toNat), S) else none
  | _, _ => none
theorem op_powD : OpR X (binaryOp .Pow) (x2 (rc X fa) powD) := by
  intro pins s σ H x y v u Q I rx ry ⟨p, S, d1, d2, d, S', rs, r1, r2, e, q⟩
  cases r1 with
  | int i =>
    cases r2 with
    | int j =>
      have e' : (if 0 ≤ j ∧ j ≤ 1000000 ∧ i.natAbs < 2 ^ 64 then some (D.int (i ^ j.toNat), S) else none) = some (d, S') := e
      split at e'
      · rename_i h
        cases e'
        exact op_pow pins s σ H _ _ v u Q I rx ry ⟨i, j, rfl, rfl, h, at_once rs q (.int _)⟩
      · cases e'
    | _ => exact nomatch e
  | _ => exact nomatch e
def xorD (x y : D) (S : Sto) : Option (D × Sto) := match x, y with
  | .int a, .int b => some (.int (Builtin.bitXor a b), S)
  | _, _ => none
theorem op_xorD : OpR X (binaryOp .BitXor) (x2 (rc X fa) xorD) := by
  intro pins s σ H x y v u Q I rx ry ⟨p, S, d1, d2, d, S', rs, r1, r2, e, q⟩
  cases r1 with
  | int i =>
    cases r2 with
    | int j => cases e; exact op_xor pins s σ H _ _ v u Q I rx ry ⟨i, j, rfl, rfl, at_once rs q (.int _)⟩
    | _ => exact nomatch e
  | _ => exact nomatch e
def negD (x : D) (S : Sto) : Option (D × Sto) := match x with
  | .int a => some (.int (-a), S)
  | _ => none
theorem un_negD : UnR X (unaryOp .USub) (x1 (rc X fa) negD) := by
  intro pins s σ H x v Q I rx ⟨p, S, d1, d, S', rs, r1, e, q⟩
  cases r1 with
  | int i => cases e; exact un_neg pins s σ H _ v Q I rx ⟨i, rfl, at_once rs q (.int _)⟩
  | _ => exact nomatch e
/-- which operators there are -/
def binD : Operator → Option (D → D → Sto → Option (D × Sto))
  | .Add => some addD
  | .Sub => some subD
  | .Mult => some mulD
  | .FloorDiv => some fdivD
  | .Mod => some modD
  | .Pow => some powD
  | .BitXor => some xorD
  | _ => none
theorem op_binD {op : Operator} {g : D → D → Sto → Option (D × Sto)} (h : binD op = some g) : OpR X (binaryOp op) (x2 (rc X fa) g) := by
  cases op <;> cases h
  · exact op_addD
  · exact op_subD
  · exact op_mulD
  · exact op_modD
  · exact op_powD
  · exact op_xorD
  · exact op_fdivD
end
end Jm

set_option Elab.async false
set_option linter.all false
set_option maxRecDepth 100000
set_option maxHeartbeats 2000000
/-! Jm, part D: comparisons. -/
namespace Jm
open PySem PySem.Spec PyProof.Rows L2

/-! ### data as trees of the library's own kind -/
def allSome {A : Type} : List (Option A) → Option (List A)
  | [] => some []
  | none :: _ => none
  | some a :: r => match allSome r with
    | some l => some (a :: l)
    | none => none
def pyV (S : Sto) : Nat → D → Option PyData
  | 0, _ => none
  | n + 1, d => match d with
    | .non => some .none
    | .bl b => some (.bool b)
    | .int i => some (.int i)
    | .str x => if PyData.strOk x = true then some (.str x) else none
    | .tup xs => (allSome (xs.map (pyV S n))).map .tuple
    | .loc l => match lstAt S l with
      | some xs => (allSome (xs.map (pyV S n))).map .list
      | none => none
    | _ => none
theorem allSome_cons {A : Type} {o : Option A} {r : List (Option A)} {l : List A} (h : allSome (o :: r) = some l) : ∃ a k, o = some a ∧ allSome r = some k ∧ l = a :: k := by
  cases o with
  | none => cases h
  | some a =>
    have h' : (match allSome r with | some l => some (a :: l) | none => none) = some l := h
    cases e : allSome r with
    | none => rw [e] at h'; cases h'
    | some k => rw [e] at h'; cases h'; exact ⟨a, k, rfl, rfl, rfl⟩
structure DOk (K : PySem.W.Frag) (H : Hp) (n : Nat) (v : V) (x : PyData) : Prop where
  dp : Dp K H v x
  lay : x.canLay0 = true
  dep : x.depth ≤ n
theorem all_ok {R : RC} {p : List Addr} {S : Sto} {H : Hp} {n : Nat} (ih : ∀ (d : D) (v : V) (x : PyData), RV R p H d v → pyV S n d = some x → DOk R.K H n v x) : ∀ (ds : List D) (vs : List V) (xs : List PyData), RVs R p H ds vs → allSome (ds.map (pyV S n)) = some xs →
    DpAll R.K H vs xs ∧ PyData.canLayAll0 xs = true ∧ PyData.depthAll xs ≤ n
  | [], _, xs, .nil, h => by cases h; exact ⟨.nil, rfl, Nat.zero_le _⟩
  | d :: ds, _, xs, .cons r rs, h => by
    obtain ⟨a, k, e1, e2, e3⟩ := allSome_cons h
    subst e3
    obtain ⟨h1, h2, h3⟩ := ih d _ a r e1
    obtain ⟨h4, h5, h6⟩ := all_ok ih ds _ k rs e2
    refine ⟨.cons h1 h4, ?_, ?_⟩
    · show (a.canLay0 && PyData.canLayAll0 k) = true
      rw [h2, h5]; rfl
    · show max a.depth (PyData.depthAll k) ≤ n
      omega
theorem pyV_ok {R : RC} {p : List Addr} {S : Sto} {H : Hp} (rs : RS R p S H) : ∀ (n : Nat) (d : D) (v : V) (x : PyData), RV R p H d v → pyV S n d = some x → DOk R.K H n v x
  | 0, d, v, x, r, h => by cases h
  | n + 1, d, v, x, r, h => by
    cases r with
    | non => cases h; exact ⟨.non, rfl, Nat.zero_le _⟩
    | bl b => cases h; exact ⟨.bl b, rfl, Nat.zero_le _⟩
    | int i => cases h; exact ⟨.int i, rfl, Nat.zero_le _⟩
    | str y =>
      have h' : (if PyData.strOk y = true then some (PyData.str y) else none) = some x := h
      split at h'
      · rename_i hy
        cases h'
        exact ⟨.str y, hy, Nat.zero_le _⟩
      · cases h'
    | @tup a xs ds s rr =>
      have h' : (allSome (ds.map (pyV S n))).map PyData.tuple = some x := h
      cases e : allSome (ds.map (pyV S n)) with
      | none => rw [e] at h'; cases h'
      | some l =>
        rw [e] at h'
        cases h'
        obtain ⟨h1, h2, h3⟩ := all_ok (pyV_ok rs n) ds xs l rr e
        exact ⟨.tup s.sq h1, h2, Nat.succ_le_succ h3⟩
    | ty n => cases h
    | fn i => cases h
    | rng n e => cases h
    | scr s r => cases h
    | exc _ _ _ _ => cases h
    | exc0 _ => cases h
    | @loc l a e =>
      have h' : (match lstAt S l with | some xs => (allSome (xs.map (pyV S n))).map PyData.list | none => none) = some x := h
      split at h'
      · rename_i ds q
        obtain ⟨vs, g1, rr⟩ := rs.list e q
        cases e : allSome (ds.map (pyV S n)) with
        | none => rw [e] at h'; cases h'
        | some l =>
          rw [e] at h'
          cases h'
          obtain ⟨h1, h2, h3⟩ := all_ok (pyV_ok rs n) ds vs l rr e
          exact ⟨.lst (.of g1) h1, h2, Nat.succ_le_succ h3⟩
      · cases h'
theorem DOk.sh {K : PySem.W.Frag} {H : Hp} {v : V} {x : PyData} (h : DOk K H 64 v x) : SeqAt.shaped x = true := by
  unfold SeqAt.shaped
  rw [h.lay, decide_eq_true h.dep]; rfl

/-! ### ==, != -/
def eqD (x y : D) (S : Sto) : Option (D × Sto) := match pyV S 64 x, pyV S 64 y with
  | some a, some b => some (.bl (PyData.eqv a b), S)
  | _, _ => none
def neD (x y : D) (S : Sto) : Option (D × Sto) := match pyV S 64 x, pyV S 64 y with
  | some a, some b => some (.bl (!PyData.eqv a b), S)
  | _, _ => none
section
variable {X : Cx} {fa : Gl0}
theorem op_eqJ (hu : X.A.units + 65 < cLine) : OpR X (compareOp .Eq) (x2 (rc X fa) eqD) := by
  intro pins s σ H x y v u Q I rx ry ⟨p, S, d1, d2, d, S', rs, r1, r2, e, q⟩
  unfold eqD at e
  split at e
  · rename_i a b ea eb
    cases e
    have h1 := pyV_ok rs 64 _ _ _ r1 ea
    have h2 := pyV_ok rs 64 _ _ _ r2 eb
    exact op_eqD (by omega) pins s σ H _ _ v u Q I rx ry ⟨a, b, h1.dp, h2.dp, h1.sh, h2.sh, at_once rs q (.bl _)⟩
  · cases e
theorem op_neJ (hu : X.A.units + 65 < cLine) : OpR X (compareOp .NotEq) (x2 (rc X fa) neD) := by
  intro pins s σ H x y v u Q I rx ry ⟨p, S, d1, d2, d, S', rs, r1, r2, e, q⟩
  unfold neD at e
  split at e
  · rename_i a b ea eb
    cases e
    have h1 := pyV_ok rs 64 _ _ _ r1 ea
    have h2 := pyV_ok rs 64 _ _ _ r2 eb
    exact op_neD (by omega) pins s σ H _ _ v u Q I rx ry ⟨a, b, h1.dp, h2.dp, h1.sh, h2.sh, at_once rs q (.bl _)⟩
  · cases e

/-! ### <, <=, >, >= -/
def ltD (x y : D) (S : Sto) : Option (D × Sto) := match x, y with
  | .int a, .int b => some (.bl (decide (a < b)), S)
  | .str a, .str b => some (.bl (decide (a.cps.toList < b.cps.toList)), S)
  | _, _ => none
def leD (x y : D) (S : Sto) : Option (D × Sto) := match x, y with
  | .int a, .int b => some (.bl (decide (a ≤ b)), S)
  | _, _ => none
def gtD (x y : D) (S : Sto) : Option (D × Sto) := match x, y with
  | .int a, .int b => some (.bl (decide (b < a)), S)
  | _, _ => none
def geD (x y : D) (S : Sto) : Option (D × Sto) := match x, y with
  | .int a, .int b => some (.bl (decide (b ≤ a)), S)
  | _, _ => none
theorem op_ltJ : OpR X (compareOp .Lt) (x2 (rc X fa) ltD) := by
  intro pins s σ H x y v u Q I rx ry ⟨p, S, d1, d2, d, S', rs, r1, r2, e, q⟩
  cases r1 with
  | int i =>
    cases r2 with
    | int j => cases e; exact op_lt pins s σ H _ _ v u Q I rx ry ⟨i, j, rfl, rfl, at_once rs q (.bl _)⟩
    | _ => exact nomatch e
  | str i =>
    cases r2 with
    | str j => cases e; exact op_lt_str pins s σ H _ _ v u Q I rx ry ⟨i, j, rfl, rfl, at_once rs q (.bl _)⟩
    | _ => exact nomatch e
  | _ => exact nomatch e
theorem op_leJ : OpR X (compareOp .LtE) (x2 (rc X fa) leD) := by
  intro pins s σ H x y v u Q I rx ry ⟨p, S, d1, d2, d, S', rs, r1, r2, e, q⟩
  cases r1 with
  | int i =>
    cases r2 with
    | int j => cases e; exact op_le pins s σ H _ _ v u Q I rx ry ⟨i, j, rfl, rfl, at_once rs q (.bl _)⟩
    | _ => exact nomatch e
  | _ => exact nomatch e
theorem op_gtJ : OpR X (compareOp .Gt) (x2 (rc X fa) gtD) := by
  intro pins s σ H x y v u Q I rx ry ⟨p, S, d1, d2, d, S', rs, r1, r2, e, q⟩
  cases r1 with
  | int i =>
    cases r2 with
    | int j => cases e; exact op_gt pins s σ H _ _ v u Q I rx ry ⟨i, j, rfl, rfl, at_once rs q (.bl _)⟩
    | _ => exact nomatch e
  | _ => exact nomatch e
theorem op_geJ : OpR X (compareOp .GtE) (x2 (rc X fa) geD) := by
  intro pins s σ H x y v u Q I rx ry ⟨p, S, d1, d2, d, S', rs, r1, r2, e, q⟩
  cases r1 with
  | int i =>
    cases r2 with
    | int j => cases e; exact op_ge pins s σ H _ _ v u Q I rx ry ⟨i, j, rfl, rfl, at_once rs q (.bl _)⟩
    | _ => exact nomatch e
  | _ => exact nomatch e

/-! ### is, is not: None, True, False -/
def isD (x y : D) (S : Sto) : Option (D × Sto) := match y with
  | .non => match x with
    | .non => some (.bl true, S)
    | _ => some (.bl false, S)
  | .bl b => match x with
    | .bl a => some (.bl (a == b), S)
    | .non => some (.bl false, S)
    | _ => none
  | _ => none
def isntD (x y : D) (S : Sto) : Option (D × Sto) := match isD x y S with
  | some (.bl b, S) => some (.bl (!b), S)
  | _ => none
theorem is_none_bool {M : Model} {A : Around} {E0 : Value → Shared → Prop} {c : Bool} {Q : Value → Shared → Prop} {s : Shared} (h : Q (.bool false) s) : wpAny M A (compareOp .Is .none (.bool c)) Q E0 s :=
  wpAny_pure (a := Value.bool (Value.none == Value.bool c)) (by cases c <;> exact h)
theorem isnot_none_bool {M : Model} {A : Around} {E0 : Value → Shared → Prop} {c : Bool} {Q : Value → Shared → Prop} {s : Shared} (h : Q (.bool true) s) : wpAny M A (compareOp .IsNot .none (.bool c)) Q E0 s :=
  wpAny_pure (a := Value.bool (!(Value.none == Value.bool c))) (by cases c <;> exact h)
theorem isD_cases {x y d : D} {S S' : Sto} (e : isD x y S = some (d, S')) : S' = S ∧ ((y = .non ∧ ((x = .non ∧ d = .bl true) ∨ (x ≠ .non ∧ d = .bl false))) ∨ ∃ b, y = .bl b ∧ ((∃ a, x = .bl a ∧ d = .bl (a == b)) ∨ (x = .non ∧ d = .bl false))) := by
  unfold isD at e
  split at e
  · split at e
    · cases e; exact ⟨rfl, .inl ⟨rfl, .inl ⟨rfl, rfl⟩⟩⟩
    · rename_i h; cases e; exact ⟨rfl, .inl ⟨rfl, .inr ⟨h, rfl⟩⟩⟩
  · split at e
    · cases e; exact ⟨rfl, .inr ⟨_, rfl, .inl ⟨_, rfl, rfl⟩⟩⟩
    · cases e; exact ⟨rfl, .inr ⟨_, rfl, .inr ⟨rfl, rfl⟩⟩⟩
    · cases e
  · cases e
theorem RV.non_iff {R : RC} {p : List Addr} {H : Hp} {d : D} {v : V} (r : RV R p H d v) (n : d ≠ .non) : v ≠ .non := by
  intro z; subst z; cases r; exact n rfl
theorem op_isJ : OpR X (compareOp .Is) (x2 (rc X fa) isD) := by
  intro pins s σ H x y v u Q I rx ry ⟨p, S, d1, d2, d, S', rs, r1, r2, e, q⟩
  obtain ⟨rfl, ⟨rfl, ⟨rfl, rfl⟩ | ⟨hn, rfl⟩⟩ | ⟨b, rfl, ⟨a, rfl, rfl⟩ | ⟨rfl, rfl⟩⟩⟩ := isD_cases e
  · cases r1; cases r2
    exact op_isN pins s σ H _ _ v u Q I rx ry ⟨rfl, at_once rs q (.bl _)⟩
  · cases r2
    refine op_isN pins s σ H _ _ v u Q I rx ry ⟨rfl, ?_⟩
    rw [decide_eq_false (r1.non_iff hn)]
    exact at_once rs q (.bl _)
  · cases r1; cases r2; cases rx; cases ry
    exact is_bool ⟨.bl _, H, I, rfl, at_once rs q (.bl _)⟩
  · cases r1; cases r2; cases rx; cases ry
    exact is_none_bool ⟨.bl _, H, I, rfl, at_once rs q (.bl _)⟩
theorem op_isntJ : OpR X (compareOp .IsNot) (x2 (rc X fa) isntD) := by
  intro pins s σ H x y v u Q I rx ry ⟨p, S, d1, d2, d, S', rs, r1, r2, e, q⟩
  unfold isntD at e
  split at e
  · rename_i b S2 e1
    cases e
    obtain ⟨rfl, ⟨rfl, ⟨rfl, h⟩ | ⟨hn, h⟩⟩ | ⟨b', rfl, ⟨a, rfl, h⟩ | ⟨rfl, h⟩⟩⟩ := isD_cases e1
    · cases h
      cases r1; cases r2
      exact op_notN pins s σ H _ _ v u Q I rx ry ⟨rfl, at_once rs q (.bl _)⟩
    · cases h
      cases r2
      refine op_notN pins s σ H _ _ v u Q I rx ry ⟨rfl, ?_⟩
      rw [decide_eq_false (r1.non_iff hn)]
      exact at_once rs q (.bl _)
    · cases h
      cases r1; cases r2; cases rx; cases ry
      exact isnot_bool ⟨.bl _, H, I, rfl, at_once rs q (.bl _)⟩
    · cases h
      cases r1; cases r2; cases rx; cases ry
      exact isnot_none_bool ⟨.bl _, H, I, rfl, at_once rs q (.bl _)⟩
  · cases e

/-! ### in, not in -/
def keyD : D → Option Key
  | .int i => some (.inl i)
  | .str x => some (.inr x)
  | _ => none
def kvGet (kvs : List (Key × D)) (k : Key) : Option D := (kvs.find? fun kv => decide (kv.1 = k)).map (·.2)
def memK (y : D) (o : Option Key) (S : Sto) : Option Bool := match o with
  | none => none
  | some k => match y with
    | .loc l => match dctAt S l with
      | some kvs => some (kvGet kvs k).isSome
      | none => none
    | _ => none
theorem memK_ok {y : D} {o : Option Key} {S : Sto} {b : Bool} (h : memK y o S = some b) : ∃ k l kvs, o = some k ∧ y = .loc l ∧ dctAt S l = some kvs ∧ b = (kvGet kvs k).isSome := by
  cases o with
  | none => cases h
  | some k =>
    cases y with
    | loc l =>
      have h' : (match dctAt S l with | some kvs => some (kvGet kvs k).isSome | none => none) = some b := h
      cases e : dctAt S l with
      | none => rw [e] at h'; cases h'
      | some kvs => rw [e] at h'; cases h'; exact ⟨k, l, kvs, rfl, rfl, e, rfl⟩
    | _ => cases h
def memD (x y : D) (S : Sto) : Option Bool := match y with
  | .str b => match x with
    | .str a => some (!(Builtin.Str.occurrences b a 0 b.length 1).isEmpty)
    | _ => none
  | _ => match pyV S 64 x, pyV S 64 y with
    | some a, some (.tuple bs) => some (bs.any fun z => PyData.eqv z a)
    | some a, some (.list bs) => some (bs.any fun z => PyData.eqv z a)
    | _, _ => memK y (keyD x) S
def inD (x y : D) (S : Sto) : Option (D × Sto) := match memD x y S with
  | some b => some (.bl b, S)
  | none => none
def notInD (x y : D) (S : Sto) : Option (D × Sto) := match memD x y S with
  | some b => some (.bl (!b), S)
  | none => none
theorem RS.dict {R : RC} {p : List Addr} {S : Sto} {H : Hp} (rs : RS R p S H) {l : Nat} {a : Addr} {ds : List (Key × D)} (e : p[l]? = some a) (h : dctAt S l = some ds) :
    ∃ us : List (Key × V), H a = some (.dK us) ∧ Paired (fun (x : Key × D) (y : Key × V) => x.1 = y.1 ∧ RV R p H x.2 y.2) ds us := by
  unfold dctAt at h
  split at h
  · rename_i q
    cases h
    exact rs.at_ l _ a q e
  · cases h
theorem kv_get {R : RC} {p : List Addr} {H : Hp} {k : Key} : ∀ {ds : List (Key × D)} {us : List (Key × V)}, Paired (fun (x : Key × D) (y : Key × V) => x.1 = y.1 ∧ RV R p H x.2 y.2) ds us →
    (kvGet ds k = none ∧ valV us k = none) ∨ ∃ d v, kvGet ds k = some d ∧ valV us k = some v ∧ RV R p H d v
  | _, _, .nil => .inl ⟨rfl, rfl⟩
  | x :: xr, y :: yr, .cons h t => by
    obtain ⟨h1, h2⟩ := h
    by_cases e : y.1 = k
    · exact .inr ⟨x.2, y.2, by simp [kvGet, List.find?_cons, h1, e], by simp [valV, List.find?_cons, e], h2⟩
    · have e1 : kvGet (x :: xr) k = kvGet xr k := by simp [kvGet, List.find?_cons, h1, e]
      have e2 : valV (y :: yr) k = valV yr k := valV_neg e
      rw [e1, e2]
      exact kv_get t
theorem key_of {R : RC} {p : List Addr} {H : Hp} {d : D} {v : V} {k : Key} (r : RV R p H d v) (e : keyD d = some k) : v = kV k := by
  cases r with
  | int i => cases e; rfl
  | str x => cases e; rfl
  | _ => exact nomatch e
theorem mem_ok {p : List Addr} {S : Sto} {H : Hp} {d1 d2 : D} {x y : V} {b : Bool} (rs : RS (rc X fa) p S H) (r1 : RV (rc X fa) p H d1 x) (r2 : RV (rc X fa) p H d2 y) (e : memD d1 d2 S = some b) :
    (∃ i j, x = .str i ∧ y = .str j ∧ b = !(Builtin.Str.occurrences j i 0 j.length 1).isEmpty) ∨
    (∃ d ds, Dp X.K H x d ∧ SeqAt.shaped d = true ∧ ((Dp X.K H y (.tuple ds) ∧ SeqAt.shaped (.tuple ds) = true) ∨ (Dp X.K H y (.list ds) ∧ SeqAt.shaped (.list ds) = true)) ∧ b = ds.any fun z => PyData.eqv z d) ∨
    ∃ a kvs k, y = .ref a ∧ H a = some (.dK kvs) ∧ x = kV k ∧ b = (valV kvs k).isSome := by
  unfold memD at e
  split at e
  · split at e
    · cases e; cases r1; cases r2
      exact .inl ⟨_, _, rfl, rfl, rfl⟩
    · cases e
  · split at e
    · rename_i a bs ea eb
      cases e
      have h1 := pyV_ok rs 64 _ _ _ r1 ea
      have h2 := pyV_ok rs 64 _ _ _ r2 eb
      exact .inr (.inl ⟨a, bs, h1.dp, h1.sh, .inl ⟨h2.dp, h2.sh⟩, rfl⟩)
    · rename_i a bs ea eb
      cases e
      have h1 := pyV_ok rs 64 _ _ _ r1 ea
      have h2 := pyV_ok rs 64 _ _ _ r2 eb
      exact .inr (.inl ⟨a, bs, h1.dp, h1.sh, .inr ⟨h2.dp, h2.sh⟩, rfl⟩)
    · obtain ⟨k, l, kvs, ek, rfl, ek2, rfl⟩ := memK_ok e
      cases r2 with
      | loc h =>
        obtain ⟨us, g1, g2⟩ := rs.dict h ek2
        refine .inr (.inr ⟨_, us, k, rfl, g1, key_of r1 ek, ?_⟩)
        rcases kv_get (k := k) g2 with ⟨q1, q2⟩ | ⟨d, v, q1, q2, _⟩ <;> rw [q1, q2] <;> rfl
theorem op_inJ (hu : X.A.units + 65 < cLine) : OpR X (compareOp .In) (x2 (rc X fa) inD) := by
  intro pins s σ H x y v u Q I rx ry ⟨p, S, d1, d2, d, S', rs, r1, r2, e, q⟩
  unfold inD at e
  split at e
  · rename_i b eb
    cases e
    rcases mem_ok rs r1 r2 eb with ⟨i, j, rfl, rfl, rfl⟩ | ⟨dd, ds, hd, sd, h, rfl⟩ | ⟨a, kvs, k, rfl, g, rfl, rfl⟩
    · exact op_in_str pins s σ H _ _ v u Q I rx ry ⟨i, j, rfl, rfl, at_once rs q (.bl _)⟩
    · rcases h with ⟨he, se⟩ | ⟨he, se⟩
      · obtain ⟨as, w1⟩ := Dp.reads I dd x v hd rx
        obtain ⟨bs, w2⟩ := Dp.reads I (.tuple ds) y u he ry
        exact SeqAt.in_tuple_reads w2 w1 (SeqAt.canLay_of_shaped se) (SeqAt.canLay_of_shaped sd) (room_in_shaped sd hu) ⟨.bl _, H, I, rfl, at_once rs q (.bl _)⟩
      · exact op_inD hu pins s σ H _ _ v u Q I rx ry ⟨dd, ds, hd, he, sd, se, at_once rs q (.bl _)⟩
    · cases ry
      exact d_in (by omega) I (.k g) rx fun s' I' => ⟨.bl _, H, I', rfl, at_once rs q (.bl _)⟩
  · cases e
theorem op_notInJ (hu : X.A.units + 65 < cLine) : OpR X (compareOp .NotIn) (x2 (rc X fa) notInD) := by
  intro pins s σ H x y v u Q I rx ry ⟨p, S, d1, d2, d, S', rs, r1, r2, e, q⟩
  unfold notInD at e
  split at e
  · rename_i b eb
    cases e
    rcases mem_ok rs r1 r2 eb with ⟨i, j, rfl, rfl, rfl⟩ | ⟨dd, ds, hd, sd, h, rfl⟩ | ⟨a, kvs, k, rfl, g, rfl, rfl⟩
    · exact op_notIn_str pins s σ H _ _ v u Q I rx ry ⟨i, j, rfl, rfl, at_once rs q (.bl _)⟩
    · rcases h with ⟨he, se⟩ | ⟨he, se⟩
      · obtain ⟨as, w1⟩ := Dp.reads I dd x v hd rx
        obtain ⟨bs, w2⟩ := Dp.reads I (.tuple ds) y u he ry
        exact SeqAt.notIn_tuple_reads w2 w1 (SeqAt.canLay_of_shaped se) (SeqAt.canLay_of_shaped sd) (room_in_shaped sd hu) ⟨.bl _, H, I, rfl, at_once rs q (.bl _)⟩
      · exact op_notInD hu pins s σ H _ _ v u Q I rx ry ⟨dd, ds, hd, he, sd, se, at_once rs q (.bl _)⟩
    · cases ry
      exact d_notIn (by omega) I (.k g) rx fun s' I' => ⟨.bl _, H, I', rfl, at_once rs q (.bl _)⟩
  · cases e
/-- which comparisons there are -/
def cmpD : CmpOp → D → D → Sto → Option (D × Sto)
  | .Eq => eqD
  | .NotEq => neD
  | .Lt => ltD
  | .LtE => leD
  | .Gt => gtD
  | .GtE => geD
  | .Is => isD
  | .IsNot => isntD
  | .In => inD
  | .NotIn => notInD
theorem op_cmpD (hu : X.A.units + 65 < cLine) (op : CmpOp) : OpR X (compareOp op) (x2 (rc X fa) (cmpD op)) := by
  cases op
  · exact op_eqJ hu
  · exact op_neJ hu
  · exact op_ltJ
  · exact op_leJ
  · exact op_gtJ
  · exact op_geJ
  · exact op_isJ
  · exact op_isntJ
  · exact op_inJ hu
  · exact op_notInJ hu
end
end Jm

set_option Elab.async false
set_option linter.all false
set_option maxRecDepth 100000
set_option maxHeartbeats 4000000
/-! Jm, part E: subscripts, slices. -/
namespace Jm
open PySem PySem.Spec PyProof.Rows L2
section
variable {X : Cx} {fa : Gl0} {W : WX} {e a b : Expr} {es : List Expr} {pos : Pos}

/-! ### o[i] -/
def idxSeq (xs : List D) (y : D) (S : Sto) : Option (D × Sto) := match y with
  | .int i => (atI xs i).map fun d => (d, S)
  | _ => none
def idxKey (kvs : List (Key × D)) (o : Option Key) (S : Sto) : Option (D × Sto) := match o with
  | some k => (kvGet kvs k).map fun d => (d, S)
  | none => none
def idxLoc (l : Nat) (y : D) (S : Sto) : Option (D × Sto) := match S[l]? with
  | some (.lst xs) => idxSeq xs y S
  | some (.dct kvs) => idxKey kvs (keyD y) S
  | none => none
def idxD (x y : D) (S : Sto) : Option (D × Sto) := match x with
  | .tup xs => idxSeq xs y S
  | .scr xs => idxSeq xs y S
  | .str z => match y with
    | .int i => if z.length ≤ LINE then (atI z.cps.toList i).map fun c => (.str ⟨#[c]⟩, S) else none
    | _ => none
  | .loc l => idxLoc l y S
  | _ => none
theorem idxSeq_ok {xs : List D} {y d : D} {S S' : Sto} (h : idxSeq xs y S = some (d, S')) : ∃ i, y = .int i ∧ atI xs i = some d ∧ S' = S := by
  cases y with
  | int i =>
    have h' : (atI xs i).map (fun d => (d, S)) = some (d, S') := h
    cases e : atI xs i with
    | none => rw [e] at h'; cases h'
    | some z => rw [e] at h'; cases h'; exact ⟨i, rfl, e, rfl⟩
  | _ => exact nomatch h
theorem RVs.atI {R : RC} {p : List Addr} {H : Hp} {ds : List D} {vs : List V} {i : Int} {d : D} (r : RVs R p H ds vs) (e : atI ds i = some d) : ∃ v, L2.atI vs i = some v ∧ RV R p H d v := by
  unfold L2.atI at e ⊢
  cases q : ixN ds.length i with
  | none => rw [q] at e; cases e
  | some j =>
    rw [q] at e
    rw [← r.length, q]
    exact r.get e
theorem ix_J (hu : X.A.units + 65 < cLine) : IxR X (x2 (rc X fa) idxD) := by
  intro value slice pins s σ H x y v u Q I rx ry ⟨p, S, d1, d2, d, S', rs, r1, r2, e, q⟩ hs
  cases r1 with
  | @tup a xs ds s1 v1 =>
    obtain ⟨i, rfl, e2, rfl⟩ := idxSeq_ok e
    cases r2
    obtain ⟨z', h1, h2⟩ := v1.atI e2
    exact ix_tup value slice pins s σ H _ _ v u Q I rx ry ⟨a, xs, i, z', rfl, rfl, s1.sq, h1, at_once rs q h2⟩ hs
  | @scr a xs ds s1 v1 =>
    obtain ⟨i, rfl, e2, rfl⟩ := idxSeq_ok e
    cases r2
    obtain ⟨z', h1, h2⟩ := v1.atI e2
    exact ix_list value slice pins s σ H _ _ v u Q I rx ry ⟨a, xs, i, z', rfl, rfl, s1.sq, h1, at_once rs q h2⟩ hs
  | str z =>
    cases r2 with
    | int i =>
      have e' : (if z.length ≤ LINE then (atI z.cps.toList i).map (fun c => (D.str ⟨#[c]⟩, S)) else none) = some (d, S') := e
      split at e'
      · rename_i hl
        cases e2 : atI z.cps.toList i with
        | none => rw [e2] at e'; cases e'
        | some c =>
          rw [e2] at e'
          cases e'
          exact ix_str value slice pins s σ H _ _ v u Q I rx ry ⟨z, i, c, rfl, rfl, by rw [line_eq]; exact hl, e2, at_once rs q (.str _)⟩ hs
      · cases e'
    | _ => exact nomatch e
  | @loc l a h =>
    have e' : idxLoc l d2 S = some (d, S') := e
    unfold idxLoc at e'
    split at e'
    · rename_i ds e3
      obtain ⟨vs, g1, g2⟩ := rs.at_ l _ a e3 h
      obtain ⟨i, rfl, e2, rfl⟩ := idxSeq_ok e'
      cases r2
      obtain ⟨z', h1, h2⟩ := g2.atI e2
      exact ix_list value slice pins s σ H _ _ v u Q I rx ry ⟨a, vs, i, z', rfl, rfl, .of g1, h1, at_once rs q h2⟩ hs
    · rename_i kvs e3
      obtain ⟨us, g1, g2⟩ := rs.at_ l _ a e3 h
      cases e5 : keyD d2 with
      | none => rw [e5] at e'; cases e'
      | some k =>
        rw [e5] at e'
        have e' : (kvGet kvs k).map (fun d => (d, S)) = some (d, S') := e'
        rcases kv_get (k := k) g2 with ⟨q1, _⟩ | ⟨d0, v0, q1, q2, q3⟩
        · rw [q1] at e'; cases e'
        · rw [q1] at e'
          cases e'
          have hk := key_of r2 e5
          subst hk
          cases rx
          have g : DGet H a (kV k) (some v0) := by rw [← q2]; exact .k g1
          exact tail_any (dict_typeIs I g) PySem.F.slot_dict_getitem.lookup (d_getItem (by omega) I g ry fun w' s3 I3 rw' => ⟨v0, H, I3, rw', at_once rs q q3⟩) hs
    · cases e'
  | _ => exact nomatch e
/-- an expression that is no slice -/
def noSlice : Expr → Bool
  | .Slice _ _ _ _ => false
  | _ => true
theorem plain_of {b : Expr} (h : noSlice b = true) : PlainIx b := by
  cases b <;> first | exact fun _ _ => rfl | cases h
theorem f_idx {f1 f2 : E D} (hu : X.A.units + 65 < cLine) (ha : PE X a (xE (rc X fa) W f1)) (hb : PE X b (xE (rc X fa) W f2)) (hs : noSlice b = true) : PE X (.Subscript a b pos) (xE (rc X fa) W (eOp2 idxD f1 f2)) :=
  impE (pe_ix (ix_J hu) ha hb (plain_of hs)) fun s H Q h => op2_in h

/-! ### o[lo:hi] -/
def cutD (xs : List D) (lo hi : Option Int) : List D := (xs.drop (HT.sIx xs.length 0 lo)).take (HT.sIx xs.length xs.length hi - HT.sIx xs.length 0 lo)
def slcD (x : D) (lo hi : Option Int) (S : Sto) : Option (D × Sto) := match x with
  | .tup xs => mkTup (cutD xs lo hi) S
  | .scr xs => mkLst (cutD xs lo hi) S
  | .str z => if z.length ≤ LINE then some (.str (cutS z lo hi), S) else none
  | .loc l => match lstAt S l with
    | some xs => mkLst (cutD xs lo hi) S
    | none => none
  | _ => none
theorem getItem_tuple_all {prog : Program} {w : World} {A : Around} {E0 : Value → Shared → Prop} {s : Shared} {t sl : Addr} {items : Array Value} {vl vu : Value} {lo hi : Option Int} {Q : Value → Shared → Prop} (ht : IsTup s.heap t items) (hs : s.heap.IsSliceOf sl vl vu .none) (pl : IsPart vl lo) (pu : IsPart vu hi)
    (hw : HT.sIx items.size 0 lo = 0 ∧ HT.sIx items.size items.size hi = items.size) (h : Q (.ref t) s) : wpAny (model prog w) A (getItem (.ref t) (.ref sl)) Q E0 s := by
  obtain ⟨os, hos, hcs, hds⟩ := id hs
  have hTs : s.TypeIs (.ref sl) "slice" := ⟨os, hos, hcs⟩
  unfold getItem
  try with_reducible refine wpAny_holding ?_
  first | refine wpAny_bind (wpAny_pure ?_) | skip
  refine wpAny_bind (wpAny_sequenceKey ht.typeIs (by decide) ?_)
  refine wpAny_bind (wpAny_callSpecial?_slot (name := Str.ofString "__getitem__") ht.typeIs PyProof.Rows.slot_tuple_getitem
    (wpAny_call_entry PyProof.Rows.slot_tuple_getitem ht.typeIs entry_tuple_getitem ?_ (args_tuple_getitem _ _)))
  show wpAny _ _ (Builtin.Tuple.tupleItemsOf (.ref t) >>= _) _ _ s
  refine wpAny_bind (tupleItemsOf_ ht ?_)
  refine wpAny_bind (wpAny_typeOf hTs ?_)
  rw [if_pos (by decide)]
  refine wpAny_bind (HT.sliceApplied_gen hs pl pu ?_)
  have hyes : (((HT.sIx items.size 0 lo : Nat) : Int) == 0 && (1 : Int) == 1 && (HT.sIx items.size items.size hi - HT.sIx items.size 0 lo) == items.size) = true := by
    rw [hw.1, hw.2]
    simp
  show wpAny _ _ (if (((HT.sIx items.size 0 lo : Nat) : Int) == 0 && (1 : Int) == 1 && (HT.sIx items.size items.size hi - HT.sIx items.size 0 lo) == items.size) = true then _ else _) _ _ s
  rw [if_pos hyes]
  unfold Builtin.Tuple.tupleIsExact
  refine wpAny_bind (wpAny_bind (wpAny_typeOf ht.typeIs (wpAny_pure ?_)))
  rw [if_pos (by decide)]
  refine wpAny_bind (wpAny_rule ?_)
  exact wpAny_bind (wpAny_pure (wpAny_pure ⟨_, rfl, wpAny_pure h⟩))
theorem RVs.cut {R : RC} {p : List Addr} {H : Hp} {ds : List D} {vs : List V} (r : RVs R p H ds vs) (lo hi : Option Int) : RVs R p H (cutD ds lo hi) (cutV vs lo hi) := by
  unfold cutD cutV
  rw [r.length]
  exact (r.drop _).take _
def x1s (R : RC) (g : D → Option Int → Option Int → Sto → Option (D × Sto)) : V → Option Int → Option Int → Hp → VK → Prop := fun x lo hi H Q => ∃ p S d1 d S', RS R p S H ∧ RV R p H d1 x ∧ g d1 lo hi S = some (d, S') ∧ ∀ p' H', p <+: p' → Tm p H p' H' → RS R p' S' H' → ∀ v, RV R p' H' d v → Q v H'
theorem sl_J : SlR X (x1s (rc X fa) slcD) := by
  intro pins s σ H x v vl vu lo hi sl Q I rx hs pl pu ⟨p, S, d1, d, S', rs, r1, e, q⟩
  cases r1 with
  | @tup a xs ds s1 v1 =>
    have e' : mkTup (cutD ds lo hi) S = some (d, S') := e
    by_cases hw : HT.sIx xs.length 0 lo = 0 ∧ HT.sIx xs.length xs.length hi = xs.length
    · cases rx
      obtain ⟨its, r, ht, hz⟩ := I.tuple s1.sq
      have hlen : its.toArray.size = xs.length := by rw [List.size_toArray]; exact r.length.symm
      refine ⟨"tuple", _, PyProof.Rows.slot_tuple_getitem.lookup, ht.typeIs, ?_⟩
      refine getItem_tuple_all ht hs pl pu (by rw [hlen]; exact hw) ⟨.ref a, H, I, rfl, ?_⟩
      have e2 : (d, S') = (D.tup ds, S) := by
        have hc : cutD ds lo hi = ds := by
          unfold cutD
          rw [v1.length, hw.1, hw.2, List.drop_zero, Nat.sub_zero, ← v1.length, List.take_length]
        rw [hc] at e'
        unfold mkTup at e'
        split at e'
        · cases e'; rfl
        · cases e'
      cases e2
      exact at_once rs q (.tup s1 v1)
    · obtain ⟨hz, hq⟩ := new_tup rs (v1.cut lo hi) e' q
      exact sl_tup pins s σ H _ v vl vu lo hi sl Q I rx hs pl pu ⟨a, xs, rfl, s1.sq, hw, hq⟩
  | @scr a xs ds s1 v1 =>
    have e' : mkLst (cutD ds lo hi) S = some (d, S') := e
    obtain ⟨hz, hq⟩ := new_list rs (v1.cut lo hi) e' q
    exact sl_list pins s σ H _ v vl vu lo hi sl Q I rx hs pl pu ⟨a, xs, rfl, s1.sq, hq⟩
  | str z =>
    have e' : (if z.length ≤ LINE then some (D.str (cutS z lo hi), S) else none) = some (d, S') := e
    split at e'
    · rename_i hl
      cases e'
      exact sl_str pins s σ H _ v vl vu lo hi sl Q I rx hs pl pu ⟨z, rfl, by rw [line_eq]; exact hl, at_once rs q (.str _)⟩
    · cases e'
  | @loc l a h =>
    have e' : (match lstAt S l with | some xs => mkLst (cutD xs lo hi) S | none => none) = some (d, S') := e
    split at e'
    · rename_i ds e3
      obtain ⟨vs, g1, g2⟩ := rs.list h e3
      obtain ⟨hz, hq⟩ := new_list rs (g2.cut lo hi) e' q
      exact sl_list pins s σ H _ v vl vu lo hi sl Q I rx hs pl pu ⟨a, vs, rfl, .of g1, hq⟩
    · cases e'
  | _ => exact nomatch e
/-- a part of a slice -/
def asInt (d : D) : E (Option Int) := fun _ S => match d with
  | .int i => .ok (some i) S
  | _ => .bad
def ePart (f : Option (E D)) : E (Option Int) := match f with
  | none => fun _ S => .ok none S
  | some f => eBnd f asInt
def eSlc (f : E D) (lo hi : Option (E D)) : E D := eBnd f fun d => eBnd (ePart lo) fun l => eBnd (ePart hi) fun h _ S => lft (slcD d l h S)
def xO (R : RC) (W : WX) (f : E (Option Int)) : TO := fun s H Q => ∃ p n S, RS R p S H ∧ RE R p n s H ∧ Aft R p H (f n S) (fun o p' S' H' => Q o H') (fun c dd H' => W c dd s H')
theorem impO {e : Option Expr} {t t' : TO} (h : PO X e t) (m : ∀ s H Q, t' s H Q → t s H Q) : PO X e t' := ⟨fun pins s σ H Q I hw => h.run pins s σ H Q I (m _ _ _ hw)⟩
theorem o_none : PO X none (xO (rc X fa) W (ePart none)) := impO po_none fun s H Q ⟨p, n, S, rs, re, h⟩ => aft_ok rs h
theorem o_some {f : E D} (h : PE X e (xE (rc X fa) W f)) : PO X (some e) (xO (rc X fa) W (ePart (some f))) := impO (po_some h) fun s H Q ⟨p, n, S, rs, re, h⟩ => xE_of (g := asInt) rs re h fun d p1 S1 H1 v rs1 re1 hp t rv h1 => by
  cases rv with
  | int i => exact ⟨i, rfl, aft_ok rs1 h1⟩
  | _ => exact h1.elim
theorem xO_of {R : RC} {B : Type} {f : E (Option Int)} {g : Option Int → E B} {s : L2.St} {H : Hp} {QB : B → List Addr → Sto → Hp → Prop} {p : List Addr} {n : En} {S : Sto} {Q : Option Int → Hp → Prop}
    (rs : RS R p S H) (re : RE R p n s H) (h : Aft R p H (eBnd f g n S) QB (fun c dd H' => W c dd s H'))
    (m : ∀ b p1 S1 H1, RS R p1 S1 H1 → RE R p1 n s H1 → p <+: p1 → Tm p H p1 H1 → Aft R p1 H1 (g b n S1) QB (fun c dd H' => W c dd s H') → Q b H1) : xO R W f s H Q :=
  ⟨p, n, S, rs, re, (Aft.bind h).imp (fun b p1 S1 H1 hp t rs1 h1 => m b p1 S1 H1 rs1 (re.mono hp t) hp t h1) fun _ _ _ w => w⟩
theorem f_slc {f : E D} {lo hi : Option Expr} {fl fh : Option (E D)} {p2 : Pos} (ha : PE X a (xE (rc X fa) W f)) (hl : PO X lo (xO (rc X fa) W (ePart fl))) (hh : PO X hi (xO (rc X fa) W (ePart fh))) :
    PE X (.Subscript a (.Slice lo hi none p2) pos) (xE (rc X fa) W (eSlc f fl fh)) :=
  impE (pe_slice sl_J ha hl hh) fun s H Q ⟨p, n, S, rs, re, h⟩ => xE_of rs re h fun d p1 S1 H1 v rs1 re1 hp t rv h1 => xO_of rs1 re1 h1 fun l p2 S2 H2 rs2 re2 hp2 t2 h2 =>
    xO_of rs2 re2 h2 fun u p3 S3 H3 rs3 re3 hp3 t3 h3 => by
      obtain ⟨d4, S4, e4, h4⟩ := aft_lft h3
      exact ⟨p3, S3, d, d4, S4, rs3, (rv.mono hp2 t2).mono hp3 t3, e4, h4⟩
end
end Jm

set_option Elab.async false
set_option linter.all false
set_option maxRecDepth 100000
set_option maxHeartbeats 4000000
/-! Jm, part F: o[::-1], built-ins by values. -/
namespace Jm
open PySem PySem.Spec PyProof.Rows L2

/-! ### o[::-1] -/
section
variable {prog : Program} {w : World} {A : Around} {E0 : Value → Shared → Prop} {s : Shared}
theorem slicePlaces_rev (n : Nat) : Builtin.Slice.slicePlaces ((n : Int) - 1) (-1) (-1) = n := by
  unfold Builtin.Slice.slicePlaces
  have h1 : ¬ ((-1 : Int) > 0) := by omega
  simp only [h1, if_false]
  by_cases h : n = 0
  · subst h
    rfl
  · have h2 : (n : Int) - 1 > -1 := by omega
    simp only [h2, if_true, Int.neg_neg, Int.ediv_one]
    omega
theorem sliceApplied_rev {sl : Addr} {vs : Value} {n : Nat} {Q : Int × Int × Nat → Shared → Prop} (hs : s.heap.IsSliceOf sl .none .none vs) (ps : IsPart vs (some (-1)))
    (h : Q (((n : Int) - 1), -1, n) s) : wpAny (model prog w) A (Builtin.Slice.sliceApplied (.ref sl) (pure (n : Int))) Q E0 s := by
  obtain ⟨os, hos, hcs, hds⟩ := id hs
  unfold Builtin.Slice.sliceApplied Builtin.Slice.sliceFields
  refine wpAny_bind (wpAny_bind (wpAny_field hos hds (x := .none) rfl (wpAny_bind (wpAny_field hos hds (x := .none) rfl (wpAny_bind (wpAny_field hos hds (x := vs) rfl (wpAny_pure ?_)))))))
  refine wpAny_bind (HT.slicePart_ ps ?_)
  show wpAny _ _ (if ((-1 : Int) == 0) = true then _ else _) _ _ s
  rw [if_neg (by decide)]
  refine wpAny_bind (slicePart_none (wpAny_bind (slicePart_none (wpAny_bind (wpAny_pure ?_)))))
  show wpAny _ _ (pure (((n : Int) - 1), (-1 : Int), Builtin.Slice.slicePlaces ((n : Int) - 1) (-1) (-1))) _ _ s
  rw [slicePlaces_rev]
  exact wpAny_pure h
theorem fm_congr {A B : Type} {f g : A → Option B} : ∀ {l : List A}, (∀ x ∈ l, f x = g x) → l.filterMap f = l.filterMap g
  | [], _ => rfl
  | a :: l, h => by
    rw [List.filterMap_cons, List.filterMap_cons, h a List.mem_cons_self, fm_congr fun x hx => h x (List.mem_cons_of_mem _ hx)]
theorem pick_rev (xs : Array Value) : ((List.range xs.size).filterMap fun (m : Nat) => xs[(((xs.size : Int) - 1) + (m : Int) * (-1)).toNat]?).toArray = xs.toList.reverse.toArray := by
  have e : ((List.range xs.size).filterMap fun (m : Nat) => xs[(((xs.size : Int) - 1) + (m : Int) * (-1)).toNat]?) = ((List.range xs.size).map fun k => xs.size - 1 - k).filterMap (xs[·]?) := by
    rw [List.filterMap_map]
    refine fm_congr fun m hm => ?_
    have hm' := List.mem_range.mp hm
    have : (((xs.size : Int) - 1) + (m : Int) * (-1)).toNat = xs.size - 1 - m := by omega
    show _ = xs[xs.size - 1 - m]?
    rw [this]
  rw [e, PySem.W.krv_range, List.filterMap_reverse, PySem.W.krv_all]
theorem getItem_tuple_rev {t sl : Addr} {items : Array Value} {vs : Value} {Q : Value → Shared → Prop} (ht : IsTup s.heap t items) (hs : s.heap.IsSliceOf sl .none .none vs) (ps : IsPart vs (some (-1)))
    (h : Q (.ref s.heap.objs.size) { s with heap := s.heap.push { cls := .type "tuple", data := .seq items.toList.reverse.toArray } })
    (hsz : items.size ≤ sizeLine) : wpAny (model prog w) A (getItem (.ref t) (.ref sl)) Q E0 s := by
  have htake : sizeOk (.seq items.toList.reverse.toArray) := by
    show items.toList.reverse.toArray.size ≤ sizeLine
    rw [List.size_toArray, List.length_reverse, Array.length_toList]
    omega
  obtain ⟨os, hos, hcs, hds⟩ := id hs
  have hTs : s.TypeIs (.ref sl) "slice" := ⟨os, hos, hcs⟩
  unfold getItem
  try with_reducible refine wpAny_holding ?_
  first | refine wpAny_bind (wpAny_pure ?_) | skip
  refine wpAny_bind (wpAny_sequenceKey ht.typeIs (by decide) ?_)
  refine wpAny_bind (wpAny_callSpecial?_slot (name := Str.ofString "__getitem__") ht.typeIs PyProof.Rows.slot_tuple_getitem
    (wpAny_call_entry PyProof.Rows.slot_tuple_getitem ht.typeIs entry_tuple_getitem ?_ (args_tuple_getitem _ _)))
  show wpAny _ _ (Builtin.Tuple.tupleItemsOf (.ref t) >>= _) _ _ s
  refine wpAny_bind (tupleItemsOf_ ht ?_)
  refine wpAny_bind (wpAny_typeOf hTs ?_)
  rw [if_pos (by decide)]
  refine wpAny_bind (sliceApplied_rev hs ps ?_)
  have hno : ¬ ((((items.size : Int) - 1) == 0 && (-1 : Int) == 1 && items.size == items.size) = true) := by
    intro q
    rw [Bool.and_eq_true, Bool.and_eq_true] at q
    exact absurd q.1.2 (by decide)
  show wpAny _ _ (if (((items.size : Int) - 1) == 0 && (-1 : Int) == 1 && items.size == items.size) = true then _ else _) _ _ s
  rw [if_neg hno, pick_rev]
  first
    | exact wpAny_bind (m := Builtin.Tuple.tupleExact _) (wpAny_newObj_type (wpAny_pure ⟨_, rfl, wpAny_pure h⟩) htake)
    | exact wpAny_bind (m := Builtin.Tuple.tupleExact _) (wpAny_newObj_type (wpAny_bind (wpAny_pure (wpAny_pure ⟨_, rfl, wpAny_pure h⟩))) htake)
    | exact wpAny_bind (wpAny_bind (m := Builtin.Tuple.tupleExact _) (wpAny_newObj_type (wpAny_pure (wpAny_pure ⟨_, rfl, wpAny_pure h⟩)) htake))
    | exact wpAny_bind (wpAny_bind (m := Builtin.Tuple.tupleExact _) (wpAny_newObj_type (wpAny_pure ⟨_, rfl, wpAny_pure h⟩) htake))
end
section
variable {X : Cx} {fa : Gl0} {W : WX} {e a b : Expr} {es : List Expr} {pos : Pos}
def revD (x : D) (S : Sto) : Option (D × Sto) := match x with
  | .tup xs => mkTup xs.reverse S
  | .scr xs => mkLst xs.reverse S
  | .loc l => match lstAt S l with
    | some xs => mkLst xs.reverse S
    | none => none
  | _ => none
theorem revD_cases {x d : D} {S S' : Sto} (h : revD x S = some (d, S')) : (∃ xs, x = .tup xs ∧ mkTup xs.reverse S = some (d, S')) ∨ (∃ xs, x = .scr xs ∧ mkLst xs.reverse S = some (d, S')) ∨ ∃ l xs, x = .loc l ∧ lstAt S l = some xs ∧ mkLst xs.reverse S = some (d, S') := by
  cases x with
  | tup xs => exact .inl ⟨xs, rfl, h⟩
  | scr xs => exact .inr (.inl ⟨xs, rfl, h⟩)
  | loc l =>
    have h' : (match lstAt S l with | some xs => mkLst xs.reverse S | none => none) = some (d, S') := h
    cases e : lstAt S l with
    | none => rw [e] at h'; cases h'
    | some xs => rw [e] at h'; exact .inr (.inr ⟨l, xs, rfl, e, h'⟩)
  | _ => exact nomatch h
/-- the expression -1 -/
def isM1 : Expr → Bool
  | .UnaryOp .USub (.Constant (.int 1) _ _) _ => true
  | _ => false
theorem m1_pe {st : Expr} (h : isM1 st = true) : PE X st (tC (.int (-1))) := by
  unfold isM1 at h
  split at h
  · exact impE (pe_un un_neg pe_int) fun s H Q h => ⟨1, rfl, h⟩
  · cases h
theorem f_rev {f : E D} {st : Expr} {p2 : Pos} (hst : isM1 st = true) (ha : PE X a (xE (rc X fa) W f)) : PE X (.Subscript a (.Slice none none (some st) p2) pos) (xE (rc X fa) W (eOp1 revD f)) := by
  refine ⟨fun pins s σ H Q I ⟨p, n, S, rs, re, h⟩ => ?_⟩
  refine Subscript_ (thn (ha.run pins s σ H (fun x H1 => x1 (rc X fa) revD x H1 Q) I (xE_of rs re h fun d p1 S1 H1 v rs1 re1 hp t rv h1 => ?_)) fun v s1 ⟨x, H1, I1, r1, p1, S1, d1, d, S', rs1, rv1, e, q⟩ => ?_)
  · obtain ⟨d3, S3, e3, h3⟩ := aft_lft h1
    exact ⟨p1, S1, d, d3, S3, rs1, rv, e3, h3⟩
  refine wpAny_Slice ?_
  rw [evalPart_none]
  refine wpAny_pure (wpAny_pure ?_)
  show wpAny _ _ (eval st X.env) _ _ s1
  refine thn ((m1_pe hst).run pins s1 σ H1 (fun y H2 => y = .int (-1) ∧ H2 = H1) I1 ⟨rfl, rfl⟩) fun vs s2 ⟨y, H2, I2, r2, ey, eH⟩ => ?_
  subst ey eH
  obtain ⟨t, rfl⟩ := r2
  have I4 : Inv X pins σ H2 { s2 with heap := s2.heap.push { cls := .type "slice", data := .fields #[.none, .none, .int (-1) t] } } := I2.kept (t' := s2.toks) fun b ob q => Heap.get?_push_of_some _ q
  show wpAny (model X.prog X.w) X.A (subscriptTail a (.Slice none none (some st) p2) v (.ref s2.heap.objs.size)) (EP X pins σ Q) X.xe { s2 with heap := s2.heap.push { cls := .type "slice", data := .fields #[.none, .none, .int (-1) t] } }
  rcases revD_cases e with ⟨ds, rfl, e'⟩ | ⟨ds, rfl, e'⟩ | ⟨l, ds, rfl, el, e'⟩
  · cases rv1 with
    | @tup ad xs _ s1' v1 =>
      cases r1
      obtain ⟨hz, hq⟩ := new_tup rs1 v1.rev e' q
      obtain ⟨its, r, ht, hz2⟩ := I4.tuple s1'.sq
      refine tail_any (ops := [.ref ad, .ref s2.heap.objs.size]) ht.typeIs PyProof.Rows.slot_tuple_getitem.lookup (getItem_tuple_rev ht (Heap.IsSliceOf.new ..) (.int _ _) ?_ (by rw [List.size_toArray, ← r.length]; exact hz2)) (by with_unfolding_all rfl)
      refine ⟨.ref _, _, I4.laid (t' := s2.toks) (o := .tup xs.reverse) (fun b ob q => Heap.get?_push_of_some _ q) (Nat.le_refl _) ?_, rfl, hq _ (I4.hok.fresh (Nat.le_refl _))⟩
      exact ⟨hz, _, by simpa using L2.Vals.reverse r, IsTup.new _ _⟩
  · cases rv1 with
    | @scr ad xs _ s1' v1 =>
      cases r1
      obtain ⟨hz, hq⟩ := new_list rs1 v1.rev e' q
      obtain ⟨its, r, pl, hz2⟩ := I4.list s1'.sq
      refine tail_any (ops := [.ref ad, .ref s2.heap.objs.size]) pl.isList.typeIs slot_list_getitem.lookup (wpAny_getItem_list_slice pl.isList (Heap.IsSliceOf.new ..) .none .none (.int _ _) (by decide) ?_ (by rw [List.size_toArray, ← r.length]; exact hz2)) (by with_unfolding_all rfl)
      rw [PySem.W.krv_pick]
      refine ⟨.ref _, _, I4.laid (t' := s2.toks) (o := .lst xs.reverse) (fun b ob q => Heap.get?_push_of_some _ q) (Nat.le_refl _) ?_, rfl, hq _ (I4.hok.fresh (Nat.le_refl _))⟩
      exact ⟨hz, _, 0, by simpa using L2.Vals.reverse r, Heap.get?_push_size _ rfl⟩
  · cases rv1 with
    | @loc _ ad h0 =>
      cases r1
      obtain ⟨vs, g1, g2⟩ := rs1.list h0 el
      obtain ⟨hz, hq⟩ := new_list rs1 g2.rev e' q
      obtain ⟨its, r, pl, hz2⟩ := I4.list (.of g1)
      refine tail_any (ops := [.ref ad, .ref s2.heap.objs.size]) pl.isList.typeIs slot_list_getitem.lookup (wpAny_getItem_list_slice pl.isList (Heap.IsSliceOf.new ..) .none .none (.int _ _) (by decide) ?_ (by rw [List.size_toArray, ← r.length]; exact hz2)) (by with_unfolding_all rfl)
      rw [PySem.W.krv_pick]
      refine ⟨.ref _, _, I4.laid (t' := s2.toks) (o := .lst vs.reverse) (fun b ob q => Heap.get?_push_of_some _ q) (Nat.le_refl _) ?_, rfl, hq _ (I4.hok.fresh (Nat.le_refl _))⟩
      exact ⟨hz, _, 0, by simpa using L2.Vals.reverse r, Heap.get?_push_size _ rfl⟩
end
end Jm

set_option Elab.async false
set_option linter.all false
set_option maxRecDepth 100000
set_option maxHeartbeats 4000000
/-! Jm, part G: built-in functions and types by values. -/
noncomputable section
namespace Jm
open PySem PySem.Spec PyProof.Rows L2

abbrev Prim := List D → Sto → Option (D × Sto)
/-- the items of a list or tuple -/
def seqOf (x : D) (S : Sto) : Option (List D) := match x with
  | .tup xs => some xs
  | .scr xs => some xs
  | .loc l => lstAt S l
  | _ => none
def asInts (xs : List D) : Option (List Int) := allSome (xs.map fun d => match d with
  | .int i => some i
  | _ => none)
def asBls (xs : List D) : Option (List Bool) := allSome (xs.map fun d => match d with
  | .bl i => some i
  | _ => none)
section
variable {X : Cx} {fa : Gl0}
theorem seqOf_ok {p : List Addr} {S : Sto} {H : Hp} {d : D} {v : V} {ds : List D} (rs : RS (rc X fa) p S H) (r : RV (rc X fa) p H d v) (h : seqOf d S = some ds) : ∃ a vs, v = .ref a ∧ (SqL X.K H a vs ∨ SqT X.K H a vs) ∧ RVs (rc X fa) p H ds vs := by
  cases r with
  | tup s q => cases h; exact ⟨_, _, rfl, .inr s.sq, q⟩
  | scr s q => cases h; exact ⟨_, _, rfl, .inl s.sq, q⟩
  | loc e =>
    obtain ⟨vs, g1, g2⟩ := rs.list e h
    exact ⟨_, vs, rfl, .inl (.of g1), g2⟩
  | _ => exact nomatch h
theorem asInts_ok {R : RC} {p : List Addr} {H : Hp} : ∀ {ds : List D} {vs : List V} {ns : List Int}, RVs R p H ds vs → asInts ds = some ns → vs = ns.map V.int
  | _, _, _, .nil, h => by cases h; rfl
  | d :: ds, _, ns, .cons r rs, h => by
    obtain ⟨a, k, e1, e2, e3⟩ := allSome_cons h
    subst e3
    cases r with
    | int i => cases e1; rw [asInts_ok rs e2]; rfl
    | _ => exact nomatch e1
theorem asBls_ok {R : RC} {p : List Addr} {H : Hp} : ∀ {ds : List D} {vs : List V} {ns : List Bool}, RVs R p H ds vs → asBls ds = some ns → vs = ns.map V.bl
  | _, _, _, .nil, h => by cases h; rfl
  | d :: ds, _, ns, .cons r rs, h => by
    obtain ⟨a, k, e1, e2, e3⟩ := allSome_cons h
    subst e3
    cases r with
    | bl i => cases e1; rw [asBls_ok rs e2]; rfl
    | _ => exact nomatch e1

/-! ### len -/
def lenOf (x : D) (S : Sto) : Option Nat := match x with
  | .tup xs => some xs.length
  | .scr xs => some xs.length
  | .str x => if x.length ≤ LINE then some x.length else none
  | .loc l => match S[l]? with
    | some (.lst xs) => some xs.length
    | some (.dct xs) => some xs.length
    | none => none
  | _ => none
def lenD : Prim := fun ds S => match ds with
  | [x] => (lenOf x S).map fun (n : Nat) => (D.int (n : Int), S)
  | _ => none
theorem map_some {A B : Type} {o : Option A} {f : A → B} {b : B} (h : o.map f = some b) : ∃ a, o = some a ∧ f a = b := by
  cases o with
  | none => cases h
  | some a => exact ⟨a, rfl, Option.some.inj h⟩
theorem paired_length {A B : Type} {F : A → B → Prop} : ∀ {l : List A} {k : List B}, Paired F l k → l.length = k.length
  | _, _, .nil => rfl
  | _, _, .cons _ t => congrArg (· + 1) (paired_length t)
theorem call_lenJ : CallR X (.builtin "len") (xN (rc X fa) lenD) := by
  intro pins s σ H xs us Q I rr ⟨p, S, ds, d, S', rs, rv, e, q⟩
  cases rv with
  | nil => exact nomatch e
  | cons r1 r2 =>
    cases r2 with
    | cons _ _ => exact nomatch e
    | nil =>
      obtain ⟨n, en, e2⟩ := map_some e
      cases e2
      cases r1 with
      | tup s' v1 => cases en; exact call_len pins s σ H _ us Q I rr ⟨_, _, rfl, .inr ⟨_, s'.sq, rfl⟩, by rw [← v1.length]; exact at_once rs q (.int _)⟩
      | scr s' v1 => cases en; exact call_len pins s σ H _ us Q I rr ⟨_, _, rfl, .inl ⟨_, s'.sq, rfl⟩, by rw [← v1.length]; exact at_once rs q (.int _)⟩
      | str x =>
        have en' : (if x.length ≤ LINE then some x.length else none) = some n := en
        split at en'
        · rename_i hl
          cases en'
          exact call_len pins s σ H _ us Q I rr ⟨_, _, rfl, ⟨by rw [line_eq]; exact hl, rfl⟩, at_once rs q (.int _)⟩
        · cases en'
      | @loc l a h =>
        have en' : (match S[l]? with | some (.lst xs) => some xs.length | some (.dct xs) => some xs.length | none => none) = some n := en
        cases e3 : S[l]? with
        | none => rw [e3] at en'; cases en'
        | some o =>
          rw [e3] at en'
          have ro := rs.at_ l o a e3 h
          cases o with
          | lst ys =>
            obtain ⟨vs, g1, g2⟩ := ro
            cases en'
            exact call_len pins s σ H _ us Q I rr ⟨_, _, rfl, .inl ⟨vs, .of g1, rfl⟩, by rw [← g2.length]; exact at_once rs q (.int _)⟩
          | dct kvs =>
            obtain ⟨vs, g1, g2⟩ := ro
            cases en'
            exact call_lenD pins s σ H _ us Q I rr ⟨a, vs, rfl, g1, by rw [← paired_length g2]; exact at_once rs q (.int _)⟩
      | _ => exact nomatch en

/-! ### int, abs, max, min of two, divmod -/
def intD : Prim := fun ds S => match ds with
  | [.int i] => some (.int i, S)
  | [.bl b] => some (.int (if b then 1 else 0), S)
  | [.str x] => if x.length ≤ 640 then (PySem.intText? x).map fun n => (.int n, S) else none
  | _ => none
theorem call_intJ : CallR X (.type "int") (xN (rc X fa) intD) := by
  intro pins s σ H xs us Q I rr ⟨p, S, ds, d, S', rs, rv, e, q⟩
  cases rv with
  | nil => exact nomatch e
  | cons r1 r2 =>
    cases r2 with
    | cons _ _ => cases r1 <;> exact nomatch e
    | nil =>
      cases r1 with
      | int i => cases e; exact call_int1 pins s σ H _ us Q I rr (.inl ⟨i, rfl, at_once rs q (.int _)⟩)
      | bl b => cases e; exact call_int1 pins s σ H _ us Q I rr (.inr ⟨b, rfl, at_once rs q (.int _)⟩)
      | str x =>
        have e' : (if x.length ≤ 640 then (PySem.intText? x).map (fun n => (D.int n, S)) else none) = some (d, S') := e
        split at e'
        · rename_i hl
          obtain ⟨n, en, e2⟩ := map_some e'
          cases e2
          exact call_int_str pins s σ H _ us Q I rr ⟨x, n, rfl, en, hl, at_once rs q (.int _)⟩
        · cases e'
      | _ => exact nomatch e
def absD : Prim := fun ds S => match ds with
  | [.int i] => some (.int (if i < 0 then -i else i), S)
  | _ => none
theorem call_absJ : CallR X (.builtin "abs") (xN (rc X fa) absD) := by
  intro pins s σ H xs us Q I rr ⟨p, S, ds, d, S', rs, rv, e, q⟩
  cases rv with
  | nil => exact nomatch e
  | cons r1 r2 =>
    cases r2 with
    | cons _ _ => cases r1 <;> exact nomatch e
    | nil =>
      cases r1 with
      | int i => cases e; exact call_abs pins s σ H _ us Q I rr ⟨i, rfl, at_once rs q (.int _)⟩
      | _ => exact nomatch e
def divmodD : Prim := fun ds S => match ds with
  | [.int i, .int j] => if 0 < j ∧ j < hid 1073741824 then some (.tup [.int (i / j), .int (i % j)], S) else none
  | _ => none
theorem call_divmodJ : CallR X (.builtin "divmod") (xN (rc X fa) divmodD) := by
  intro pins s σ H xs us Q I rr ⟨p, S, ds, d, S', rs, rv, e, q⟩
  unfold divmodD at e
  split at e
  · split at e
    · rename_i i j hj
      rw [hid_eq] at hj
      cases e
      cases rv with
      | cons r1 r2 => cases r2 with
        | cons r2 r3 =>
          cases r3; cases r1; cases r2
          refine call_divmod pins s σ H _ us Q I rr ⟨i, j, rfl, hj, fun a ha => ?_⟩
          exact q p _ (List.prefix_refl _) (Tm.new ha) (rs.newT ha) _ (.tup (.inl ⟨rs.nin ha, .inl upd_same⟩) (.cons (.int _) (.cons (.int _) .nil)))
    · cases e
  · cases e
/-- the greatest, the least of some ints -/
def maxI : List Int → Int
  | [] => 0
  | [a] => a
  | a :: b :: r => if maxI (b :: r) > a then maxI (b :: r) else a
def minI : List Int → Int
  | [] => 0
  | [a] => a
  | a :: b :: r => if minI (b :: r) < a then minI (b :: r) else a
theorem maxI_mem : ∀ {l : List Int}, l ≠ [] → maxI l ∈ l ∧ ∀ y ∈ l, y ≤ maxI l
  | [], h => absurd rfl h
  | [a], _ => ⟨List.mem_cons_self, fun y hy => by
      have : y = a := by simpa using hy
      subst this
      exact Int.le_refl _⟩
  | a :: b :: r, _ => by
    obtain ⟨h1, h2⟩ := maxI_mem (l := b :: r) (by simp)
    show (if maxI (b :: r) > a then maxI (b :: r) else a) ∈ a :: b :: r ∧ ∀ y ∈ a :: b :: r, y ≤ (if maxI (b :: r) > a then maxI (b :: r) else a)
    split
    · rename_i h
      exact ⟨List.mem_cons_of_mem _ h1, fun y hy => by
        rcases List.mem_cons.mp hy with rfl | hy
        · omega
        · exact h2 y hy⟩
    · rename_i h
      exact ⟨List.mem_cons_self, fun y hy => by
        rcases List.mem_cons.mp hy with rfl | hy
        · omega
        · have := h2 y hy; omega⟩
theorem minI_mem : ∀ {l : List Int}, l ≠ [] → minI l ∈ l ∧ ∀ y ∈ l, minI l ≤ y
  | [], h => absurd rfl h
  | [a], _ => ⟨List.mem_cons_self, fun y hy => by
      have : y = a := by simpa using hy
      subst this
      exact Int.le_refl _⟩
  | a :: b :: r, _ => by
    obtain ⟨h1, h2⟩ := minI_mem (l := b :: r) (by simp)
    show (if minI (b :: r) < a then minI (b :: r) else a) ∈ a :: b :: r ∧ ∀ y ∈ a :: b :: r, (if minI (b :: r) < a then minI (b :: r) else a) ≤ y
    split
    · rename_i h
      exact ⟨List.mem_cons_of_mem _ h1, fun y hy => by
        rcases List.mem_cons.mp hy with rfl | hy
        · omega
        · exact h2 y hy⟩
    · rename_i h
      exact ⟨List.mem_cons_self, fun y hy => by
        rcases List.mem_cons.mp hy with rfl | hy
        · omega
        · have := h2 y hy; omega⟩
def aggD (f : List Int → Int) : Prim := fun ds S => match ds with
  | [.int i, .int j] => some (.int (f [i, j]), S)
  | [.loc l] => match lstAt S l with
    | some xs => match asInts xs with
      | some (n :: ns) => some (.int (f (n :: ns)), S)
      | _ => none
    | none => none
  | _ => none
theorem aggD_cases {f : List Int → Int} {ds : List D} {d : D} {S S' : Sto} (h : aggD f ds S = some (d, S')) : S' = S ∧ ((∃ i j, ds = [.int i, .int j] ∧ d = .int (f [i, j])) ∨ ∃ l xs n ns, ds = [.loc l] ∧ lstAt S l = some xs ∧ asInts xs = some (n :: ns) ∧ d = .int (f (n :: ns))) := by
  unfold aggD at h
  split at h
  · cases h; exact ⟨rfl, .inl ⟨_, _, rfl, rfl⟩⟩
  · split at h
    · split at h
      · cases h; exact ⟨rfl, .inr ⟨_, _, _, _, rfl, by assumption, by assumption, rfl⟩⟩
      · cases h
    · cases h
  · cases h
theorem call_maxJ (hc : X.calm = true) : CallR X (.builtin "max") (xN (rc X fa) (aggD maxI)) := by
  intro pins s σ H xs us Q I rr ⟨p, S, ds, d, S', rs, rv, e, q⟩
  obtain ⟨rfl, ⟨i, j, rfl, rfl⟩ | ⟨l, ys, n, ns, rfl, e1, e2, rfl⟩⟩ := aggD_cases e
  · cases rv with
    | cons r1 r2 => cases r2 with
      | cons r2 r3 =>
        cases r3; cases r1; cases r2
        exact call_max2 hc pins s σ H _ us Q I rr ⟨i, j, rfl, at_once rs q (.int _)⟩
  · cases rv with
    | cons r1 r2 =>
      cases r2
      cases r1 with
      | loc h =>
        obtain ⟨vs, g1, g2⟩ := rs.list h e1
        have g3 := asInts_ok g2 e2
        subst g3
        refine cr_max hc pins s σ H _ us Q I rr ⟨_, n :: ns, rfl, .of g1, by simp, fun m hm hle => ?_⟩
        obtain ⟨h1, h2⟩ := maxI_mem (l := n :: ns) (by simp)
        have em : m = maxI (n :: ns) := Int.le_antisymm (h2 m hm) (hle _ h1)
        rw [em]
        exact at_once rs q (.int _)
theorem call_minJ (hc : X.calm = true) : CallR X (.builtin "min") (xN (rc X fa) (aggD minI)) := by
  intro pins s σ H xs us Q I rr ⟨p, S, ds, d, S', rs, rv, e, q⟩
  obtain ⟨rfl, ⟨i, j, rfl, rfl⟩ | ⟨l, ys, n, ns, rfl, e1, e2, rfl⟩⟩ := aggD_cases e
  · cases rv with
    | cons r1 r2 => cases r2 with
      | cons r2 r3 =>
        cases r3; cases r1; cases r2
        exact call_min2 hc pins s σ H _ us Q I rr ⟨i, j, rfl, at_once rs q (.int _)⟩
  · cases rv with
    | cons r1 r2 =>
      cases r2
      cases r1 with
      | loc h =>
        obtain ⟨vs, g1, g2⟩ := rs.list h e1
        have g3 := asInts_ok g2 e2
        subst g3
        refine cr_min hc pins s σ H _ us Q I rr ⟨_, n :: ns, rfl, .of g1, by simp, fun m hm hle => ?_⟩
        obtain ⟨h1, h2⟩ := minI_mem (l := n :: ns) (by simp)
        have em : m = minI (n :: ns) := Int.le_antisymm (hle _ h1) (h2 m hm)
        rw [em]
        exact at_once rs q (.int _)

/-! ### sum, all, any of a list -/
def sumD : Prim := fun ds S => match ds with
  | [.loc l] => match lstAt S l with
    | some xs => (asInts xs).map fun ns => (.int ns.sum, S)
    | none => none
  | _ => none
def quanD (f : List Bool → Bool) : Prim := fun ds S => match ds with
  | [.loc l] => match lstAt S l with
    | some xs => (asBls xs).map fun ns => (.bl (f ns), S)
    | none => none
  | _ => none
theorem call_sumJ (hc : X.calm = true) : CallR X (.builtin "sum") (xN (rc X fa) sumD) := by
  intro pins s σ H xs us Q I rr ⟨p, S, ds, d, S', rs, rv, e, q⟩
  unfold sumD at e
  split at e
  · split at e
    · rename_i ys e1
      obtain ⟨ns, e2, e3⟩ := map_some e
      cases e3
      cases rv with
      | cons r1 r2 =>
        cases r2
        cases r1 with
        | loc h =>
          obtain ⟨vs, g1, g2⟩ := rs.list h e1
          have g3 := asInts_ok g2 e2
          subst g3
          exact cr_sum hc pins s σ H _ us Q I rr ⟨_, ns, rfl, .of g1, at_once rs q (.int _)⟩
    · cases e
  · cases e
theorem call_allJ (hc : X.calm = true) : CallR X (.builtin "all") (xN (rc X fa) (quanD fun bs => bs.all id)) := by
  intro pins s σ H xs us Q I rr ⟨p, S, ds, d, S', rs, rv, e, q⟩
  unfold quanD at e
  split at e
  · split at e
    · rename_i ys e1
      obtain ⟨ns, e2, e3⟩ := map_some e
      cases e3
      cases rv with
      | cons r1 r2 =>
        cases r2
        cases r1 with
        | loc h =>
          obtain ⟨vs, g1, g2⟩ := rs.list h e1
          have g3 := asBls_ok g2 e2
          subst g3
          exact cr_all hc pins s σ H _ us Q I rr ⟨_, ns, rfl, .of g1, at_once rs q (.bl _)⟩
    · cases e
  · cases e
theorem call_anyJ (hc : X.calm = true) : CallR X (.builtin "any") (xN (rc X fa) (quanD fun bs => bs.any id)) := by
  intro pins s σ H xs us Q I rr ⟨p, S, ds, d, S', rs, rv, e, q⟩
  unfold quanD at e
  split at e
  · split at e
    · rename_i ys e1
      obtain ⟨ns, e2, e3⟩ := map_some e
      cases e3
      cases rv with
      | cons r1 r2 =>
        cases r2
        cases r1 with
        | loc h =>
          obtain ⟨vs, g1, g2⟩ := rs.list h e1
          have g3 := asBls_ok g2 e2
          subst g3
          exact cr_any hc pins s σ H _ us Q I rr ⟨_, ns, rfl, .of g1, at_once rs q (.bl _)⟩
    · cases e
  · cases e

/-! ### tuple(x), list(x) -/
def tupleD : Prim := fun ds S => match ds with
  | [.tup xs] => some (.tup xs, S)
  | [.scr xs] => mkTup xs S
  | [.loc l] => match lstAt S l with
    | some xs => mkTup xs S
    | none => none
  | _ => none
def listD : Prim := fun ds S => match ds with
  | [x] => match seqOf x S with
    | some xs => mkLst xs S
    | none => none
  | _ => none
theorem call_tupleJ : CallR X (.type "tuple") (xN (rc X fa) tupleD) := by
  intro pins s σ H xs us Q I rr ⟨p, S, ds, d, S', rs, rv, e, q⟩
  unfold tupleD at e
  split at e
  · cases e
    cases rv with
    | cons r1 r2 =>
      cases r2
      cases r1 with
      | tup s1 v1 => exact call_tuple_of pins s σ H _ us Q I rr ⟨_, _, rfl, .inr ⟨s1.sq, at_once rs q (.tup s1 v1)⟩⟩
  · cases rv with
    | cons r1 r2 =>
      cases r2
      cases r1 with
      | scr s1 v1 => exact call_tuple_of pins s σ H _ us Q I rr ⟨_, _, rfl, .inl ⟨s1.sq, (new_tup rs v1 e q).2⟩⟩
  · split at e
    · rename_i ys e1
      cases rv with
      | cons r1 r2 =>
        cases r2
        cases r1 with
        | loc h =>
          obtain ⟨vs, g1, g2⟩ := rs.list h e1
          exact call_tuple_of pins s σ H _ us Q I rr ⟨_, _, rfl, .inl ⟨.of g1, (new_tup rs g2 e q).2⟩⟩
    · cases e
  · cases e
theorem call_listJ : CallR X (.type "list") (xN (rc X fa) listD) := by
  intro pins s σ H xs us Q I rr ⟨p, S, ds, d, S', rs, rv, e, q⟩
  unfold listD at e
  split at e
  · split at e
    · rename_i ys e1
      cases rv with
      | cons r1 r2 =>
        cases r2
        obtain ⟨a, vs, rfl, h, g⟩ := seqOf_ok rs r1 e1
        exact call_list_of pins s σ H _ us Q I rr ⟨a, vs, rfl, h, (new_list rs g e q).2⟩
    · cases e
  · cases e
end
end Jm

set_option Elab.async false
set_option linter.all false
set_option maxRecDepth 100000
set_option maxHeartbeats 4000000
/-! Jm, part H: isinstance. -/
noncomputable section
namespace Jm
open PySem PySem.Spec PyProof.Rows L2
def tyOf (x : D) (S : Sto) : Option Tn := match x with
  | .non => some .none
  | .bl _ => some .bool
  | .int _ => some .int
  | .str _ => some .str
  | .tup _ => some .tuple
  | .scr _ => some .list
  | .loc l => match S[l]? with
    | some (.lst _) => some .list
    | some (.dct _) => some .dict
    | none => none
  | _ => none
def okT : Tn → Bool
  | .int => true | .bool => true | .str => true | .tuple => true | .list => true | .dict => true
  | _ => false
def subT (a b : Tn) : Bool := match a, b with
  | .int, .int => true
  | .bool, .bool => true
  | .bool, .int => true
  | .str, .str => true
  | .tuple, .tuple => true
  | .list, .list => true
  | .dict, .dict => true
  | _, _ => false
theorem kit_all (a b : Tn) (h : okT b = true) (ha : okT a = true ∨ a = .none) : kitB a.name b.name = some (subT a b) := by
  cases b <;> first | cases h | skip
  all_goals (cases a <;> first | decide +kernel | (exfalso; rcases ha with ha | ha <;> exact nomatch ha))
def tysOf : List D → Option (List Tn)
  | [] => some []
  | .ty t :: r => if okT t = true then (tysOf r).map (t :: ·) else none
  | _ :: _ => none
def instD : Prim := fun ds S => match ds with
  | [x, .ty t] => if okT t = true then (tyOf x S).map fun u => (.bl (subT u t), S) else none
  | [x, .tup cs] => match tysOf cs with
    | some ts => (tyOf x S).map fun u => (.bl (ts.any (subT u)), S)
    | none => none
  | _ => none
section
variable {X : Cx} {fa : Gl0}
theorem tyOf_ok {p : List Addr} {S : Sto} {H : Hp} {d : D} {v : V} {t : Tn} (rs : RS (rc X fa) p S H) (r : RV (rc X fa) p H d v) (h : tyOf d S = some t) : TyX X.K H v (.type t.name) ∧ (okT t = true ∨ t = .none) := by
  cases r with
  | non => cases h; exact ⟨.base .non, .inr rfl⟩
  | bl b => cases h; exact ⟨.base (.bl b), .inl rfl⟩
  | int b => cases h; exact ⟨.base (.int b), .inl rfl⟩
  | str b => cases h; exact ⟨.base (.str b), .inl rfl⟩
  | tup s v1 =>
    cases h
    refine ⟨?_, .inl rfl⟩
    rcases s with ⟨_, s | ⟨o, s⟩⟩ | ⟨o, its, n, hk, hc, _⟩
    · exact .base (.tup s)
    · exact .fTuple s
    · exact .kTuple hk hc
  | scr s v1 =>
    cases h
    refine ⟨?_, .inl rfl⟩
    rcases s with ⟨_, _, s | ⟨o, s⟩⟩ | ⟨o, its, n, hk, hc, _⟩
    · exact .base (.lst s)
    · exact .base (.frz s)
    · exact .kList hk hc
  | @loc l a e =>
    have h' : (match S[l]? with | some (.lst _) => some Tn.list | some (.dct _) => some Tn.dict | none => none) = some t := h
    cases e3 : S[l]? with
    | none => rw [e3] at h'; cases h'
    | some o =>
      rw [e3] at h'
      have ro := rs.at_ l o a e3 e
      cases o with
      | lst ys => obtain ⟨vs, g1, g2⟩ := ro; cases h'; exact ⟨.base (.lst g1), .inl rfl⟩
      | dct ys => obtain ⟨vs, g1, g2⟩ := ro; cases h'; exact ⟨.base (.dK g1), .inl rfl⟩
  | _ => exact nomatch h
theorem tysOf_ok {R : RC} {p : List Addr} {H : Hp} : ∀ {cs : List D} {vs : List V} {ts : List Tn}, RVs R p H cs vs → tysOf cs = some ts → vs = ts.map (fun t => V.ty t.name) ∧ ∀ t ∈ ts, okT t = true
  | _, _, _, .nil, h => by cases h; exact ⟨rfl, fun _ h => nomatch h⟩
  | _, _, ts, .cons r rs, h => by
    cases r with
    | ty t =>
      have h' : (if okT t = true then (tysOf _).map (t :: ·) else none) = some ts := h
      split at h'
      · rename_i ht
        obtain ⟨k, e1, e2⟩ := map_some h'
        subst e2
        obtain ⟨h1, h2⟩ := tysOf_ok rs e1
        refine ⟨by rw [h1]; rfl, fun u hu => ?_⟩
        rcases List.mem_cons.mp hu with rfl | hu
        · exact ht
        · exact h2 u hu
      · cases h'
    | _ => exact nomatch h
theorem kitAny_ty {K : PySem.W.Frag} {u : Tn} (hu : okT u = true ∨ u = .none) : ∀ {ts : List Tn}, (∀ t ∈ ts, okT t = true) → PySem.W.kitAny K (.type u.name) (ts.map fun t => Value.type t.name) = some (ts.any (subT u))
  | [], _ => rfl
  | t :: ts, h => by
    refine kitAny_cons (kit_ty (kit_all u t (h t List.mem_cons_self) hu)) (fun e => ?_) (fun e => ?_)
    · rw [List.any_cons, e, Bool.false_or]
      exact kitAny_ty hu fun t ht => h t (List.mem_cons_of_mem _ ht)
    · rw [List.any_cons, e, Bool.true_or]
theorem vals_ty : ∀ {ts : List Tn} {us : List Value}, Vals (ts.map fun t => V.ty t.name) us → us = ts.map fun t => Value.type t.name
  | [], _, .nil => rfl
  | t :: ts, _, .cons r rs => by
    have e : _ = Value.type t.name := r
    rw [e, vals_ty rs]; rfl
theorem call_isJ : CallR X (.builtin "isinstance") (xN (rc X fa) instD) := by
  intro pins s σ H xs us Q I rr ⟨p, S, ds, d, S', rs, rv, e, q⟩
  unfold instD at e
  split at e
  · split at e
    · rename_i x t ht
      obtain ⟨u, e1, e2⟩ := map_some e
      cases e2
      cases rv with
      | cons r1 r2 => cases r2 with
        | cons r2 r3 =>
          cases r3; cases r2
          obtain ⟨h1, h2⟩ := tyOf_ok rs r1 e1
          exact call_isi pins s σ H _ us Q I rr ⟨_, _, _, _, _, rfl, .ty _, h1, kit_ty (kit_all u t ht h2), at_once rs q (.bl _)⟩
    · cases e
  · split at e
    · rename_i x cs ts et
      obtain ⟨u, e1, e2⟩ := map_some e
      cases e2
      cases rv with
      | cons r1 r2 => cases r2 with
        | cons r2 r3 =>
          cases r3
          cases r2 with
          | @tup tp vs _ s1 v1 =>
            obtain ⟨h1, h2⟩ := tyOf_ok rs r1 e1
            obtain ⟨g1, g2⟩ := tysOf_ok v1 et
            subst g1
            obtain ⟨u1, u2, rfl, w1, w2⟩ := vals2 rr
            cases (show u2 = Value.ref tp from w2)
            obtain ⟨P, Z, pp, hx⟩ := kit_of I w1 h1
            obtain ⟨its, rv, ⟨o, ho, hc, n, hd⟩, _⟩ := I.tuple s1.sq
            have e3 := vals_ty rv
            subst e3
            obtain ⟨oc, od, dt, sl⟩ := o
            simp only at hc hd
            subst hc hd
            exact PySem.W.kia_tup Z I.kIn pp ho (kitAny_ty h2 g2) hx fun tk => ⟨.bl _, H, I.tok tk, rfl, at_once rs q (.bl _)⟩
    · cases e
  · cases e
end
end Jm

set_option Elab.async false
set_option linter.all false
set_option maxRecDepth 100000
set_option maxHeartbeats 4000000
/-! Jm, part I: statements, targets, loops, comprehensions. -/
noncomputable section
namespace Jm
open PySem PySem.Spec PyProof.Rows L2

/-! ### combinators -/
/-- an expression, then a statement -/
def sBnd {A : Type} (f : E A) (k : A → E Out) : E Out := fun n S => match f n S with
  | .ok a S' => k a n S'
  | .exc c fs S' => .ok (.er c fs n) S'
  | .bad => .bad
def sNil : E Out := fun n S => .ok (.nx n) S
def sThen (o : Out) (k : E Out) (S : Sto) : Res Out := match o with
  | .nx n => k n S
  | o => .ok o S
def sSeq (f g : E Out) : E Out := fun n S => rbind (f n S) fun o S' => sThen o g S'
def sIf (t : E Bool) (f g : E Out) : E Out := sBnd t fun b => if b = true then f else g
def sExp (f : E D) : E Out := sBnd f fun _ n S => .ok (.nx n) S
def sRet (f : E D) : E Out := sBnd f fun d _ S => .ok (.rt d) S
def sRetN : E Out := fun _ S => .ok (.rt .non) S
def sBrk : E Out := fun n S => .ok (.bk n) S
def sCnt : E Out := fun n S => .ok (.ct n) S
/-- a target: the slots behind it -/
abbrev G := D → En → Sto → Res En
def gNam (i : Nat) : G := fun d n S => .ok (n.set i (some d)) S
def gAll : List G → List D → En → Sto → Res En
  | [], [], n, S => .ok n S
  | g :: gs, d :: ds, n, S => rbind (g d n S) fun n' S' => gAll gs ds n' S'
  | _, _, _, _ => .bad
/-- an exception there is not reckoned with -/
def nox {A : Type} (r : Res A) : Res A := match r with
  | .exc _ _ _ => .bad
  | r => r
def gTupl (gs : List G) : G := fun d n S => match d with
  | .tup ds => if ds.length = gs.length then nox (gAll gs ds n S) else .bad
  | _ => .bad
/-- o[i] = d -/
def kvPut (kvs : List (Key × D)) (k : Key) (v : D) : List (Key × D) := if (kvs.any fun kv => decide (kv.1 = k)) = true then kvs.map (fun kv => if kv.1 = k then (kv.1, v) else kv) else kvs ++ [(k, v)]
def putSeq (l : Nat) (xs : List D) (i d : D) (S : Sto) : Option Sto := match i with
  | .int k => (ixN xs.length k).map fun j => S.set l (.lst (xs.set j d))
  | _ => none
def putKey (l : Nat) (kvs : List (Key × D)) (o : Option Key) (d : D) (S : Sto) : Option Sto := match o with
  | some k => if kvs.length < LINE then some (S.set l (.dct (kvPut kvs k d))) else none
  | none => none
def putD (o i d : D) (S : Sto) : Option Sto := match o with
  | .loc l => match S[l]? with
    | some (.lst xs) => putSeq l xs i d S
    | some (.dct kvs) => putKey l kvs (keyD i) d S
    | none => none
  | _ => none
def gSubs (fo fi : E D) : G := fun d n S => rbind (fo n S) fun o S1 => rbind (fi n S1) fun i S2 => match putD o i d S2 with
  | some S3 => .ok n S3
  | none => .bad
def sAsgn (f : E D) (g : G) : E Out := sBnd f fun d n S => match g d n S with
  | .ok n' S' => .ok (.nx n') S'
  | .exc c fs S' => .ok (.er c fs n) S'
  | .bad => .bad
/-- a, b = e1, e2 with plain local names: stored from the right -/
def sPar (i j : Nat) (f1 f2 : E D) : E Out := sBnd f1 fun d1 => sBnd f2 fun d2 n S => .ok (.nx ((n.set i (some d1)).set j (some d2))) S

/-! ### judgements -/
section
variable {X : Cx} {fa : Gl0} {W : WX} {st : Stmt} {sts : List Stmt} {e : Expr} {pos : Pos}
theorem impS {t t' : TS} (h : PS X st t) (m : ∀ D0 s H, t' D0 s H → t D0 s H) : PS X st t' := ⟨fun pins s σ H D0 I hw => h.run pins s σ H D0 I (m _ _ _ hw)⟩
theorem impSs {t t' : TS} (h : PSs X sts t) (m : ∀ D0 s H, t' D0 s H → t D0 s H) : PSs X sts t' := ⟨fun pins s σ H D0 I hw => h.run pins s σ H D0 I (m _ _ _ hw)⟩
abbrev NoW : Value → Option Addr → Hp → Prop := fun _ _ _ => False
/-- an expression first -/
theorem sE_of {A : Type} {R : RC} {f : E A} {k : A → E Out} {D0 : Ends} {s : L2.St} {H : Hp} {p : List Addr} {n : En} {S : Sto} {Q : A → List Addr → Sto → Hp → Prop}
    (rs : RS R p S H) (re : RE R p n s H) (h : Aft R p H (sBnd f k n S) (fun o p' S' H' => o.post R W D0 p' H') NoW)
    (m : ∀ d p1 S1 H1, RS R p1 S1 H1 → RE R p1 n s H1 → p <+: p1 → Tm p H p1 H1 → Aft R p1 H1 (k d n S1) (fun o p' S' H' => o.post R W D0 p' H') NoW → Q d p1 S1 H1) :
    Aft R p H (f n S) Q (fun c dd H' => W c dd s H') := by
  unfold sBnd at h
  cases e : f n S with
  | ok a S' =>
    rw [e] at h
    exact fun p1 H1 hp t rs1 => m a p1 S' H1 rs1 (re.mono hp t) hp t (Aft.later h hp t)
  | exc c fs S' =>
    rw [e] at h
    exact fun p1 H1 cls dd hp t rs1 x => h p1 H1 hp t rs1 s cls dd (re.mono hp t) x
  | bad => rw [e] at h; exact h
theorem f_snil : PSs X [] (xS (rc X fa) W sNil) := impSs pss_nil fun D0 s H ⟨p, n, S, rs, re, h⟩ => aft_ok rs h s re
theorem seq_in {f g : E Out} {D0 : Ends} {s : L2.St} {H : Hp} (h : xS (rc X fa) W (sSeq f g) D0 s H) : xS (rc X fa) W f { D0 with nx := xS (rc X fa) W g D0 } s H := by
  obtain ⟨p, n, S, rs, re, h⟩ := h
  refine ⟨p, n, S, rs, re, (Aft.bind h).imp (fun o p1 S1 H1 hp t rs1 h1 => ?_) fun _ _ _ w => w⟩
  cases o with
  | nx n' => exact fun s' re' => ⟨p1, n', S1, rs1, re', h1⟩
  | rt d => exact aft_ok rs1 h1
  | bk n' => exact aft_ok rs1 h1
  | ct n' => exact aft_ok rs1 h1
  | er c fs n' => exact aft_ok rs1 h1
theorem f_sseq {f g : E Out} (h1 : PS X st (xS (rc X fa) W f)) (h2 : PSs X sts (xS (rc X fa) W g)) : PSs X (st :: sts) (xS (rc X fa) W (sSeq f g)) := impSs (pss_cons h1 h2) fun D0 s H h => seq_in h
theorem f_sif {t : E Bool} {c : Expr} {a b : List Stmt} {f g : E Out} (hc : PT X c (xT (rc X fa) W t)) (ha : PSs X a (xS (rc X fa) W f)) (hb : PSs X b (xS (rc X fa) W g)) : PS X (.If c a b pos) (xS (rc X fa) W (sIf t f g)) :=
  impS (ps_if hc ha hb) fun D0 s H ⟨p, n, S, rs, re, h⟩ => ⟨p, n, S, rs, re, sE_of rs re h fun b p1 S1 H1 rs1 re1 hp t h1 => by
    cases b with
    | true => exact ⟨p1, n, S1, rs1, re1, h1⟩
    | false => exact ⟨p1, n, S1, rs1, re1, h1⟩⟩
theorem f_sexp {f : E D} (he : PE X e (xE (rc X fa) W f)) (hs : swapsWith e none pos.line X.env = pure false) : PS X (.Expr e pos) (xS (rc X fa) W (sExp f)) :=
  impS (ps_expr he hs) fun D0 s H ⟨p, n, S, rs, re, h⟩ => ⟨p, n, S, rs, re, sE_of rs re h fun d p1 S1 H1 rs1 re1 hp t h1 v rv => aft_ok rs1 h1 s re1⟩
theorem f_sdoc {x : Str} {j : Nat} {p2 : Pos} : PS X (.Expr (.Constant (.str x) j p2) pos) (xS (rc X fa) W sNil) := impS ps_doc fun D0 s H ⟨p, n, S, rs, re, h⟩ => aft_ok rs h s re
theorem f_sret {f : E D} (he : PE X e (xE (rc X fa) W f)) : PS X (.Return (some e) pos) (xS (rc X fa) W (sRet f)) :=
  impS (ps_ret he) fun D0 s H ⟨p, n, S, rs, re, h⟩ => ⟨p, n, S, rs, re, sE_of rs re h fun d p1 S1 H1 rs1 re1 hp t h1 v rv => aft_ok rs1 h1 v rv⟩
theorem f_sretn : PS X (.Return none pos) (xS (rc X fa) W sRetN) := impS ps_retN fun D0 s H ⟨p, n, S, rs, re, h⟩ => aft_ok rs h _ .non
theorem f_spass : PS X (.Pass pos) (xS (rc X fa) W sNil) := impS ps_pass fun D0 s H ⟨p, n, S, rs, re, h⟩ => aft_ok rs h s re
theorem f_sbrk : PS X (.Break pos) (xS (rc X fa) W sBrk) := impS ps_break fun D0 s H ⟨p, n, S, rs, re, h⟩ => aft_ok rs h s re
theorem f_scnt : PS X (.Continue pos) (xS (rc X fa) W sCnt) := impS ps_continue fun D0 s H ⟨p, n, S, rs, re, h⟩ => aft_ok rs h s re

/-! ### targets -/
/-- vs: the slots that it may store -/
def xG (R : RC) (W : WX) (vs : List Nat) (g : G) : TG := fun v s H Q => ∃ p n S d, RS R p S H ∧ RE R p n s H ∧ RV R p H d v ∧ Aft R p H (g d n S) (fun n' p' S' H' => ∀ s', RE R p' n' s' H' → wipe s' vs = wipe s vs → Q s' H') (fun c dd H' => W c dd s H')
def xGs (R : RC) (W : WX) (vs : List Nat) (gs : List G) : TGs := fun us s H Q => ∃ p n S ds, RS R p S H ∧ RE R p n s H ∧ RVs R p H ds us ∧ Aft R p H (gAll gs ds n S) (fun n' p' S' H' => ∀ s', RE R p' n' s' H' → wipe s' vs = wipe s vs → Q s' H') NoW
theorem impG {tg : Expr} {t t' : TG} (h : PG X tg t) (m : ∀ v s H Q, t' v s H Q → t v s H Q) : PG X tg t' := ⟨fun pins s σ H v u Q I r hw => h.run pins s σ H v u Q I r (m _ _ _ _ hw)⟩
theorem impGs {tg : List Expr} {t t' : TGs} (h : PGs X tg t) (m : ∀ v s H Q, t' v s H Q → t v s H Q) : PGs X tg t' := ⟨fun pins s σ H v u Q I r hw => h.run pins s σ H v u Q I r (m _ _ _ _ hw)⟩
theorem wipe_set {i : Nat} {v : Option V} : ∀ {vs : List Nat} {s : L2.St}, i ∈ vs → wipe (s.set i v) vs = wipe s vs
  | [], _, h => nomatch h
  | w :: vs, s, h => by
    show (wipe (s.set i v) vs).set w none = (wipe s vs).set w none
    by_cases hw : i ∈ vs
    · rw [wipe_set hw]
    · have e : i = w := by
        rcases List.mem_cons.mp h with h | h
        · exact h
        · exact absurd h hw
      subst e
      have out : ∀ {vs : List Nat} {s : L2.St}, i ∉ vs → wipe (s.set i v) vs = (wipe s vs).set i v := by
        intro vs
        induction vs with
        | nil => intro s _; rfl
        | cons w vs ih =>
          intro s hn
          have h1 : i ≠ w := fun z => hn (by rw [z]; exact List.mem_cons_self)
          have h2 : i ∉ vs := fun z => hn (List.mem_cons_of_mem _ z)
          show (wipe (s.set i v) vs).set w none = ((wipe s vs).set w none).set i v
          rw [ih h2, List.set_comm _ _ h1]
      rw [out hw, List.set_set]
theorem f_gnam {i : Nat} {x : Str} {vs : List Nat} (hN : X.N.Nodup) (hi : X.N[i]? = some x) (hx : Loc X.env.scope x) (hf : X.fn x = true ∨ X.env.scope.names.lookup x = some .local) (hv : i ∈ vs) : PG X (.Name x pos) (xG (rc X fa) W vs (gNam i)) :=
  impG (pg_name hN hi hx hf) fun v s H Q ⟨p, n, S, d, rs, re, rv, h⟩ => aft_ok rs h _ (re.set rv) (wipe_set hv)
theorem f_gnil {vs : List Nat} : PGs X [] (xGs (rc X fa) W vs []) := impGs pgs_nil fun us s H Q ⟨p, n, S, ds, rs, re, rv, h⟩ => by
  cases rv with
  | nil => exact ⟨rfl, aft_ok rs h _ re rfl⟩
  | cons _ _ => exact h.elim
theorem f_gcons {e : Expr} {es : List Expr} {g : G} {gs : List G} {vs : List Nat} (h1 : PG X e (xG (rc X fa) (fun _ _ _ _ => False) vs g)) (h2 : PGs X es (xGs (rc X fa) W vs gs))
    (hs : (assignEach (e :: es) X.env).map (·.2) = assign e X.env :: (assignEach es X.env).map (·.2)) : PGs X (e :: es) (xGs (rc X fa) W vs (g :: gs)) :=
  impGs (pgs_cons h1 h2 hs) fun us s H Q ⟨p, n, S, ds, rs, re, rv, h⟩ => by
    cases rv with
    | nil => exact h.elim
    | @cons d v ds us r rr =>
      refine ⟨v, us, rfl, p, n, S, d, rs, re, r, (Aft.bind h).imp (fun n' p1 S1 H1 hp t rs1 h1 s' re' hw => ?_) fun _ _ _ w => w⟩
      exact ⟨p1, n', S1, ds, rs1, re', rr.mono hp t, h1.imp (fun n2 p2 S2 H2 hp2 t2 rs2 q s2 re2 hw2 => q s2 re2 (hw2.trans hw)) fun _ _ _ w => w⟩
theorem aft_nox {A : Type} {R : RC} {p : List Addr} {H : Hp} {r : Res A} {Q : A → List Addr → Sto → Hp → Prop} {W1 W2 : Value → Option Addr → Hp → Prop} (h : Aft R p H (nox r) Q W1) : Aft R p H r Q W2 := by
  cases r with
  | ok a S => exact h
  | exc c fs S => exact h.elim
  | bad => exact h
theorem f_gtup {es : List Expr} {k : Nat} {gs : List G} {vs : List Nat} (hc : X.calm = true) (h : PGs X es (xGs (rc X fa) W vs gs)) (hl : gs.length = es.length)
    (hn : (assignEach es X.env).length = es.length) (hst : (assignEach es X.env).findIdx? (·.1) = none) : PG X (.Tuple es k pos) (xG (rc X fa) W vs (gTupl gs)) :=
  impG (pg_tup (n := es.length) hc h hn hst) fun v s H Q ⟨p, n, S, d, rs, re, rv, h⟩ => by
    cases rv with
    | @tup a xs ds s1 v1 =>
      have h : Aft (rc X fa) p H (if ds.length = gs.length then nox (gAll gs ds n S) else .bad) _ _ := h
      by_cases hq : ds.length = gs.length
      · rw [if_pos hq] at h
        exact ⟨a, xs, rfl, s1.sq, by rw [← v1.length, hq, hl], p, n, S, ds, rs, re, v1, aft_nox h⟩
      · rw [if_neg hq] at h
        exact h.elim
    | _ => exact h.elim
def xSet (R : RC) : TSet := fun o i v H Q => ∃ p S d1 d2 d S', RS R p S H ∧ RV R p H d1 o ∧ RV R p H d2 i ∧ RV R p H d v ∧ putD d1 d2 d S = some S' ∧ ∀ p' H', p <+: p' → Tm p H p' H' → RS R p' S' H' → Q H'
theorem kv_any {R : RC} {p : List Addr} {H : Hp} {k : Key} : ∀ {ds : List (Key × D)} {us : List (Key × V)}, Paired (fun (x : Key × D) (y : Key × V) => x.1 = y.1 ∧ RV R p H x.2 y.2) ds us → (ds.any fun kv => decide (kv.1 = k)) = us.any fun kv => decide (kv.1 = k)
  | _, _, .nil => rfl
  | _, _, .cons h t => by
    rw [List.any_cons, List.any_cons, h.1, kv_any t]
theorem kv_put {R : RC} {p : List Addr} {H : Hp} {k : Key} {d : D} {v : V} {ds : List (Key × D)} {us : List (Key × V)} (h : Paired (fun (x : Key × D) (y : Key × V) => x.1 = y.1 ∧ RV R p H x.2 y.2) ds us) (r : RV R p H d v) :
    Paired (fun (x : Key × D) (y : Key × V) => x.1 = y.1 ∧ RV R p H x.2 y.2) (kvPut ds k d) (putK us k v) := by
  unfold kvPut putK
  rw [kv_any h]
  by_cases c : (us.any fun kv => decide (kv.1 = k)) = true
  · rw [if_pos c, if_pos c]
    clear c
    induction h with
    | nil => exact .nil
    | cons h t ih =>
      refine .cons ?_ ih
      dsimp only
      rw [h.1]
      split
      · exact ⟨rfl, r⟩
      · exact ⟨h.1, h.2⟩
  · rw [if_neg c, if_neg c]
    clear c
    induction h with
    | nil => exact .cons ⟨rfl, r⟩ .nil
    | cons h t ih => exact .cons h ih
theorem set_J (hu : X.A.units + 65 < cLine) : PSet X (xSet (rc X fa)) := by
  intro pins s σ H o i v ov iv u Q I ro ri rv ⟨p, S, d1, d2, d, S', rs, r1, r2, r3, e, q⟩
  cases r1 with
  | @loc l a h =>
    have hm : a ∈ p := List.mem_of_getElem? h
    have e' : (match S[l]? with
      | some (.lst xs) => putSeq l xs d2 d S
      | some (.dct kvs) => putKey l kvs (keyD d2) d S
      | none => none) = some S' := e
    cases e3 : S[l]? with
    | none => rw [e3] at e'; cases e'
    | some ob =>
      rw [e3] at e'
      have ro' := rs.at_ l ob a e3 h
      cases ob with
      | lst xs =>
        obtain ⟨vs, g1, g2⟩ := ro'
        have e' : putSeq l xs d2 d S = some S' := e'
        cases r2 with
        | int k =>
          have e' : (ixN xs.length k).map (fun j => S.set l (.lst (xs.set j d))) = some S' := e'
          obtain ⟨j, e4, e5⟩ := map_some e'
          have T := Tm.mut (H := H) (o := .lst (vs.set j v)) hm
          refine set_list pins s σ H _ _ v ov iv u Q I ro ri rv ⟨a, vs, k, j, rfl, rfl, g1, by rw [← g2.length]; exact e4, q p _ (List.prefix_refl _) T ?_⟩
          rw [← e5]
          exact rs.put e3 h ⟨_, upd_same, (g2.mono (List.prefix_refl _) T).set (r3.mono (List.prefix_refl _) T) j⟩
        | _ => exact nomatch e'
      | dct kvs =>
        obtain ⟨us, g1, g2⟩ := ro'
        have e' : putKey l kvs (keyD d2) d S = some S' := e'
        cases e4 : keyD d2 with
        | none => rw [e4] at e'; cases e'
        | some k =>
          rw [e4] at e'
          have e' : (if kvs.length < LINE then some (S.set l (.dct (kvPut kvs k d))) else none) = some S' := e'
          split at e'
          · rename_i hl
            cases e'
            have hk := key_of r2 e4
            subst hk
            cases ro
            have T := Tm.mut (H := H) (o := .dK (putK us k v)) hm
            refine d_setItem (by omega) I (.k g1 (by rw [← paired_length g2, line_eq]; exact hl)) ri rv fun s' I' => ⟨_, I', q p _ (List.prefix_refl _) T ?_⟩
            refine rs.put e3 h ⟨_, upd_same, ?_⟩
            exact paired_imp (kv_put g2 r3) fun x y z => ⟨z.1, z.2.mono (List.prefix_refl _) T⟩
          · cases e'
  | _ => exact nomatch e
theorem assign_sub {o i : Expr} (h : noSlice i = true) (v : Value) : assign (.Subscript o i pos) X.env v = (do
      let ov ← holding [v] (eval o X.env)
      let iv ← holding [v, ov] (eval i X.env)
      standAt pos
      holding [v, ov, iv] (setItem ov iv v)
      release [v, ov, iv] []) := by
  cases i <;> first | rfl | cases h
theorem f_gsub {o i : Expr} {fo fi : E D} {vs : List Nat} (hu : X.A.units + 65 < cLine) (ho : PE X o (xE (rc X fa) W fo)) (hi : PE X i (xE (rc X fa) W fi)) (hs : noSlice i = true) : PG X (.Subscript o i pos) (xG (rc X fa) W vs (gSubs fo fi)) :=
  impG (pg_sub ho hi (set_J hu) (assign_sub hs)) fun v s H Q ⟨p, n, S, d, rs, re, rv, h⟩ => by
    have h : Aft (rc X fa) p H (eBnd fo (fun o => eBnd fi fun i n S2 => match putD o i d S2 with | some S3 => .ok n S3 | none => .bad) n S) _ _ := h
    exact xE_of rs re h fun d1 p1 S1 H1 v1 rs1 re1 hp t rv1 h1 => xE_of rs1 re1 h1 fun d2 p2 S2 H2 v2 rs2 re2 hp2 t2 rv2 h2 => by
      cases e : putD d1 d2 d S2 with
      | none => rw [e] at h2; exact h2.elim
      | some S3 =>
        rw [e] at h2
        exact ⟨p2, S2, d1, d2, d, S3, rs2, rv1.mono hp2 t2, rv2, (rv.mono hp t).mono hp2 t2, e, fun p3 H3 hp3 t3 rs3 => h2 p3 H3 hp3 t3 rs3 s (re2.mono hp3 t3) rfl⟩
theorem f_sasg {tg : Expr} {f : E D} {g : G} {vs : List Nat} (he : PE X e (xE (rc X fa) W f)) (hg : PG X tg (xG (rc X fa) W vs g)) (hs : swapsWithSole [tg] e pos.line X.env = pure false) (hw : swappedStores [tg] e X.env = pure none)
    (h1 : (assignEach [tg] X.env).map (·.2) = [assign tg X.env]) : PS X (.Assign [tg] e pos) (xS (rc X fa) W (sAsgn f g)) :=
  impS (ps_asg he hg hs hw h1) fun D0 s H ⟨p, n, S, rs, re, h⟩ => ⟨p, n, S, rs, re, sE_of rs re h fun d p1 S1 H1 rs1 re1 hp t h1 v rv => by
    refine ⟨p1, n, S1, d, rs1, re1, rv, ?_⟩
    cases e : g d n S1 with
    | ok n' S' =>
      rw [e] at h1
      exact fun p2 H2 hp2 t2 rs2 s' re' _ => h1 p2 H2 hp2 t2 rs2 s' re'
    | exc c fs S' =>
      rw [e] at h1
      exact fun p2 H2 cls dd hp2 t2 rs2 x => h1 p2 H2 hp2 t2 rs2 s cls dd (re1.mono hp2 t2) x
    | bad => rw [e] at h1; exact h1⟩
theorem f_spar {i j : Nat} {x y : Str} {a b : Expr} {f1 f2 : E D} {px py pt : Pos} {kt k2 : Nat} {pt2 : Pos} (hc : X.calm = true) (hN : X.N.Nodup) (hi : X.N[i]? = some x) (hj : X.N[j]? = some y) (hij : i ≠ j)
    (hx : X.env.scope.names.lookup x = some .local) (hy : X.env.scope.names.lookup y = some .local) (ha : PE X a (xE (rc X fa) W f1)) (hb : PE X b (xE (rc X fa) W f2))
    (h1 : starEach [a, b] X.env = (false, eval a X.env) :: starEach [b] X.env) (h2 : starEach [b] X.env = (false, eval b X.env) :: starEach [] X.env)
    (hw : swappedStores [.Tuple [.Name x px, .Name y py] kt pt] (.Tuple [a, b] k2 pt2) X.env = pure (some [x, y])) :
    PS X (.Assign [.Tuple [.Name x px, .Name y py] kt pt] (.Tuple [a, b] k2 pt2) pos) (xS (rc X fa) W (sPar i j f1 f2)) :=
  impS (ps_par hc hN hi hj hij hx hy (pa_cons ha (pa_cons hb pa_nil h2) h1) hw) fun D0 s H ⟨p, n, S, rs, re, h⟩ => ⟨p, n, S, rs, re, sE_of rs re h fun d p1 S1 H1 rs1 re1 hp t h1 v rv =>
    ⟨p1, n, S1, rs1, re1, sE_of rs1 re1 h1 fun d2 p2 S2 H2 rs2 re2 hp2 t2 h2 v2 rv2 => ⟨v, v2, rfl, aft_ok rs2 h2 _ ((re2.set (rv.mono hp2 t2)).set rv2)⟩⟩⟩
end
end Jm

set_option Elab.async false
set_option linter.all false
set_option maxRecDepth 100000
set_option maxHeartbeats 4000000
/-! Jm, part J: what is walked; for, while, list comprehensions. -/
noncomputable section
namespace Jm
open PySem PySem.Spec PyProof.Rows L2

/-! ### what is walked -/
/-- items that stay, or the list at a place of the store as it stands at each turn -/
inductive Src where
  | fix (tp : Bool) (xs : List D) | dyn (l : Nat)
def Src.get (s : Src) (S : Sto) : Option (List D) := match s with
  | .fix _ xs => some xs
  | .dyn l => lstAt S l
/-- is it a tuple -/
def Src.tp : Src → Bool
  | .fix b _ => b
  | .dyn _ => false
def srcOf : D → Option Src
  | .tup xs => some (.fix true xs)
  | .scr xs => some (.fix false xs)
  | .loc l => some (.dyn l)
  | _ => none
inductive Itn where
  | one (s : Src) | rev (s : Src) (n : Nat) | enum (s : Src) | zip (s t : Src) | rng (lo c : Int) (n : Nat) | str (x : Str)
/-- the turn's item; some none: it stops -/
def Itn.next (it : Itn) (i : Nat) (S : Sto) : Option (Option D) := match it with
  | .one s => (s.get S).map fun xs => xs[i]?
  | .rev s n => if i < n then match s.get S with
    | some xs => match xs[n - 1 - i]? with
      | some d => some (some d)
      | none => none
    | none => none
    else some none
  | .enum s => (s.get S).map fun xs => (xs[i]?).map fun d => .tup [.int (i : Nat), d]
  | .zip s t => match s.get S, t.get S with
    | some xs, some ys => match xs[i]?, ys[i]? with
      | some x, some y => some (some (.tup [x, y]))
      | _, _ => some none
    | _, _ => none
  | .rng lo c n => if i < n then some (some (.int (lo + (i : Nat) * c))) else some none
  | .str x => some ((x.cps[i]?).map fun c => .str ⟨#[c]⟩)
def FUEL : Nat := hid 1000000000
theorem FUEL_eq : FUEL = 1000000000 := hid_eq _
def loopF (it : Itn) (g : G) (body : E Out) : Nat → Nat → E Out
  | 0, _ => fun _ _ => .bad
  | m + 1, i => fun n S => match it.next i S with
    | none => .bad
    | some none => .ok (.nx n) S
    | some (some d) => match g d n S with
      | .ok n1 S1 => rbind (body n1 S1) fun o S2 => match o with
        | .nx n2 => loopF it g body m (i + 1) n2 S2
        | .ct n2 => loopF it g body m (i + 1) n2 S2
        | .bk n2 => .ok (.nx n2) S2
        | o => .ok o S2
      | .exc c fs S1 => .ok (.er c fs n) S1
      | .bad => .bad
def sFor (f : E Itn) (g : G) (body : E Out) : E Out := sBnd f fun it => loopF it g body FUEL 0
def whileF (t : E Bool) (body : E Out) : Nat → E Out
  | 0 => fun _ _ => .bad
  | m + 1 => sBnd t fun b => if b = true then fun n S => rbind (body n S) fun o S2 => match o with
    | .nx n2 => whileF t body m n2 S2
    | .ct n2 => whileF t body m n2 S2
    | .bk n2 => .ok (.nx n2) S2
    | o => .ok o S2
    else fun n S => .ok (.nx n) S
def sWhile (t : E Bool) (body : E Out) : E Out := whileF t body FUEL
/-- a list comprehension's items, behind the i-th turn -/
def lcF (it : Itn) (g : G) (t : E Bool) (elt : E D) (n : En) : Nat → Nat → List D → Sto → Res (List D)
  | 0, _, _, _ => .bad
  | m + 1, i, acc, S => match it.next i S with
    | none => .bad
    | some none => .ok acc S
    | some (some d) => rbind (g d n S) fun n1 S1 => rbind (t n1 S1) fun b S2 => if b = true then rbind (elt n1 S2) fun y S3 => if acc.length < LINE then lcF it g t elt n m (i + 1) (acc ++ [y]) S3 else .bad else lcF it g t elt n m (i + 1) acc S2
def wipeD (n : En) : List Nat → En
  | [] => n
  | v :: vs => (wipeD n vs).set v none
/-- vs: the slots of the block's own names; the first source is asked outside -/
def eLc (f : E Itn) (vs : List Nat) (g : G) (t : E Bool) (elt : E D) : E D := eBnd f fun it n S => rbind (nox (lcF it g t elt (wipeD n vs) FUEL 0 [] S)) fun ys S' => .ok (.loc S'.length) (S' ++ [.lst ys])
def tTru : E Bool := fun _ S => .ok true S

section
variable {X : Cx} {fa : Gl0} {W : WX} {st : Stmt} {sts : List Stmt} {e tg iter : Expr} {es : List Expr} {pos : Pos}
/-- the iterator J does what it says -/
structure ItOk (R : RC) (it : Itn) (J : It) (p : List Addr) (H : Hp) : Prop where
  stop : ∀ p' H' S', p <+: p' → Tm p H p' H' → RS R p' S' H' → ∀ i, it.next i S' = some none → J.stop i H'
  item : ∀ p' H' S', p <+: p' → Tm p H p' H' → RS R p' S' H' → ∀ i d, it.next i S' = some (some d) → J.go i H' ∧ ∀ x H2, J.yld i H' x H2 → Tm p' H' p' H2 ∧ RS R p' S' H2 ∧ RV R p' H2 d x
theorem ItOk.later {R : RC} {it : Itn} {J : It} {p p1 : List Addr} {H H1 : Hp} (h : ItOk R it J p H) (hp : p <+: p1) (t : Tm p H p1 H1) : ItOk R it J p1 H1 :=
  ⟨fun p' H' S' hp' t' rs => h.stop p' H' S' (hp.trans hp') (t.trans t') rs, fun p' H' S' hp' t' rs => h.item p' H' S' (hp.trans hp') (t.trans t') rs⟩
def xI (R : RC) (W : WX) (f : E Itn) : TI := fun s H Q => ∃ p n S, RS R p S H ∧ RE R p n s H ∧ Aft R p H (f n S) (fun it p' S' H' => ∀ J, ItOk R it J p' H' → Q J H') (fun c dd H' => W c dd s H')
theorem impI {t t' : TI} (h : PI X tg iter t) (m : ∀ s H Q, t' s H Q → t s H Q) : PI X tg iter t' := ⟨fun pins s σ H R I hw => h.run pins s σ H R I (m _ _ _ hw)⟩
/-- a source, by its value in HandS's heap: lists, or tuples -/
inductive SKind | lst | tup
def SrcK (R : RC) (p : List Addr) (H : Hp) (a : Addr) (s : Src) : SKind → Prop
  | .lst => (∃ ds vs, s = .fix false ds ∧ ScrAt R p H a vs ∧ RVs R p H ds vs) ∨ ∃ l, s = .dyn l ∧ p[l]? = some a
  | .tup => ∃ ds vs, s = .fix true ds ∧ TupAt R p H a vs ∧ RVs R p H ds vs
def Src.kd (s : Src) : SKind := if s.tp = true then .tup else .lst
theorem src_of {R : RC} {p : List Addr} {H : Hp} {d : D} {v : V} {s : Src} (r : RV R p H d v) (e : srcOf d = some s) : ∃ a, v = .ref a ∧ SrcK R p H a s s.kd := by
  cases r with
  | tup h q => cases e; exact ⟨_, rfl, _, _, rfl, h, q⟩
  | scr h q => cases e; exact ⟨_, rfl, .inl ⟨_, _, rfl, h, q⟩⟩
  | loc h => cases e; exact ⟨_, rfl, .inr ⟨_, rfl, h⟩⟩
  | _ => exact nomatch e
theorem SrcK.later {R : RC} {p p1 : List Addr} {H H1 : Hp} {a : Addr} {s : Src} {k : SKind} (h : SrcK R p H a s k) (hp : p <+: p1) (t : Tm p H p1 H1) : SrcK R p1 H1 a s k := by
  cases k with
  | lst =>
    rcases h with ⟨ds, vs, e, h, q⟩ | ⟨l, e, h⟩
    · exact .inl ⟨ds, vs, e, t.scr h, q.mono hp t⟩
    · exact .inr ⟨l, e, pre_get hp h⟩
  | tup =>
    obtain ⟨ds, vs, e, h, q⟩ := h
    exact ⟨ds, vs, e, t.tup h, q.mono hp t⟩
def SqK (K : PySem.W.Frag) (H : Hp) (a : Addr) (xs : List V) : SKind → Prop
  | .lst => SqL K H a xs
  | .tup => SqT K H a xs
theorem SrcK.get {R : RC} {p : List Addr} {S : Sto} {H : Hp} {a : Addr} {s : Src} {k : SKind} {xs : List D} (h : SrcK R p H a s k) (rs : RS R p S H) (e : s.get S = some xs) : ∃ vs, SqK R.K H a vs k ∧ RVs R p H xs vs := by
  cases k with
  | lst =>
    rcases h with ⟨ds, vs, rfl, h, q⟩ | ⟨l, rfl, h⟩
    · cases e; exact ⟨vs, h.sq, q⟩
    · obtain ⟨vs, g1, g2⟩ := rs.list h e
      exact ⟨vs, .of g1, g2⟩
  | tup =>
    obtain ⟨ds, vs, rfl, h, q⟩ := h
    cases e; exact ⟨vs, h.sq, q⟩
theorem none_len {R : RC} {p : List Addr} {H : Hp} {ds : List D} {vs : List V} {i : Nat} (r : RVs R p H ds vs) (e : ds[i]? = none) : vs.length ≤ i := by
  rw [← r.length]; exact List.getElem?_eq_none_iff.mp e

theorem it_oneL {R : RC} {p : List Addr} {H : Hp} {a : Addr} {s : Src} (h : SrcK R p H a s .lst) : ItOk R (.one s) (Itl R.K a) p H where
  stop := fun p' H' S' hp t rs i e => by
    obtain ⟨xs, e1, e2⟩ := map_some e
    obtain ⟨vs, g1, g2⟩ := (h.later hp t).get rs e1
    exact ⟨vs, g1, none_len g2 e2⟩
  item := fun p' H' S' hp t rs i d e => by
    obtain ⟨xs, e1, e2⟩ := map_some e
    obtain ⟨vs, g1, g2⟩ := (h.later hp t).get rs e1
    obtain ⟨v, h1, h2⟩ := g2.get e2
    refine ⟨⟨vs, v, g1, h1⟩, fun x H2 y => ?_⟩
    obtain ⟨rfl, y⟩ := y
    have z := y vs g1
    rw [h1] at z; cases z
    exact ⟨Tm.refl, rs, h2⟩
theorem it_oneT {R : RC} {p : List Addr} {H : Hp} {a : Addr} {s : Src} (h : SrcK R p H a s .tup) : ItOk R (.one s) (Itt R.K a) p H where
  stop := fun p' H' S' hp t rs i e => by
    obtain ⟨xs, e1, e2⟩ := map_some e
    obtain ⟨vs, g1, g2⟩ := (h.later hp t).get rs e1
    exact ⟨vs, g1, none_len g2 e2⟩
  item := fun p' H' S' hp t rs i d e => by
    obtain ⟨xs, e1, e2⟩ := map_some e
    obtain ⟨vs, g1, g2⟩ := (h.later hp t).get rs e1
    obtain ⟨v, h1, h2⟩ := g2.get e2
    refine ⟨⟨vs, v, g1, h1⟩, fun x H2 y => ?_⟩
    obtain ⟨rfl, y⟩ := y
    have z := y vs g1
    rw [h1] at z; cases z
    exact ⟨Tm.refl, rs, h2⟩
theorem rev_next {s : Src} {n i : Nat} {S : Sto} {o : Option D} (h : (Itn.rev s n).next i S = some o) : (¬ i < n ∧ o = none) ∨ (i < n ∧ ∃ xs d, s.get S = some xs ∧ xs[n - 1 - i]? = some d ∧ o = some d) := by
  have h' : (if i < n then match s.get S with
    | some xs => match xs[n - 1 - i]? with
      | some d => some (some d)
      | none => none
    | none => none
    else some none) = some o := h
  by_cases c : i < n
  · rw [if_pos c] at h'
    cases e : s.get S with
    | none => rw [e] at h'; cases h'
    | some xs =>
      rw [e] at h'
      dsimp only at h'
      cases e2 : xs[n - 1 - i]? with
      | none => rw [e2] at h'; cases h'
      | some d => rw [e2] at h'; cases h'; exact .inr ⟨c, xs, d, rfl, e2, rfl⟩
  · rw [if_neg c] at h'
    cases h'
    exact .inl ⟨c, rfl⟩
theorem it_revL {R : RC} {p : List Addr} {H : Hp} {a : Addr} {s : Src} {n : Nat} (h : SrcK R p H a s .lst) : ItOk R (.rev s n) (Itv R.K a n) p H where
  stop := fun p' H' S' hp t rs i e => by
    rcases rev_next e with ⟨c, _⟩ | ⟨_, _, _, _, _, z⟩
    · exact Nat.le_of_not_lt c
    · cases z
  item := fun p' H' S' hp t rs i d e => by
    rcases rev_next e with ⟨_, z⟩ | ⟨c, xs, d', e1, e2, z⟩
    · cases z
    · cases z
      obtain ⟨vs, g1, g2⟩ := (h.later hp t).get rs e1
      obtain ⟨v, h1, h2⟩ := g2.get e2
      refine ⟨⟨c, vs, v, g1, h1⟩, fun x H2 y => ?_⟩
      obtain ⟨rfl, y⟩ := y
      have z := y vs g1
      rw [h1] at z; cases z
      exact ⟨Tm.refl, rs, h2⟩
theorem it_revT {R : RC} {p : List Addr} {H : Hp} {a : Addr} {s : Src} {n : Nat} (h : SrcK R p H a s .tup) : ItOk R (.rev s n) (RT.ItvT R.K a n) p H where
  stop := fun p' H' S' hp t rs i e => by
    rcases rev_next e with ⟨c, _⟩ | ⟨_, _, _, _, _, z⟩
    · exact Nat.le_of_not_lt c
    · cases z
  item := fun p' H' S' hp t rs i d e => by
    rcases rev_next e with ⟨_, z⟩ | ⟨c, xs, d', e1, e2, z⟩
    · cases z
    · cases z
      obtain ⟨vs, g1, g2⟩ := (h.later hp t).get rs e1
      obtain ⟨v, h1, h2⟩ := g2.get e2
      refine ⟨⟨c, vs, v, g1, h1⟩, fun x H2 y => ?_⟩
      obtain ⟨rfl, y⟩ := y
      have z := y vs g1
      rw [h1] at z; cases z
      exact ⟨Tm.refl, rs, h2⟩
theorem it_rng {R : RC} {p : List Addr} {H : Hp} {lo : Int} {n : Nat} : ItOk R (.rng lo 1 n) (Itr lo n) p H where
  stop := fun p' H' S' hp t rs i e => by
    have e : (if i < n then some (some (D.int (lo + (i : Nat) * 1))) else some none) = some none := e
    by_cases c : i < n
    · rw [if_pos c] at e; cases e
    · exact Nat.le_of_not_lt c
  item := fun p' H' S' hp t rs i d e => by
    have e : (if i < n then some (some (D.int (lo + (i : Nat) * 1))) else some none) = some (some d) := e
    by_cases c : i < n
    · rw [if_pos c] at e; cases e
      refine ⟨c, fun x H2 y => ?_⟩
      obtain ⟨rfl, rfl⟩ := y
      rw [Int.mul_one]
      exact ⟨Tm.refl, rs, .int _⟩
    · rw [if_neg c] at e; cases e
theorem it_rngC {R : RC} {p : List Addr} {H : Hp} {lo c : Int} {n : Nat} : ItOk R (.rng lo c n) (Itc lo c n) p H where
  stop := fun p' H' S' hp t rs i e => by
    have e : (if i < n then some (some (D.int (lo + (i : Nat) * c))) else some none) = some none := e
    by_cases c : i < n
    · rw [if_pos c] at e; cases e
    · exact Nat.le_of_not_lt c
  item := fun p' H' S' hp t rs i d e => by
    have e : (if i < n then some (some (D.int (lo + (i : Nat) * c))) else some none) = some (some d) := e
    by_cases hc : i < n
    · rw [if_pos hc] at e; cases e
      refine ⟨hc, fun x H2 y => ?_⟩
      obtain ⟨rfl, rfl⟩ := y
      exact ⟨Tm.refl, rs, .int _⟩
    · rw [if_neg hc] at e; cases e
theorem it_str {R : RC} {p : List Addr} {H : Hp} {x : Str} : ItOk R (.str x) (Its x) p H where
  stop := fun p' H' S' hp t rs i e => by
    have e : some ((x.cps[i]?).map fun c => D.str ⟨#[c]⟩) = some none := e
    cases e2 : x.cps[i]? with
    | none => exact Array.getElem?_eq_none_iff.mp e2
    | some c => rw [e2] at e; cases e
  item := fun p' H' S' hp t rs i d e => by
    have e : some ((x.cps[i]?).map fun c => D.str ⟨#[c]⟩) = some (some d) := e
    cases e2 : x.cps[i]? with
    | none => rw [e2] at e; cases e
    | some c =>
      rw [e2] at e; cases e
      refine ⟨(Array.getElem?_eq_some_iff.mp e2).1, fun v H2 y => ?_⟩
      obtain ⟨rfl, c', e3, rfl⟩ := y
      rw [e2] at e3; cases e3
      exact ⟨Tm.refl, rs, .str _⟩
/-- a new tuple for each item -/
theorem new_item {R : RC} {p : List Addr} {S : Sto} {H : Hp} {T : Addr} {ds : List D} {vs : List V} (rs : RS R p S H) (n : H T = none) (r : RVs R p H ds vs) : Tm p H p (upd H T (.tup vs)) ∧ RS R p S (upd H T (.tup vs)) ∧ RV R p (upd H T (.tup vs)) (.tup ds) (.ref T) :=
  ⟨Tm.new n, rs.newT n, .tup (.inl ⟨rs.nin n, .inl upd_same⟩) (r.mono (List.prefix_refl _) (Tm.new n))⟩
theorem it_enum {R : RC} {p : List Addr} {H : Hp} {a : Addr} {s : Src} (h : SrcK R p H a s .lst) : ItOk R (.enum s) (Ite R.K a) p H where
  stop := fun p' H' S' hp t rs i e => by
    obtain ⟨xs, e1, e2⟩ := map_some e
    obtain ⟨vs, g1, g2⟩ := (h.later hp t).get rs e1
    refine ⟨vs, g1, none_len g2 ?_⟩
    cases e3 : xs[i]? with
    | none => rfl
    | some d => rw [e3] at e2; cases e2
  item := fun p' H' S' hp t rs i d e => by
    obtain ⟨xs, e1, e2⟩ := map_some e
    obtain ⟨vs, g1, g2⟩ := (h.later hp t).get rs e1
    obtain ⟨d0, e3, e4⟩ := map_some e2
    subst e4
    obtain ⟨v, h1, h2⟩ := g2.get e3
    refine ⟨⟨vs, v, g1, h1⟩, fun x H2 y => ?_⟩
    obtain ⟨T, x', rfl, hn, rfl, y⟩ := y
    have z := y vs g1
    rw [h1] at z; cases z
    exact new_item rs hn (.cons (.int _) (.cons h2 .nil))
theorem zip_next {s t : Src} {i : Nat} {S : Sto} {o : Option D} (h : (Itn.zip s t).next i S = some o) : ∃ xs ys, s.get S = some xs ∧ t.get S = some ys ∧ ((∃ x y, xs[i]? = some x ∧ ys[i]? = some y ∧ o = some (.tup [x, y])) ∨ ((xs[i]? = none ∨ ys[i]? = none) ∧ o = none)) := by
  have h' : (match s.get S, t.get S with
    | some xs, some ys => match xs[i]?, ys[i]? with
      | some x, some y => some (some (D.tup [x, y]))
      | _, _ => some none
    | _, _ => none) = some o := h
  cases e1 : s.get S with
  | none => rw [e1] at h'; cases h'
  | some xs =>
    cases e2 : t.get S with
    | none => rw [e1, e2] at h'; cases h'
    | some ys =>
      rw [e1, e2] at h'
      dsimp only at h'
      refine ⟨xs, ys, rfl, rfl, ?_⟩
      cases e3 : xs[i]? with
      | none => rw [e3] at h'; cases h'; exact .inr ⟨.inl rfl, rfl⟩
      | some x =>
        cases e4 : ys[i]? with
        | none => rw [e3, e4] at h'; cases h'; exact .inr ⟨.inr rfl, rfl⟩
        | some y => rw [e3, e4] at h'; cases h'; exact .inl ⟨x, y, rfl, rfl, rfl⟩
theorem it_zipL {R : RC} {p : List Addr} {H : Hp} {a b : Addr} {s t : Src} (ha : SrcK R p H a s .lst) (hb : SrcK R p H b t .lst) : ItOk R (.zip s t) (Itz R.K a b) p H where
  stop := fun p' H' S' hp tm rs i e => by
    obtain ⟨xs, ys, e1, e2, ⟨_, _, _, _, z⟩ | ⟨e3, _⟩⟩ := zip_next e
    · cases z
    · obtain ⟨vs, g1, g2⟩ := (ha.later hp tm).get rs e1
      obtain ⟨us, f1, f2⟩ := (hb.later hp tm).get rs e2
      rcases e3 with e3 | e3
      · exact ⟨vs, us, g1, f1, .inl (none_len g2 e3)⟩
      · exact ⟨vs, us, g1, f1, .inr (none_len f2 e3)⟩
  item := fun p' H' S' hp tm rs i d e => by
    obtain ⟨xs, ys, e1, e2, ⟨x, y, e3, e4, z⟩ | ⟨_, z⟩⟩ := zip_next e
    · cases z
      obtain ⟨vs, g1, g2⟩ := (ha.later hp tm).get rs e1
      obtain ⟨us, f1, f2⟩ := (hb.later hp tm).get rs e2
      obtain ⟨v, h1, h2⟩ := g2.get e3
      obtain ⟨u, k1, k2⟩ := f2.get e4
      refine ⟨⟨vs, us, v, u, g1, f1, h1, k1⟩, fun x H2 y => ?_⟩
      obtain ⟨T, x', y', rfl, hn, rfl, y1, y2⟩ := y
      have z := y1 vs g1
      rw [h1] at z; cases z
      have z := y2 us f1
      rw [k1] at z; cases z
      exact new_item rs hn (.cons h2 (.cons k2 .nil))
    · cases z
theorem it_zipT {R : RC} {p : List Addr} {H : Hp} {a b : Addr} {s t : Src} (ha : SrcK R p H a s .tup) (hb : SrcK R p H b t .tup) : ItOk R (.zip s t) (RZ.ItzT R.K a b) p H where
  stop := fun p' H' S' hp tm rs i e => by
    obtain ⟨xs, ys, e1, e2, ⟨_, _, _, _, z⟩ | ⟨e3, _⟩⟩ := zip_next e
    · cases z
    · obtain ⟨vs, g1, g2⟩ := (ha.later hp tm).get rs e1
      obtain ⟨us, f1, f2⟩ := (hb.later hp tm).get rs e2
      rcases e3 with e3 | e3
      · exact ⟨vs, us, g1, f1, .inl (none_len g2 e3)⟩
      · exact ⟨vs, us, g1, f1, .inr (none_len f2 e3)⟩
  item := fun p' H' S' hp tm rs i d e => by
    obtain ⟨xs, ys, e1, e2, ⟨x, y, e3, e4, z⟩ | ⟨_, z⟩⟩ := zip_next e
    · cases z
      obtain ⟨vs, g1, g2⟩ := (ha.later hp tm).get rs e1
      obtain ⟨us, f1, f2⟩ := (hb.later hp tm).get rs e2
      obtain ⟨v, h1, h2⟩ := g2.get e3
      obtain ⟨u, k1, k2⟩ := f2.get e4
      refine ⟨⟨vs, us, v, u, g1, f1, h1, k1⟩, fun x H2 y => ?_⟩
      obtain ⟨T, x', y', rfl, hn, rfl, y1, y2⟩ := y
      have z := y1 vs g1
      rw [h1] at z; cases z
      have z := y2 us f1
      rw [k1] at z; cases z
      exact new_item rs hn (.cons h2 (.cons k2 .nil))
    · cases z
end
end Jm

set_option Elab.async false
set_option linter.all false
set_option maxRecDepth 100000
set_option maxHeartbeats 4000000
/-! Jm, part K: sources of loops; for, while, list comprehensions. -/
noncomputable section
namespace Jm
open PySem PySem.Spec PyProof.Rows L2
/-- the source of a value and how many items it has -/
def srcLen (d : D) (S : Sto) : Option (Src × Nat) := match srcOf d with
  | some s => (s.get S).map fun xs => (s, xs.length)
  | none => none
def valIt (d : D) : E Itn := fun _ S => match d with
  | .str x => .ok (.str x) S
  | d => match srcLen d S with
    | some (s, _) => .ok (.one s) S
    | none => .bad
def iVal (f : E D) : E Itn := eBnd f valIt
def rng1 (ds : List D) : E Itn := fun _ S => match ds with
  | [.int j] => if -(hid (2 ^ 62)) ≤ j ∧ j < hid (2 ^ 62) then .ok (.rng 0 1 j.toNat) S else .bad
  | _ => .bad
def rng2 (ds : List D) : E Itn := fun _ S => match ds with
  | [.int i, .int j] => if -(hid (2 ^ 62)) ≤ i ∧ i < hid (2 ^ 62) ∧ -(hid (2 ^ 62)) ≤ j ∧ j < hid (2 ^ 62) then .ok (.rng i 1 (j - i).toNat) S else .bad
  | _ => .bad
def rng3 (ds : List D) : E Itn := fun _ S => match ds with
  | [.int i, .int j, .int c] => if c = -1 ∧ -(hid (2 ^ 62)) ≤ i ∧ i < hid (2 ^ 62) ∧ -(hid (2 ^ 62)) ≤ j ∧ j < hid (2 ^ 62) then .ok (.rng i (-1) (i - j).toNat) S else .bad
  | _ => .bad
def iRng (k : List D → E Itn) (fs : List (E D)) : E Itn := eBnd (eAll fs) k
def revIt (d : D) : E Itn := fun _ S => match srcLen d S with
  | some (s, n) => .ok (.rev s n) S
  | none => .bad
def enuIt (d : D) : E Itn := fun _ S => match srcLen d S with
  | some (s, _) => if s.tp = true then .bad else .ok (.enum s) S
  | none => .bad
def zipIt (d d' : D) : E Itn := fun _ S => match srcLen d S, srcLen d' S with
  | some (s, _), some (t, _) => if s.tp = t.tp then .ok (.zip s t) S else .bad
  | _, _ => .bad
def iRevd (f : E D) : E Itn := eBnd f revIt
def iEnum (f : E D) : E Itn := eBnd f enuIt
def iZip (f g : E D) : E Itn := eBnd f fun d => eBnd g fun d' => zipIt d d'
section
variable {X : Cx} {fa : Gl0} {W : WX} {st : Stmt} {sts : List Stmt} {e tg iter a b : Expr} {es : List Expr} {pos : Pos}

/-! ### values -/
def iAnyV (K : PySem.W.Frag) (te : TE) : TI := fun σ H R => te σ H fun x H1 => (∃ a xs, x = .ref a ∧ SqL K H1 a xs ∧ R (Itl K a) H1) ∨ (∃ a xs, x = .ref a ∧ SqT K H1 a xs ∧ R (Itt K a) H1) ∨ ∃ z, x = .str z ∧ R (Its z) H1
theorem pi_any {te : TE} (he : PE X e te) : PI X tg e (iAnyV X.K te) := by
  refine ⟨fun pins s σ H R I h => ?_⟩
  refine thn (he.run pins s σ H _ I h) fun v s1 ⟨x, H1, I1, r1, q1⟩ => ?_
  rcases q1 with ⟨a, xs, rfl, hq, q⟩ | ⟨a, xs, rfl, hq, q⟩ | ⟨z, rfl, q⟩
  · cases r1
    obtain ⟨its, rv, p, hz⟩ := I1.list hq
    refine wpAny_pyIter_list p.isList ?_
    refine ⟨s1.heap.objs.size, [s1.heap.objs.size], _, _, H1, rfl, I1.kept (t' := s1.toks) fun b o e => Heap.get?_push_of_some _ e, turn_list a _, ⟨_, Heap.get?_push_size _ rfl, rfl, rfl⟩, fun b hb => ?_, q⟩
    have e : b = s1.heap.objs.size := by simpa using hb
    subst e
    exact I1.fpOk (Nat.le_refl _) (I1.hok.fresh (Nat.le_refl _))
  · cases r1
    obtain ⟨its, rv, p, hz⟩ := I1.tuple hq
    refine wpAny_pyIter_tuple (show s1.heap.IsTuple a its.toArray from p) ?_
    refine ⟨s1.heap.objs.size, [s1.heap.objs.size], _, _, H1, rfl, I1.kept (t' := s1.toks) fun b o e => Heap.get?_push_of_some _ e, turn_tuple a _, ⟨_, Heap.get?_push_size _ rfl, rfl, rfl⟩, fun b hb => ?_, q⟩
    have e : b = s1.heap.objs.size := by simpa using hb
    subst e
    exact I1.fpOk (Nat.le_refl _) (I1.hok.fresh (Nat.le_refl _))
  · obtain ⟨t, rfl⟩ := r1
    cases ha : z.cps.all (· < 128)
    · exact wpAny_pyIter_wide ha (pi_one (tk := s1.toks) I1 _ (turn_str _ z t "str_iterator" (.inr rfl)) ⟨_, Heap.get?_push_size _ rfl, rfl, rfl⟩ q)
    · exact wpAny_pyIter_ascii ha (pi_one (tk := s1.toks) I1 _ (turn_str _ z t "str_ascii_iterator" (.inl rfl)) ⟨_, Heap.get?_push_size _ rfl, rfl, rfl⟩ q)
theorem srcLen_ok {p : List Addr} {S : Sto} {H : Hp} {d : D} {v : V} {s : Src} {n : Nat} (rs : RS (rc X fa) p S H) (rv : RV (rc X fa) p H d v) (e : srcLen d S = some (s, n)) : ∃ a vs, v = .ref a ∧ SrcK (rc X fa) p H a s s.kd ∧ SqK X.K H a vs s.kd ∧ vs.length = n := by
  unfold srcLen at e
  split at e
  · rename_i s' es
    obtain ⟨xs, e1, e2⟩ := map_some e
    cases e2
    obtain ⟨a, rfl, hk⟩ := src_of rv es
    obtain ⟨vs, g1, g2⟩ := hk.get rs e1
    exact ⟨a, vs, rfl, hk, g1, g2.length.symm⟩
  · cases e
theorem kd_tup {s : Src} (h : s.tp = true) : s.kd = .tup := if_pos h
theorem kd_lst {s : Src} (h : ¬ s.tp = true) : s.kd = .lst := if_neg h
theorem fi_val {f : E D} (he : PE X e (xE (rc X fa) W f)) : PI X tg e (xI (rc X fa) W (iVal f)) :=
  impI (pi_any he) fun s H Q ⟨p, n, S, rs, re, h⟩ => xE_of (g := valIt) rs re h fun d p1 S1 H1 v rs1 re1 hp t rv h1 => by
    unfold valIt at h1
    split at h1
    · cases rv
      exact .inr (.inr ⟨_, rfl, aft_ok rs1 h1 _ it_str⟩)
    · split at h1
      · rename_i s' n' es
        obtain ⟨a, vs, rfl, hk, g1, g2⟩ := srcLen_ok rs1 rv es
        generalize s'.kd = k at hk g1
        cases k with
        | lst => exact .inl ⟨a, vs, rfl, g1, aft_ok rs1 h1 _ (it_oneL hk)⟩
        | tup => exact .inr (.inl ⟨a, vs, rfl, g1, aft_ok rs1 h1 _ (it_oneT hk)⟩)
      · exact h1.elim
theorem fi_rev {f : E D} {q : Pos} (hg : Gl X "reversed") (hm : X.mg "reversed" = none) (he : PE X e (xE (rc X fa) W f)) (hs : starEach [e] X.env = (false, eval e X.env) :: starEach [] X.env) : PI X tg (.Call (.Name "reversed" q) [e] [] pos) (xI (rc X fa) W (iRevd f)) :=
  impI (RT.pi_revA hg hm he hs) fun s H Q ⟨p, n, S, rs, re, h⟩ => xE_of (g := revIt) rs re h fun d p1 S1 H1 v rs1 re1 hp t rv h1 => by
    unfold revIt at h1
    split at h1
    · rename_i s' n' es
      obtain ⟨a, vs, rfl, hk, g1, rfl⟩ := srcLen_ok rs1 rv es
      generalize s'.kd = k at hk g1
      cases k with
      | lst => exact ⟨a, vs, rfl, .inl ⟨g1, aft_ok rs1 h1 _ (it_revL hk)⟩⟩
      | tup => exact ⟨a, vs, rfl, .inr ⟨g1, aft_ok rs1 h1 _ (it_revT hk)⟩⟩
    · exact h1.elim
theorem fi_rng1 {fs : List (E D)} {q : Pos} (hg : Gl X "range") (hm : X.mg "range" = none) (he : PA X [a] (xA (rc X fa) W (eAll fs))) (hs : starEach [a] X.env = [(false, eval a X.env)]) : PI X tg (.Call (.Name "range" q) [a] [] pos) (xI (rc X fa) W (iRng rng1 fs)) :=
  impI (pi_range1 hg hm he hs) fun s H Q ⟨p, n, S, rs, re, h⟩ => xA_of (g := rng1) rs re h fun ds p1 S1 H1 vs rs1 re1 hp t rv h1 => by
    unfold rng1 at h1
    split at h1
    · split at h1
      · rename_i j hj
        rw [hid_eq] at hj
        cases rv with
        | cons r r2 =>
          cases r2; cases r
          exact ⟨j, rfl, hj.1, hj.2, aft_ok rs1 h1 _ it_rng⟩
      · exact h1.elim
    · exact h1.elim
theorem fi_rng2 {fs : List (E D)} {q : Pos} (hg : Gl X "range") (hm : X.mg "range" = none) (he : PA X [a, b] (xA (rc X fa) W (eAll fs))) (hs : starEach [a, b] X.env = [(false, eval a X.env), (false, eval b X.env)]) (hs2 : starEach [b] X.env = [(false, eval b X.env)]) : PI X tg (.Call (.Name "range" q) [a, b] [] pos) (xI (rc X fa) W (iRng rng2 fs)) :=
  impI (pi_range2 hg hm he hs hs2) fun s H Q ⟨p, n, S, rs, re, h⟩ => xA_of (g := rng2) rs re h fun ds p1 S1 H1 vs rs1 re1 hp t rv h1 => by
    unfold rng2 at h1
    split at h1
    · split at h1
      · rename_i i j hj
        rw [hid_eq] at hj
        cases rv with
        | cons r r2 => cases r2 with
          | cons r2 r3 =>
            cases r3; cases r; cases r2
            exact ⟨i, j, rfl, hj, aft_ok rs1 h1 _ it_rng⟩
      · exact h1.elim
    · exact h1.elim
theorem fi_rng3 {c : Expr} {fs : List (E D)} {q : Pos} (hg : Gl X "range") (hm : X.mg "range" = none) (he : PA X [a, b, c] (xA (rc X fa) W (eAll fs)))
    (h1 : starEach [a, b, c] X.env = (false, eval a X.env) :: starEach [b, c] X.env) (h2 : (backTo pos (starEach [b, c] X.env)).any (·.1) = false) : PI X tg (.Call (.Name "range" q) [a, b, c] [] pos) (xI (rc X fa) W (iRng rng3 fs)) :=
  impI (pi_range3 hg hm he h1 h2) fun s H Q ⟨p, n, S, rs, re, h⟩ => xA_of (g := rng3) rs re h fun ds p1 S1 H1 vs rs1 re1 hp t rv h1 => by
    unfold rng3 at h1
    split at h1
    · split at h1
      · rename_i i j c hj
        rw [hid_eq] at hj
        cases rv with
        | cons r r2 => cases r2 with
          | cons r2 r3 => cases r3 with
            | cons r3 r4 =>
              cases r4; cases r; cases r2; cases r3
              obtain ⟨rfl, g1, g2, g3, g4⟩ := hj
              exact ⟨i, j, -1, _, rfl, .neg g1 g2 g3 g4, aft_ok rs1 h1 _ it_rngC⟩
      · exact h1.elim
    · exact h1.elim
theorem fi_enum {f : E D} {q : Pos} {elts : List Expr} {kk : Nat} {tpos : Pos} (hg : Gl X "enumerate") (hm : X.mg "enumerate" = none) (he : PE X e (xE (rc X fa) W f)) (hs : starEach [e] X.env = [(false, eval e X.env)]) :
    PI X (.Tuple elts kk tpos) (.Call (.Name "enumerate" q) [e] [] pos) (xI (rc X fa) W (iEnum f)) :=
  impI (pi_enum hg hm (pa_cons he pa_nil hs) hs) fun s H Q ⟨p, n, S, rs, re, h⟩ => xE_of (g := enuIt) rs re h fun d p1 S1 H1 v rs1 re1 hp t rv h1 => by
    unfold enuIt at h1
    split at h1
    · rename_i s' n' es
      obtain ⟨a, vs, rfl, hk, g1, rfl⟩ := srcLen_ok rs1 rv es
      split at h1
      · exact h1.elim
      · rename_i ht
        rw [kd_lst ht] at hk g1
        exact ⟨a, vs, rfl, g1, aft_ok rs1 h1 _ (it_enum hk)⟩
    · exact h1.elim
theorem fi_zip {f g : E D} {q : Pos} {elts : List Expr} {kk : Nat} {tpos : Pos} (hg : Gl X "zip") (hm : X.mg "zip" = none) (ha : PE X a (xE (rc X fa) W f)) (hb : PE X b (xE (rc X fa) W g))
    (h1 : starEach [a, b] X.env = (false, eval a X.env) :: starEach [b] X.env) (h2 : starEach [b] X.env = (false, eval b X.env) :: starEach [] X.env) (hpl : (backTo pos (starEach [b] X.env)).any (·.1) = false) :
    PI X (.Tuple elts kk tpos) (.Call (.Name "zip" q) [a, b] [] pos) (xI (rc X fa) W (iZip f g)) :=
  impI (RZ.pi_zipA hg hm (pa_cons ha (pa_cons hb pa_nil h2) h1) h1 hpl) fun s H Q ⟨p, n, S, rs, re, h⟩ => xE_of rs re h fun d p1 S1 H1 v rs1 re1 hp t rv h1 => xE_of (g := zipIt d) rs1 re1 h1 fun d2 p2 S2 H2 v2 rs2 re2 hp2 t2 rv2 h2 => by
    unfold zipIt at h2
    split at h2
    · rename_i s' n' t' m' es et
      obtain ⟨a, vs, rfl, hk, g1, _⟩ := srcLen_ok rs2 (rv.mono hp2 t2) es
      obtain ⟨b, us, rfl, hk', g1', _⟩ := srcLen_ok rs2 rv2 et
      split at h2
      · rename_i htp
        by_cases hs : s'.tp = true
        · rw [kd_tup hs] at hk g1
          rw [kd_tup (htp ▸ hs)] at hk' g1'
          exact ⟨a, b, vs, us, rfl, .inr ⟨g1, g1', aft_ok rs2 h2 _ (it_zipT hk hk')⟩⟩
        · rw [kd_lst hs] at hk g1
          rw [kd_lst (htp ▸ hs)] at hk' g1'
          exact ⟨a, b, vs, us, rfl, .inl ⟨g1, g1', aft_ok rs2 h2 _ (it_zipL hk hk')⟩⟩
      · exact h2.elim
    · exact h2.elim
end
end Jm

set_option Elab.async false
set_option linter.all false
set_option maxRecDepth 100000
set_option maxHeartbeats 4000000
/-! Jm, part L: for, while, list comprehensions. -/
noncomputable section
namespace Jm
open PySem PySem.Spec PyProof.Rows L2
section
variable {X : Cx} {fa : Gl0} {W : WX} {st : Stmt} {sts : List Stmt} {e tg iter a b : Expr} {es : List Expr} {pos : Pos}
theorem f_for {f : E Itn} {g : G} {vs : List Nat} {body : List Stmt} {fb : E Out} (hp : PassesOwn (model X.prog X.w) X.A X.env X.xe) (hc : X.calm = true) (hi : PI X tg iter (xI (rc X fa) W f)) (hg : PG X tg (xG (rc X fa) W vs g)) (hb : PSs X body (xS (rc X fa) W fb))
    (hs : ∀ x, foldedSetIterable iter X.env x = pure x) : PS X (.For tg iter body [] pos) (xS (rc X fa) W (sFor f g fb)) :=
  impS (ps_for hp hc hi hg hb hs) fun D0 s H ⟨p, n, S, rs, re, h⟩ => ⟨p, n, S, rs, re, sE_of rs re h fun it p1 S1 H1 rs1 re1 hp1 t1 h1 J hJ => by
    refine ⟨fun i m s' H' => ∃ p' n' S', p1 <+: p' ∧ Tm p1 H1 p' H' ∧ RS (rc X fa) p' S' H' ∧ RE (rc X fa) p' n' s' H' ∧ Aft (rc X fa) p' H' (loopF it g fb m i n' S') (fun o p2 S2 H2 => o.post (rc X fa) W D0 p2 H2) NoW,
      ⟨FUEL, p1, n, S1, List.prefix_refl _, Tm.refl, rs1, re1, h1⟩, ?_⟩
    rintro i m s2 H2 ⟨p2, n2, S2, hp2, t2, rs2, re2, h2⟩
    cases m with
    | zero => exact h2.elim
    | succ m =>
      have h2 : Aft (rc X fa) p2 H2 (match it.next i S2 with
        | none => .bad
        | some none => .ok (.nx n2) S2
        | some (some d) => match g d n2 S2 with
          | .ok n1 S1 => rbind (fb n1 S1) fun o S2 => match o with
            | .nx n2 => loopF it g fb m (i + 1) n2 S2
            | .ct n2 => loopF it g fb m (i + 1) n2 S2
            | .bk n2 => .ok (.nx n2) S2
            | o => .ok o S2
          | .exc c fs S1 => .ok (.er c fs n2) S1
          | .bad => .bad) (fun o p2 S2 H2 => o.post (rc X fa) W D0 p2 H2) NoW := h2
      cases e : it.next i S2 with
      | none => rw [e] at h2; exact h2.elim
      | some o =>
        rw [e] at h2
        cases o with
        | none => exact .inl ⟨hJ.stop p2 H2 S2 hp2 t2 rs2 i e, aft_ok rs2 h2 s2 re2⟩
        | some d =>
          obtain ⟨hgo, hy⟩ := hJ.item p2 H2 S2 hp2 t2 rs2 i d e
          refine .inr ⟨hgo, fun s' H' => ∃ p' n' S', p1 <+: p' ∧ Tm p1 H1 p' H' ∧ RS (rc X fa) p' S' H' ∧ RE (rc X fa) p' n' s' H' ∧ Aft (rc X fa) p' H' (loopF it g fb m (i + 1) n' S') (fun o p2 S2 H2 => o.post (rc X fa) W D0 p2 H2) NoW,
            fun s' H' q => ⟨m, Nat.lt_succ_self _, q⟩, fun x H3 y => ?_⟩
          obtain ⟨t3, rs3, rv3⟩ := hy x H3 y
          have h3 := Aft.later h2 (List.prefix_refl _) t3
          refine ⟨p2, n2, S2, d, rs3, re2.mono (List.prefix_refl _) t3, rv3, ?_⟩
          dsimp only at h3
          cases eg : g d n2 S2 with
          | bad => rw [eg] at h3; exact h3.elim
          | exc c fs S4 =>
            rw [eg] at h3
            exact fun p4 H4 cls dd hp4 t4 rs4 x4 => h3 p4 H4 hp4 t4 rs4 s2 cls dd ((re2.mono (List.prefix_refl _) t3).mono hp4 t4) x4
          | ok n4 S4 =>
            rw [eg] at h3
            dsimp only at h3
            intro p4 H4 hp4 t4 rs4 s4 re4 _
            have hp14 := (hp2.trans hp4)
            have t14 := (t2.trans t3).trans t4
            refine ⟨p4, n4, S4, rs4, re4, (Aft.bind (Aft.later h3 hp4 t4)).imp (fun o p5 S5 H5 hp5 t5 rs5 h5 => ?_) fun _ _ _ w => w⟩
            cases o with
            | nx n5 => exact fun s5 re5 => ⟨p5, n5, S5, hp14.trans hp5, t14.trans t5, rs5, re5, h5⟩
            | ct n5 => exact fun s5 re5 => ⟨p5, n5, S5, hp14.trans hp5, t14.trans t5, rs5, re5, h5⟩
            | bk n5 => exact fun s5 re5 => aft_ok rs5 h5 s5 re5
            | rt d5 => exact aft_ok rs5 h5
            | er c fs n5 => exact aft_ok rs5 h5⟩
theorem f_while {c : Expr} {t : E Bool} {body : List Stmt} {fb : E Out} (hp : PassesOwn (model X.prog X.w) X.A X.env X.xe) (hc : PT X c (xT (rc X fa) W t)) (hb : PSs X body (xS (rc X fa) W fb)) : PS X (.While c body [] pos) (xS (rc X fa) W (sWhile t fb)) :=
  impS (ps_while hp hc hb) fun D0 s H ⟨p, n, S, rs, re, h⟩ => by
    refine ⟨fun m s' H' => ∃ p' n' S', RS (rc X fa) p' S' H' ∧ RE (rc X fa) p' n' s' H' ∧ Aft (rc X fa) p' H' (whileF t fb m n' S') (fun o p2 S2 H2 => o.post (rc X fa) W D0 p2 H2) NoW, ⟨FUEL, p, n, S, rs, re, h⟩, ?_⟩
    rintro m s2 H2 ⟨p2, n2, S2, rs2, re2, h2⟩
    cases m with
    | zero => exact h2.elim
    | succ m =>
      have h2 : Aft (rc X fa) p2 H2 (sBnd t (fun b => if b = true then fun n S => rbind (fb n S) fun o S2 => match o with
        | .nx n2 => whileF t fb m n2 S2
        | .ct n2 => whileF t fb m n2 S2
        | .bk n2 => .ok (.nx n2) S2
        | o => .ok o S2
        else fun n S => .ok (.nx n) S) n2 S2) (fun o p2 S2 H2 => o.post (rc X fa) W D0 p2 H2) NoW := h2
      refine ⟨p2, n2, S2, rs2, re2, sE_of rs2 re2 h2 fun b p3 S3 H3 rs3 re3 hp3 t3 h3 => ?_⟩
      cases b with
      | false => exact aft_ok rs3 h3 s2 re3
      | true =>
        rw [if_pos rfl] at h3 ⊢
        refine ⟨fun s' H' => ∃ p' n' S', RS (rc X fa) p' S' H' ∧ RE (rc X fa) p' n' s' H' ∧ Aft (rc X fa) p' H' (whileF t fb m n' S') (fun o p2 S2 H2 => o.post (rc X fa) W D0 p2 H2) NoW, fun s' H' q => ⟨m, Nat.lt_succ_self _, q⟩, ?_⟩
        refine ⟨p3, n2, S3, rs3, re3, (Aft.bind h3).imp (fun o p5 S5 H5 hp5 t5 rs5 h5 => ?_) fun _ _ _ w => w⟩
        cases o with
        | nx n5 => exact fun s5 re5 => ⟨p5, n5, S5, rs5, re5, h5⟩
        | ct n5 => exact fun s5 re5 => ⟨p5, n5, S5, rs5, re5, h5⟩
        | bk n5 => exact fun s5 re5 => aft_ok rs5 h5 s5 re5
        | rt d5 => exact aft_ok rs5 h5
        | er c fs n5 => exact aft_ok rs5 h5
theorem RE.wipes {R : RC} {p : List Addr} {n : En} {s : L2.St} {H : Hp} (r : RE R p n s H) : ∀ vs : List Nat, RE R p (wipeD n vs) (L2.wipe s vs) H
  | [] => r
  | v :: vs => (r.wipes vs).wipe
abbrev W0 : WX := fun _ _ _ _ => False
theorem wipe_in {i : Nat} : ∀ {vs : List Nat} {s : L2.St}, i ∈ vs → i < s.length → (L2.wipe s vs)[i]? = some none
  | [], _, h, _ => nomatch h
  | v :: vs, s, h, hl => by
    show ((L2.wipe s vs).set v none)[i]? = some none
    by_cases e : v = i
    · subst e
      exact List.getElem?_set_self (by rw [wipe_length]; exact hl)
    · rw [List.getElem?_set_ne e]
      rcases List.mem_cons.mp h with h | h
      · exact absurd h.symm e
      · exact wipe_in h hl
theorem wipe_wipe (s : L2.St) (vs : List Nat) : L2.wipe (L2.wipe s vs) vs = L2.wipe s vs := by
  apply List.ext_getElem?
  intro i
  by_cases h : i ∈ vs
  · by_cases hl : i < s.length
    · rw [wipe_in h hl, wipe_in h (by rw [wipe_length]; exact hl)]
    · rw [List.getElem?_eq_none (by rw [wipe_length, wipe_length]; omega), List.getElem?_eq_none (by rw [wipe_length]; omega)]
  · rw [wipe_out h]
theorem rbind_is {A B : Type} {r : Res A} {f : A → Sto → Res B} {b : B} {S : Sto} (h : rbind r f = .ok b S) : ∃ a S', r = .ok a S' ∧ f a S' = .ok b S := by
  cases r with
  | ok a S' => exact ⟨a, S', rfl, h⟩
  | exc c fs S' => cases h
  | bad => cases h
/- a tracked list that is neither the script nor of the store may change, and may become one of the store -/
mutual
theorem RV.upL {R : RC} {p : List Addr} {H : Hp} {q : Addr} {us : List V} {o : HO} (hq : H q = some (.lst us)) (ng : R.g ≠ some q) : ∀ {d : D} {v : V}, RV R p H d v → RV R p (upd H q o) d v
  | _, _, .non => .non
  | _, _, .bl b => .bl b
  | _, _, .int i => .int i
  | _, _, .str x => .str x
  | _, _, .ty n => .ty n
  | _, _, .tup s r => by
    refine .tup ?_ (RVs.upL hq ng r)
    rcases s with ⟨n, h | ⟨ob, h⟩⟩ | h
    · exact .inl ⟨n, .inl (by rw [upd_ne (ne_of h hq (fun z => nomatch z))]; exact h)⟩
    · exact .inl ⟨n, .inr ⟨ob, by rw [upd_ne (ne_of h hq (fun z => nomatch z))]; exact h⟩⟩
    · exact .inr h
  | _, _, .loc e => .loc e
  | _, _, .fn i => .fn i
  | _, _, .rng n e => .rng n (by rw [upd_ne (ne_of e hq (fun z => nomatch z))]; exact e)
  | _, _, .scr s r => by
    refine .scr ?_ (RVs.upL hq ng r)
    rcases s with ⟨g, n, h | ⟨ob, h⟩⟩ | h
    · exact .inl ⟨g, n, .inl (by rw [upd_ne (fun z => ng (by rw [← z]; exact g))]; exact h)⟩
    · exact .inl ⟨g, n, .inr ⟨ob, by rw [upd_ne (fun z => ng (by rw [← z]; exact g))]; exact h⟩⟩
    · exact .inr h
  | _, _, .exc e n h r => .exc e n (by rw [upd_ne (ne_of h hq (fun z => nomatch z))]; exact h) (RV.upL hq ng r)
  | _, _, .exc0 e => .exc0 e
theorem RVs.upL {R : RC} {p : List Addr} {H : Hp} {q : Addr} {us : List V} {o : HO} (hq : H q = some (.lst us)) (ng : R.g ≠ some q) : ∀ {ds : List D} {vs : List V}, RVs R p H ds vs → RVs R p (upd H q o) ds vs
  | _, _, .nil => .nil
  | _, _, .cons r rs => .cons (RV.upL hq ng r) (RVs.upL hq ng rs)
end
theorem RS.upL {R : RC} {p : List Addr} {S : Sto} {H : Hp} {q : Addr} {us : List V} {o : HO} (rs : RS R p S H) (hq : H q = some (.lst us)) (ng : R.g ≠ some q) (nq : q ∉ p) : RS R p S (upd H q o) :=
  ⟨rs.len, rs.nd, fun a e => by
    obtain ⟨n, u, h⟩ := rs.gt a e
    exact ⟨n, u, by rw [upd_ne (fun z => ng (by rw [← z]; exact e))]; exact h⟩, fun l ob a e1 e2 => by
    have ne : a ≠ q := fun z => nq (by rw [← z]; exact List.mem_of_getElem? e2)
    have ro := rs.at_ l ob a e1 e2
    cases ob with
    | lst ds => obtain ⟨vs, h1, h2⟩ := ro; exact ⟨vs, by rw [upd_ne ne]; exact h1, h2.upL hq ng⟩
    | dct kvs => obtain ⟨vs, h1, h2⟩ := ro; exact ⟨vs, by rw [upd_ne ne]; exact h1, paired_imp h2 fun x y z => ⟨z.1, z.2.upL hq ng⟩⟩⟩
mutual
theorem RV.adL {R : RC} {p : List Addr} {H : Hp} {q : Addr} {us : List V} (hq : H q = some (.lst us)) (ng : R.g ≠ some q) : ∀ {d : D} {v : V}, RV R p H d v → RV R (p ++ [q]) H d v
  | _, _, .non => .non
  | _, _, .bl b => .bl b
  | _, _, .int i => .int i
  | _, _, .str x => .str x
  | _, _, .ty n => .ty n
  | _, _, .tup s r => by
    refine .tup ?_ (RVs.adL hq ng r)
    have out : ∀ {a : Addr} {o : HO}, a ∉ p → H a = some o → o ≠ .lst us → a ∉ p ++ [q] := fun {a o} n h d z => by
      rcases List.mem_append.mp z with z | z
      · exact n z
      · exact ne_of h hq d (by simpa using z)
    rcases s with ⟨n, h | ⟨ob, h⟩⟩ | h
    · exact .inl ⟨out n h (fun z => nomatch z), .inl h⟩
    · exact .inl ⟨out n h (fun z => nomatch z), .inr ⟨ob, h⟩⟩
    · exact .inr h
  | _, _, .loc e => .loc (pre_get (pre_snoc _ _) e)
  | _, _, .fn i => .fn i
  | _, _, .rng n e => by
    refine .rng (fun z => ?_) e
    rcases List.mem_append.mp z with z | z
    · exact n z
    · exact ne_of e hq (fun z => nomatch z) (by simpa using z)
  | _, _, .scr s r => by
    refine .scr ?_ (RVs.adL hq ng r)
    rcases s with ⟨g, n, h⟩ | h
    · refine .inl ⟨g, fun z => ?_, h⟩
      rcases List.mem_append.mp z with z | z
      · exact n z
      · exact ng (by rw [← (show _ = q by simpa using z)]; exact g)
    · exact .inr h
  | _, _, .exc e n h r => by
    refine .exc e (fun z => ?_) h (RV.adL hq ng r)
    rcases List.mem_append.mp z with z | z
    · exact n z
    · exact ne_of h hq (fun z => nomatch z) (by simpa using z)
  | _, _, .exc0 e => .exc0 e
theorem RVs.adL {R : RC} {p : List Addr} {H : Hp} {q : Addr} {us : List V} (hq : H q = some (.lst us)) (ng : R.g ≠ some q) : ∀ {ds : List D} {vs : List V}, RVs R p H ds vs → RVs R (p ++ [q]) H ds vs
  | _, _, .nil => .nil
  | _, _, .cons r rs => .cons (RV.adL hq ng r) (RVs.adL hq ng rs)
end
/-- the reading of a comprehension's loop -/
theorem lc_in {f : E Itn} {g : G} {vs : List Nat} {t : E Bool} {elt : E D} {s : L2.St} {H : Hp} {Q : VK} (h : xE (rc X fa) W (eLc f vs g t elt) s H Q) :
    tLc (xI (rc X fa) W f) (xG (rc X fa) W0 vs g) (xT (rc X fa) W0 t) (xE (rc X fa) W0 elt) vs s H Q := by
  obtain ⟨p, n, S, rs, re, h⟩ := h
  refine ⟨p, n, S, rs, re, (Aft.bind h).imp (fun it p1 S1 H1 hp1 t1 rs1 h1 J hJ Dd hD => ?_) fun _ _ _ w => w⟩
  have re1 := (re.mono hp1 t1).wipes vs
  have nD : Dd ∉ p1 := rs1.nin hD
  have ngD : (rc X fa).g ≠ some Dd := rs1.ng hD
  have TD := Tm.new (p := p1) (o := .lst []) hD
  -- it comes to an end
  obtain ⟨ys, Sf, hr, hfin⟩ : ∃ ys Sf, lcF it g t elt (wipeD n vs) FUEL 0 [] S1 = .ok ys Sf ∧ ∀ p' H', p1 <+: p' → Tm p1 H1 p' H' → RS (rc X fa) p' (Sf ++ [.lst ys]) H' → ∀ v, RV (rc X fa) p' H' (.loc Sf.length) v → Q v H' := by
    have h1 : Aft (rc X fa) p1 H1 (rbind (nox (lcF it g t elt (wipeD n vs) FUEL 0 [] S1)) fun ys S' => .ok (.loc S'.length) (S' ++ [.lst ys])) (fun d p' S' H' => ∀ v, RV (rc X fa) p' H' d v → Q v H') (fun c dd H' => W c dd s H') := h1
    cases e : lcF it g t elt (wipeD n vs) FUEL 0 [] S1 with
    | ok ys Sf => rw [e] at h1; exact ⟨ys, Sf, rfl, h1⟩
    | exc c fs Sf => rw [e] at h1; exact h1.elim
    | bad => rw [e] at h1; exact h1.elim
  refine ⟨fun i m H' => ∃ p' S' acc us, p1 <+: p' ∧ Tm p1 H1 p' H' ∧ Dd ∉ p' ∧ H' Dd = some (.lst us) ∧ RVs (rc X fa) p' H' acc us ∧ RS (rc X fa) p' S' H' ∧ lcF it g t elt (wipeD n vs) m i acc S' = .ok ys Sf,
    ⟨FUEL, p1, S1, [], [], List.prefix_refl _, TD, nD, upd_same, .nil, rs1.newT hD, hr⟩, ?_⟩
  rintro i m H2 ⟨p2, S2, acc, us, hp2, t2, nD2, hD2, ra2, rs2, h2⟩
  cases m with
  | zero => cases h2
  | succ m =>
    have h2 : (match it.next i S2 with
      | none => .bad
      | some none => .ok acc S2
      | some (some d) => rbind (g d (wipeD n vs) S2) fun n1 S1 => rbind (t n1 S1) fun b S2 => if b = true then rbind (elt n1 S2) fun y S3 => if acc.length < LINE then lcF it g t elt (wipeD n vs) m (i + 1) (acc ++ [y]) S3 else .bad else lcF it g t elt (wipeD n vs) m (i + 1) acc S2) = Res.ok ys Sf := h2
    cases e : it.next i S2 with
    | none => rw [e] at h2; cases h2
    | some o =>
      rw [e] at h2
      cases o with
      | none =>
        refine .inl ⟨hJ.stop p2 H2 S2 hp2 t2 rs2 i e, ?_⟩
        cases h2
        refine hfin (p2 ++ [Dd]) H2 (hp2.trans (pre_snoc _ _)) (fun a u na ea => ?_) (rs2.adopt nD2 ⟨us, hD2, ra2.adL hD2 ngD⟩ ngD fun l o' a e1 e2 => ?_) _ (.loc ?_)
        · obtain ⟨n2, e2⟩ := t2 a u na ea
          refine ⟨fun z => ?_, e2⟩
          rcases List.mem_append.mp z with z | z
          · exact n2 z
          · have : a = Dd := by simpa using z
            subst this
            rw [hD] at ea; cases ea
        · have ro := rs2.at_ l o' a e1 e2
          cases o' with
          | lst ds => obtain ⟨vs, h1, h2⟩ := ro; exact ⟨vs, h1, h2.adL hD2 ngD⟩
          | dct kvs => obtain ⟨vs, h1, h2⟩ := ro; exact ⟨vs, h1, paired_imp h2 fun x y z => ⟨z.1, z.2.adL hD2 ngD⟩⟩
        · rw [← rs2.len]; simp
      | some d =>
        obtain ⟨hgo, hy⟩ := hJ.item p2 H2 S2 hp2 t2 rs2 i d e
        refine .inr ⟨hgo, fun H' => ∃ p' S' acc us, p1 <+: p' ∧ Tm p1 H1 p' H' ∧ Dd ∉ p' ∧ H' Dd = some (.lst us) ∧ RVs (rc X fa) p' H' acc us ∧ RS (rc X fa) p' S' H' ∧ lcF it g t elt (wipeD n vs) m (i + 1) acc S' = .ok ys Sf,
          fun H' q => ⟨m, Nat.lt_succ_self _, q⟩, fun x H3 y => ?_⟩
        obtain ⟨t3, rs3, rv3⟩ := hy x H3 y
        obtain ⟨n1, S4, eg, h3⟩ := rbind_is h2
        obtain ⟨b, S5, et, h4⟩ := rbind_is h3
        have pre := List.prefix_refl p2
        refine ⟨p2, wipeD n vs, S2, d, rs3, (re1.mono hp2 (t2.trans t3)), rv3, ?_⟩
        rw [eg]
        intro p4 H4 hp4 t4 rs4 s4 re4 hw4
        refine ⟨by rw [hw4, wipe_wipe], p4, n1, S4, rs4, re4, ?_⟩
        rw [et]
        intro p5 H5 hp5 t5 rs5
        have T25 := (t3.trans t4).trans t5
        have P25 := hp4.trans hp5
        cases b with
        | false =>
          have h4 : lcF it g t elt (wipeD n vs) m (i + 1) acc S5 = .ok ys Sf := h4
          show ∃ p' S' acc us, _
          obtain ⟨nD5, hD5⟩ := T25 Dd _ nD2 hD2
          exact ⟨p5, S5, acc, us, hp2.trans P25, t2.trans T25, nD5, hD5, ra2.mono P25 T25, rs5, h4⟩
        | true =>
          have h4 : rbind (elt n1 S5) (fun y S3 => if acc.length < LINE then lcF it g t elt (wipeD n vs) m (i + 1) (acc ++ [y]) S3 else .bad) = .ok ys Sf := h4
          obtain ⟨y', S6, ee, h5⟩ := rbind_is h4
          show xE (rc X fa) W0 elt s4 H5 _
          refine ⟨p5, n1, S5, rs5, re4.mono hp5 t5, ?_⟩
          rw [ee]
          intro p6 H6 hp6 t6 rs6 v rv6
          have T26 := T25.trans t6
          have P26 := P25.trans hp6
          obtain ⟨nD6, hD6⟩ := T26 Dd _ nD2 hD2
          have hlen : acc.length < LINE := by
            by_cases c : acc.length < LINE
            · exact c
            · rw [if_neg c] at h5
              cases h5
          rw [if_pos hlen] at h5
          have ra6 := ra2.mono P26 T26
          refine ⟨us, hD6, by rw [← ra2.length, line_eq]; exact hlen, p6, S6, acc ++ [y'], us ++ [v], hp2.trans P26, fun a u na ea => ?_, nD6, upd_same, (ra6.append (.cons rv6 .nil)).upL hD6 ngD, rs6.upL hD6 ngD nD6, h5⟩
          obtain ⟨n6, e6⟩ := (t2.trans T26) a u na ea
          refine ⟨n6, ?_⟩
          rw [upd_ne (fun z => ?_)]
          · exact e6
          · rw [z, hD] at ea; cases ea
end
end Jm

set_option Elab.async false
set_option linter.all false
set_option maxRecDepth 100000
set_option maxHeartbeats 4000000
/-! Jm, part M: methods of built-in types, calls of the module's defs, raise. -/
noncomputable section
namespace Jm
open PySem PySem.Spec PyProof.Rows L2

/-! ### methods -/
abbrev MPrim := D → List D → Sto → Option (D × Sto)
def chkT (t : Tn) (d : D) : E Unit := fun _ S => if tyOf d S = some t then .ok () S else .bad
def eMeth (t : Tn) (g : MPrim) (f : E D) (fs : List (E D)) : E D := eBnd f fun d => eBnd (chkT t d) fun _ => eBnd (eAll fs) fun ds _ S => lft (g d ds S)
def appendD : MPrim := fun d ds S => match d, ds with
  | .loc l, [y] => match lstAt S l with
    | some xs => if xs.length < LINE then some (.non, S.set l (.lst (xs ++ [y]))) else none
    | none => none
  | _, _ => none
def extendD : MPrim := fun d ds S => match d, ds with
  | .loc l, [.loc k] => match lstAt S l, lstAt S k with
    | some xs, some ys => if xs.length + ys.length ≤ LINE then some (.non, S.set l (.lst (xs ++ ys))) else none
    | _, _ => none
  | _, _ => none
def popD : MPrim := fun d ds S => match d, ds with
  | .loc l, [] => match lstAt S l with
    | some xs => (xs[xs.length - 1]?).map fun y => (y, S.set l (.lst xs.dropLast))
    | none => none
  | _, _ => none
def popAtD : MPrim := fun d ds S => match d, ds with
  | .loc l, [.int i] => match lstAt S l with
    | some xs => if -(2 ^ 63) ≤ i ∧ i < 2 ^ 63 then match ixN xs.length i with
      | some k => (xs[k]?).map fun y => (y, S.set l (.lst (xs.eraseIdx k)))
      | none => none else none
    | none => none
  | _, _ => none
section
variable {X : Cx} {fa : Gl0} {W : WX} {e o : Expr} {es : List Expr} {pos : Pos}
def xM (R : RC) (g : MPrim) : V → List V → Hp → VK → Prop := fun x xs H Q => ∃ p S d1 ds d S', RS R p S H ∧ RV R p H d1 x ∧ RVs R p H ds xs ∧ g d1 ds S = some (d, S') ∧ ∀ p' H', p <+: p' → Tm p H p' H' → RS R p' S' H' → ∀ v, RV R p' H' d v → Q v H'
theorem tyV_of {p : List Addr} {S : Sto} {H : Hp} {d : D} {v : V} {t : Tn} (rs : RS (rc X fa) p S H) (r : RV (rc X fa) p H d v) (h : tyOf d S = some t) (ht : t = .list ∨ t = .str ∨ t = .dict ∨ t = .int) : tyV X.K t.name v H := by
  cases r with
  | non => cases h; rcases ht with h | h | h | h <;> cases h
  | bl b => cases h; rcases ht with h | h | h | h <;> cases h
  | int b => cases h; rfl
  | str b => cases h; rfl
  | tup s v1 => cases h; rcases ht with h | h | h | h <;> cases h
  | scr s v1 => cases h; exact .inl ⟨rfl, _, s.sq⟩
  | @loc l a e =>
    have h' : (match S[l]? with | some (.lst _) => some Tn.list | some (.dct _) => some Tn.dict | none => none) = some t := h
    cases e3 : S[l]? with
    | none => rw [e3] at h'; cases h'
    | some o =>
      rw [e3] at h'
      have ro := rs.at_ l o a e3 e
      cases o with
      | lst ys => obtain ⟨vs, g1, g2⟩ := ro; cases h'; exact .inl ⟨rfl, vs, .of g1⟩
      | dct ys => obtain ⟨vs, g1, g2⟩ := ro; cases h'; exact .inr (.inr (.inl ⟨rfl, .inl ⟨vs, g1⟩⟩))
  | _ => exact nomatch h
theorem chk_in {t : Tn} {d : D} {n : En} {S : Sto} {B : Type} {f : Unit → E B} {R : RC} {p : List Addr} {H : Hp} {Q : B → List Addr → Sto → Hp → Prop} {W' : Value → Option Addr → Hp → Prop} (h : Aft R p H (eBnd (chkT t d) f n S) Q W') : tyOf d S = some t ∧ Aft R p H (f () n S) Q W' := by
  have h : Aft R p H (rbind (if tyOf d S = some t then .ok () S else .bad) fun a S' => f a n S') Q W' := h
  by_cases c : tyOf d S = some t
  · rw [if_pos c] at h; exact ⟨c, h⟩
  · rw [if_neg c] at h; exact h.elim
/-- a method of the type T -/
structure MtI (X : Cx) (fa : Gl0) (t : Tn) (name : Str) (g : MPrim) : Prop where
  ex : ∃ id : String, PlainAttrs t.name ∧ Slot t.name name id ∧ typeOf (.builtin id) = pure (.type "method_descriptor") ∧ MtR X id (xM (rc X fa) g)
  tn : t = .list ∨ t = .str ∨ t = .dict ∨ t = .int
theorem f_meth {t : Tn} {name : Str} {g : MPrim} {f : E D} {fs : List (E D)} {apos : Pos} (M : MtI X fa t name g) (ho : PE X o (xE (rc X fa) W f)) (ha : PA X (e :: es) (xA (rc X fa) W (eAll fs)))
    (hbase : attributeBase o name X.env (eval o X.env) = eval o X.env)
    (hfew : ((backTo pos (starEach (e :: es) X.env)).all (fun x => !x.1) && (backToKw pos (keywordEach [] X.env)).all (fun x => x.1.isSome)
      && decide ((e :: es).length + ([] : List Keyword).length + (if ([] : List Keyword).isEmpty then 0 else 1) < 30)) = true)
    (hline : (apos.endLine == pos.line) = true) (hs : starEach (e :: es) X.env = (false, eval e X.env) :: starEach es X.env) (hplain : (backTo pos (starEach es X.env)).any (·.1) = false) :
    PE X (.Call (.Attribute o name apos) (e :: es) [] pos) (xE (rc X fa) W (eMeth t g f fs)) := by
  obtain ⟨id, pa, slot, hty, hm⟩ := M.ex
  exact impE (pe_bm pa slot hty hm ho ha hbase hfew hline hs hplain) fun s H Q ⟨p, n, S, rs, re, h⟩ => xE_of rs re h fun d p1 S1 H1 v rs1 re1 hp tm rv h1 => by
    obtain ⟨ht, h2⟩ := chk_in h1
    refine ⟨tyV_of rs1 rv ht M.tn, xA_of rs1 re1 h2 fun ds p2 S2 H2 vs rs2 re2 hp2 t2 rvs h3 => ?_⟩
    obtain ⟨d3, S3, e3, h4⟩ := aft_lft h3
    exact ⟨p2, S2, d, ds, d3, S3, rs2, rv.mono hp2 t2, rvs, e3, h4⟩
theorem f_meth0 {t : Tn} {name : Str} {g : MPrim} {f : E D} {apos : Pos} (M : MtI X fa t name g) (ho : PE X o (xE (rc X fa) W f))
    (hbase : attributeBase o name X.env (eval o X.env) = eval o X.env) (hline : (apos.endLine == pos.line) = true) :
    PE X (.Call (.Attribute o name apos) [] [] pos) (xE (rc X fa) W (eMeth t g f [])) := by
  obtain ⟨id, pa, slot, hty, hm⟩ := M.ex
  exact impE (pe_bm0 pa slot hty hm ho hbase hline) fun s H Q ⟨p, n, S, rs, re, h⟩ => xE_of rs re h fun d p1 S1 H1 v rs1 re1 hp tm rv h1 => by
    obtain ⟨ht, h2⟩ := chk_in h1
    refine ⟨tyV_of rs1 rv ht M.tn, ?_⟩
    obtain ⟨d3, S3, e3, h4⟩ := aft_lft (show Aft (rc X fa) p1 H1 (lft (g d [] S1)) _ _ from h2)
    exact ⟨p1, S1, d, [], d3, S3, rs1, rv, .nil, e3, h4⟩
theorem put_list {p : List Addr} {S : Sto} {H : Hp} {l : Nat} {a : Addr} {xs ys : List D} {us : List V} {d : D} {v : V} {Q : VK} (rs : RS (rc X fa) p S H) (h : p[l]? = some a) (e : lstAt S l = some xs) (ry : RVs (rc X fa) p H ys us) (rd : RV (rc X fa) p H d v)
    (q : ∀ p' H', p <+: p' → Tm p H p' H' → RS (rc X fa) p' (S.set l (.lst ys)) H' → ∀ v, RV (rc X fa) p' H' d v → Q v H') : Q v (upd H a (.lst us)) := by
  have T := Tm.mut (H := H) (o := .lst us) (List.mem_of_getElem? h)
  have pre := List.prefix_refl p
  exact q p _ pre T (rs.put (lstAt_of e) h ⟨us, upd_same, ry.mono pre T⟩) v (rd.mono pre T)
theorem m_append : MtI X fa .list "append" appendD := by
  refine ⟨⟨"list.append", PySem.F.plainAttrs_list, PySem.F.slot_list_append, PySem.F.type_list_append, fun pins s σ H x xs v us Q I rx rr ⟨p, S, d1, ds, d, S', rs, r1, rv, e, q⟩ => ?_⟩, .inl rfl⟩
  unfold appendD at e
  split at e
  · split at e
    · split at e
      · rename_i l y ys el hl
        cases e
        cases r1 with
        | loc h =>
          cases rv with
          | cons r2 r3 =>
            cases r3
            obtain ⟨vs, g1, g2⟩ := rs.list h el
            exact mt_append pins s σ H _ _ v us Q I rx rr ⟨_, vs, _, rfl, rfl, g1, by rw [← g2.length, line_eq]; exact hl, put_list rs h el (g2.append (.cons r2 .nil)) .non q⟩
      · cases e
    · cases e
  · cases e
theorem m_extend : MtI X fa .list "extend" extendD := by
  refine ⟨⟨"list.extend", PySem.F.plainAttrs_list, PySem.F.slot_list_extend, PySem.F.type_list_extend, fun pins s σ H x xs v us Q I rx rr ⟨p, S, d1, ds, d, S', rs, r1, rv, e, q⟩ => ?_⟩, .inl rfl⟩
  unfold extendD at e
  split at e
  · split at e
    · split at e
      · rename_i l k ys zs el ek hl
        cases e
        cases r1 with
        | loc h =>
          cases rv with
          | cons r2 r3 =>
            cases r3
            cases r2 with
            | loc h' =>
              obtain ⟨vs, g1, g2⟩ := rs.list h el
              obtain ⟨ws, f1, f2⟩ := rs.list h' ek
              exact mt_extend pins s σ H _ _ v us Q I rx rr ⟨_, _, vs, ws, rfl, rfl, g1, f1, by rw [← g2.length, ← f2.length, line_eq]; exact hl, put_list rs h el (g2.append f2) .non q⟩
      · cases e
    · cases e
  · cases e
theorem m_pop : MtI X fa .list "pop" popD := by
  refine ⟨⟨"list.pop", PySem.F.plainAttrs_list, PySem.F.slot_list_pop, PySem.F.type_list_pop, fun pins s σ H x xs v us Q I rx rr ⟨p, S, d1, ds, d, S', rs, r1, rv, e, q⟩ => ?_⟩, .inl rfl⟩
  unfold popD at e
  split at e
  · split at e
    · rename_i l ys el
      obtain ⟨y, e1, e2⟩ := map_some e
      cases e2
      cases r1 with
      | loc h =>
        cases rv
        obtain ⟨vs, g1, g2⟩ := rs.list h el
        obtain ⟨z, z1, z2⟩ := g2.get e1
        exact mt_pop pins s σ H _ _ v us Q I rx rr ⟨_, vs, z, rfl, rfl, g1, by rw [← g2.length]; exact z1, put_list rs h el g2.dropLast z2 q⟩
    · cases e
  · cases e
end
end Jm

set_option Elab.async false
set_option linter.all false
set_option maxRecDepth 100000
set_option maxHeartbeats 4000000
/-! Jm, part N: calls of the module's defs; list comprehensions as rules. -/
noncomputable section
namespace Jm
open PySem PySem.Spec PyProof.Rows L2
/-- what the module's defs and classes do, by their numbers -/
abbrev CF := Nat → List D → M D
def eCall (m : List D → M D) (fs : List (E D)) : E D := eBnd (eAll fs) fun ds _ S => m ds S
def arr {A : Type} (ix : List Nat) (xs : List A) : List A := ix.filterMap fun i => xs[i]?
def eCallK (m : List D → M D) (n k : Nat) (ix : List Nat) (fs ks : List (E D)) : E D := eBnd (eAll fs) fun ds => eBnd (eAll ks) fun es _ S => if ds.length = n ∧ es.length = k then m (arr ix (ds ++ es)) S else .bad
def spF (R : RC) (m : List D → M D) : Sp := fun vs H Q E => ∃ p S ds, RS R p S H ∧ RVs R p H ds vs ∧ Aft R p H (m ds S) (fun d p' S' H' => ∀ v, RV R p' H' d v → Q v H') E
theorem vals_arr {vs : List V} {us : List Value} (r : Vals vs us) : ∀ ix : List Nat, Vals (arr ix vs) (arr ix us)
  | [] => .nil
  | i :: ix => by
    have ih := vals_arr r ix
    unfold arr at ih ⊢
    cases e : vs[i]? with
    | none =>
      have e2 : us[i]? = none := by
        rw [List.getElem?_eq_none_iff] at e ⊢
        rw [← r.length]; exact e
      simp [List.filterMap_cons, e, e2]
      exact ih
    | some v =>
      obtain ⟨u, hu, rv⟩ := r.get e
      simp [List.filterMap_cons, e, hu]
      exact .cons rv ih
theorem RVs.arr {R : RC} {p : List Addr} {H : Hp} {ds : List D} {vs : List V} (r : RVs R p H ds vs) : ∀ ix : List Nat, RVs R p H (Jm.arr ix ds) (Jm.arr ix vs)
  | [] => .nil
  | i :: ix => by
    have ih := RVs.arr r ix
    unfold Jm.arr at ih ⊢
    cases e : ds[i]? with
    | none =>
      have e2 : vs[i]? = none := by
        rw [List.getElem?_eq_none_iff] at e ⊢
        rw [← r.length]; exact e
      simp [List.filterMap_cons, e, e2]
      exact ih
    | some v =>
      obtain ⟨u, hu, rv⟩ := r.get e
      simp [List.filterMap_cons, e, hu]
      exact .cons rv ih
/-- the keywords' values -/
def xP (R : RC) (W : WX) (f : E (List D)) : TA := xA R W f
section
variable {X : Cx} {fa : Gl0} {W : WX} {e : Expr} {es : List Expr} {pos : Pos} {k : Nat} {f : Addr} {fd : FuncData} {ps ks : List Str} {x : Str} {m : List D → M D} {fs gs : List (E D)} {p : Pos}
theorem f_call (F : FnOk X.prog X.w X.K X.mg X.base (L2.CX X.prog X.w) k f fd ps (spF (rc X fa) m)) (tk : Takes X W) (hr : Room k X.A) (hg : Gl X x) (hm : X.mg x = some (.ref f)) (hk : PySem.W.keepIn X.K (.ref f) = true) (hb : Binds X.K fd ps [])
    (ha : PA X (e :: es) (xA (rc X fa) W (eAll fs))) (hdb : (x == ("__debug__" : Str)) = false) (he : starEach (e :: es) X.env = (false, eval e X.env) :: starEach es X.env) (hpl : (backTo pos (starEach es X.env)).any (·.1) = false) :
    PE X (.Call (.Name x p) (e :: es) [] pos) (xE (rc X fa) W (eCall m fs)) :=
  impE (pe_callS (E := WE W) F hr hg hm hk hb (passAt tk) ha hdb he hpl) fun s H Q ⟨p, n, S, rs, re, h⟩ => xA_of rs re h fun ds p1 S1 H1 vs rs1 re1 hp t rv h1 => ⟨p1, S1, ds, rs1, rv, h1⟩
theorem f_call0 (F : FnOk X.prog X.w X.K X.mg X.base (L2.CX X.prog X.w) k f fd ps (spF (rc X fa) m)) (tk : Takes X W) (hr : Room k X.A) (hg : Gl X x) (hm : X.mg x = some (.ref f)) (hk : PySem.W.keepIn X.K (.ref f) = true) (hb : Binds X.K fd ps [])
    (hdb : (x == ("__debug__" : Str)) = false) : PE X (.Call (.Name x p) [] [] pos) (xE (rc X fa) W (eCall m [])) := by
  refine ⟨fun pins s σ H Q I h => ?_⟩
  refine wpAny_Call_Name_kw (ld_glob I hg hm ?_ hdb)
  obtain ⟨p, n, S, rs, re, h⟩ := h
  exact PySem.W.callWith_K0 I.kIn hk (run_fnS (E := WE W) (us := []) F hr hb (passAt tk σ) I .nil ⟨p, S, [], rs, .nil, h⟩)
theorem run_fnSN {CX : CXT} {n : Nat} {sp : Sp} {E : L2.St → XK} {g : List Value → List Value → List Value} {gV : List V → List V → List V} {pins : List (Addr × Obj)} {σ : L2.St} {H : Hp} {s : Shared} {Q : VK} {us ws : List Value} {vs zs : List V} (F : FnOk X.prog X.w X.K X.mg X.base CX k f fd ps sp) (hr : Room k X.A) (hb : KBn X.K fd ps n ks g gV) (hx : PassesAt CX X σ (E σ))
    (I : Inv X pins σ H s) (r : Vals vs us) (rz : Vals zs ws) (l1 : vs.length = n) (l2 : zs.length = ks.length) (h : sp (gV vs zs) H Q (E σ)) : wpAny (model X.prog X.w) X.A (call (.ref f) us (ks.zip ws)) (EP X pins σ Q) X.xe s := by
  have r2 := hb.rel r rz
  refine wpAny_call (codeAny_mono (F.run X.A X.stack s H ⟨us, ks.zip ws⟩ (g us ws) (gV vs zs) Q (E σ) hr I.env0 (hb.to s us ws I.kIn (r.length.symm.trans l1) (rz.length.symm.trans l2)) r2 h) fun r s' hq => ?_)
  cases r with
  | error e => exact hx pins H s e s' I hq
  | ok fl =>
    cases fl with
    | ret u => exact I.after hq
    | next => exact False.elim hq
    | brk => exact False.elim hq
    | cont => exact False.elim hq
/-- the keywords, from the left -/
theorem f_knil : PK X [] (xA (rc X fa) W (eAll [])) := ⟨fun pos pins s σ H Q I ⟨p, n, S, rs, re, h⟩ => pk_nil.run pos pins s σ H Q I (aft_ok rs h [] .nil)⟩
theorem f_kcons {f : E D} {fs : List (E D)} {nm : Option Str} {kpos : Pos} {kws : List Keyword} (ha : PE X e (xE (rc X fa) W f)) (hr : PK X kws (xA (rc X fa) W (eAll fs))) : PK X (⟨nm, e, kpos⟩ :: kws) (xA (rc X fa) W (eAll (f :: fs))) :=
  ⟨fun pos pins s σ H Q I ⟨p, n, S, rs, re, h⟩ => (pk_cons ha hr).run pos pins s σ H Q I (xE_of rs re h fun d p1 S1 H1 v rs1 re1 hp t rv h1 =>
    xA_of rs1 re1 h1 fun ds p2 S2 H2 vs rs2 re2 hp2 t2 rvs h2 => aft_ok rs2 h2 _ (.cons (rv.mono hp2 t2) rvs))⟩
theorem f_callK {n : Nat} {ix : List Nat} {kws : List Keyword} (F : FnOk X.prog X.w X.K X.mg X.base (L2.CX X.prog X.w) k f fd ps (spF (rc X fa) m)) (tk : Takes X W) (hr : Room k X.A) (hg : Gl X x) (hm : X.mg x = some (.ref f)) (hk : PySem.W.keepIn X.K (.ref f) = true)
    (hb : KBn X.K fd ps n ks (fun us ws => arr ix (us ++ ws)) (fun vs zs => arr ix (vs ++ zs))) (ha : PA X (e :: es) (xA (rc X fa) W (eAll fs))) (hkw : PK X kws (xA (rc X fa) W (eAll gs)))
    (hall : (backToKw pos (keywordEach kws X.env)).all (·.1.isSome) = true) (hks : (backToKw pos (keywordEach kws X.env)).filterMap (·.1) = ks)
    (hdb : (x == ("__debug__" : Str)) = false) (he : starEach (e :: es) X.env = (false, eval e X.env) :: starEach es X.env)
    (hpl : ((backTo pos (starEach (e :: es) X.env)).any (·.1) || (backToKw pos (keywordEach kws X.env)).any (·.1.isNone)) = false) :
    PE X (.Call (.Name x p) (e :: es) kws pos) (xE (rc X fa) W (eCallK m n ks.length ix fs gs)) := by
  refine ⟨fun pins s σ H Q I ⟨p, n', S, rs, re, h⟩ => ?_⟩
  refine wpAny_Call_Name_kw (ld_glob I hg hm ?_ hdb)
  have h' : xA (rc X fa) W (eAll fs) σ H (fun vs H1 => xA (rc X fa) W (eAll gs) σ H1 fun zs H2 => vs.length = n ∧ zs.length = ks.length ∧ spF (rc X fa) m (arr ix (vs ++ zs)) H2 Q (WE W σ)) :=
    xA_of rs re h fun ds p1 S1 H1 vs rs1 re1 hp t rv h1 => xA_of rs1 re1 h1 fun es' p2 S2 H2 zs rs2 re2 hp2 t2 rz h2 => by
      split at h2
      · rename_i hl
        refine ⟨by rw [← rv.length]; exact hl.1, by rw [← rz.length]; exact hl.2, p2, S2, arr ix (ds ++ es'), rs2, ((rv.mono hp2 t2).append rz).arr ix, h2⟩
      · exact h2.elim
  refine PySem.W.callWith_KW (h₀ := X.base) I.ok.mod.kin hk hall (thn (ha.run pos pins s σ H _ I h') fun us s1 ⟨vs, H1, I1, r, q⟩ => ?_) hpl he
  refine thn (hkw.run pos pins s1 σ H1 _ I1 q) fun ws s2 ⟨zs, H2, I2, rz, l1, l2, q2⟩ => ⟨I2.kIn, ?_⟩
  rw [hks]
  exact run_fnSN F hr hb (passAt tk σ) I2 r rz l1 l2 q2
theorem f_callK0 {n : Nat} {ix : List Nat} {kws : List Keyword} (F : FnOk X.prog X.w X.K X.mg X.base (L2.CX X.prog X.w) k f fd ps (spF (rc X fa) m)) (tk : Takes X W) (hr : Room k X.A) (hg : Gl X x) (hm : X.mg x = some (.ref f)) (hk : PySem.W.keepIn X.K (.ref f) = true)
    (hb : KBn X.K fd ps n ks (fun us ws => arr ix (us ++ ws)) (fun vs zs => arr ix (vs ++ zs))) (hkw : PK X kws (xA (rc X fa) W (eAll gs)))
    (hall : (backToKw pos (keywordEach kws X.env)).all (·.1.isSome) = true) (hks : (backToKw pos (keywordEach kws X.env)).filterMap (·.1) = ks)
    (hdb : (x == ("__debug__" : Str)) = false) 
    (hpl : ((backTo pos (starEach [] X.env)).any (·.1) || (backToKw pos (keywordEach kws X.env)).any (·.1.isNone)) = false) :
    PE X (.Call (.Name x p) [] kws pos) (xE (rc X fa) W (eCallK m n ks.length ix [] gs)) := by
  refine ⟨fun pins s σ H Q I ⟨p, n', S, rs, re, h⟩ => ?_⟩
  refine wpAny_Call_Name_kw (ld_glob I hg hm ?_ hdb)
  have h' : xA (rc X fa) W (eAll gs) σ H (fun zs H2 => 0 = n ∧ zs.length = ks.length ∧ spF (rc X fa) m (arr ix ([] ++ zs)) H2 Q (WE W σ)) :=
    xA_of rs re (show Aft (rc X fa) p H (eBnd (eAll gs) (fun es _ S => if ([] : List D).length = n ∧ es.length = ks.length then m (arr ix ([] ++ es)) S else .bad) n' S) _ _ from h) fun es' p2 S2 H2 zs rs2 re2 hp2 t2 rz h2 => by
      split at h2
      · rename_i hl
        refine ⟨hl.1, by rw [← rz.length]; exact hl.2, p2, S2, arr ix ([] ++ es'), rs2, (RVs.append .nil rz).arr ix, h2⟩
      · exact h2.elim
  refine PySem.W.callWith_KW0 (h₀ := X.base) I.ok.mod.kin hk hall (thn (hkw.run pos pins s σ H _ I h') fun ws s2 ⟨zs, H2, I2, rz, l1, l2, q2⟩ => ⟨I2.kIn, ?_⟩) hpl
  rw [hks]
  exact run_fnSN (us := []) (vs := []) F hr hb (passAt tk σ) I2 .nil rz l1 l2 q2
/-! ### list comprehensions -/
theorem f_tests0 : PTs X [] (xT (rc X fa) W tTru) := ⟨fun pins s σ H Q I ⟨p, n, S, rs, re, h⟩ => pts_nil.run pins s σ H Q I (aft_ok rs h)⟩
theorem f_lc {elt tg iter : Expr} {ifs : List Expr} {scope : Scope} {own : List (Str × Nat)} {f : E Itn} {g : G} {t : E Bool} {fe : E D} (hc : X.calm = true) (hN : X.N.Nodup) (hi : PI X tg iter (xI (rc X fa) W f)) (ok : BlkOk X.N X.env.scope scope own)
    (hg : ∀ (s : Shared) (H : Hp) (C : Addr) (cl : List (Str × Addr)) (fp : List Addr), PG (X.blk s H scope (compEnvC scope cl C X.env) fp) tg (xG (rc X fa) W0 (own.map (·.2)) g)) (ht : ∀ (s : Shared) (H : Hp) (C : Addr) (cl : List (Str × Addr)) (fp : List Addr), PTs (X.blk s H scope (compEnvC scope cl C X.env) fp) ifs (xT (rc X fa) W0 t))
    (he : ∀ (s : Shared) (H : Hp) (C : Addr) (cl : List (Str × Addr)) (fp : List Addr), PE (X.blk s H scope (compEnvC scope cl C X.env) fp) elt (xE (rc X fa) W0 fe)) (hs : ∀ x, foldedSetIterable iter X.env x = pure x) :
    PE X (.ListComp elt [⟨tg, iter, ifs, 0⟩] scope pos) (xE (rc X fa) W (eLc f (own.map (·.2)) g t fe)) :=
  impE (pe_lc hc hN hi ok hg ht he hs) fun s H Q h => lc_in h
/-- name = [..] -/
theorem f_setlc {i : Nat} {y : Str} {py spos : Pos} {elt tg iter : Expr} {ifs : List Expr} {scope : Scope} {own : List (Str × Nat)} {f : E Itn} {g : G} {t : E Bool} {fe : E D} (hc : X.calm = true) (hN : X.N.Nodup) (hy : X.N[i]? = some y) (hyl : X.env.scope.names.lookup y = some .local)
    (hsw : swapsWith (.ListComp elt [⟨tg, iter, ifs, 0⟩] scope pos) (some (.Name y py)) spos.line X.env = pure true) (hi : PI X tg iter (xI (rc X fa) W f)) (ok : BlkOk X.N X.env.scope scope own)
    (hg : ∀ (s : Shared) (H : Hp) (C : Addr) (cl : List (Str × Addr)) (fp : List Addr), PG (X.blk s H scope (compEnvC scope cl C X.env) fp) tg (xG (rc X fa) W0 (own.map (·.2)) g)) (ht : ∀ (s : Shared) (H : Hp) (C : Addr) (cl : List (Str × Addr)) (fp : List Addr), PTs (X.blk s H scope (compEnvC scope cl C X.env) fp) ifs (xT (rc X fa) W0 t))
    (he : ∀ (s : Shared) (H : Hp) (C : Addr) (cl : List (Str × Addr)) (fp : List Addr), PE (X.blk s H scope (compEnvC scope cl C X.env) fp) elt (xE (rc X fa) W0 fe)) (hs : ∀ x, foldedSetIterable iter X.env x = pure x) :
    PS X (.Assign [.Name y py] (.ListComp elt [⟨tg, iter, ifs, 0⟩] scope pos) spos) (xS (rc X fa) W (sAsgn (eLc f (own.map (·.2)) g t fe) (gNam i))) :=
  impS (ps_setLc hc hN hy hyl hsw hi ok hg ht he hs) fun D0 s H ⟨p, n, S, rs, re, h⟩ => lc_in ⟨p, n, S, rs, re, sE_of rs re h fun d p1 S1 H1 rs1 re1 hp t h1 v rv => aft_ok rs1 h1 _ (re1.set rv)⟩
end
end Jm

set_option Elab.async false
set_option linter.all false
set_option maxRecDepth 100000
set_option maxHeartbeats 4000000
/-! Jm, part W: sorted of ints, list(range(n)), pop(i). -/
noncomputable section
namespace Jm
open PySem PySem.Spec PyProof.Rows L2
def sortI (ns : List Int) : List Int := ns.mergeSort fun a b => decide (a ≤ b)
theorem sortI_perm (ns : List Int) : (sortI ns).Perm ns := List.mergeSort_perm ns _
theorem sortI_up (ns : List Int) : (sortI ns).Pairwise (· ≤ ·) := by
  have := List.pairwise_mergeSort (le := fun a b : Int => decide (a ≤ b)) (fun a b c h1 h2 => by simp at *; omega) (fun a b => by simp; omega) ns
  exact this.imp fun {a b} h => by simpa using h
theorem sortI_of {ns ms : List Int} (h : ms.Perm ns) (u : ms.Pairwise (· ≤ ·)) : ms = sortI ns :=
  (h.trans (sortI_perm ns).symm).eq_of_pairwise (le := fun a b : Int => a ≤ b) (fun a b _ _ h1 h2 => by omega) u (sortI_up ns)
def sortedD : Prim := fun ds S => match ds with
  | [.loc l] => match lstAt S l with
    | some xs => match asInts xs with
      | some ns => mkLst ((sortI ns).map .int) S
      | none => none
    | none => none
  | _ => none
theorem rvs_intL {R : RC} {p : List Addr} {H : Hp} : ∀ ns : List Int, RVs R p H (ns.map D.int) (ns.map V.int)
  | [] => .nil
  | n :: ns => .cons (.int n) (rvs_intL ns)
section
variable {X : Cx} {fa : Gl0} {W : WX} {e a : Expr} {es : List Expr} {pos : Pos}
theorem call_sortedJ : CallR X (.builtin "sorted") (xN (rc X fa) sortedD) := by
  intro pins s σ H xs us Q I rr ⟨p, S, ds, d, S', rs, rv, e, q⟩
  unfold sortedD at e
  split at e
  · split at e
    · rename_i ys e1
      split at e
      · rename_i ns e2
        cases rv with
        | cons r1 r2 =>
          cases r2
          cases r1 with
          | loc h =>
            obtain ⟨vs, g1, g2⟩ := rs.list h e1
            have g3 := asInts_ok g2 e2
            subst g3
            refine cr_sortedI pins s σ H _ us Q I rr ⟨_, ns, rfl, .of g1, fun ns' a h1 h2 h3 => ?_⟩
            rw [sortI_of h1 h2]
            exact (new_list rs (rvs_intL _) e q).2 a h3
      · cases e
    · cases e
  · cases e
/-! ### list(range(n)) -/
def rgD (k : Nat) : List D := (List.range k).map fun i => D.int (i : Nat)
def lstRg (d : D) (S : Sto) : Option (D × Sto) := match d with
  | .int n => if decide (n.natAbs ≤ LINE) = true then mkLst (rgD n.toNat) S else none
  | _ => none
theorem rvs_rg {R : RC} {p : List Addr} {H : Hp} {f : Nat → Int} : ∀ l : List Nat, RVs R p H (l.map fun i => D.int (f i)) (l.map fun i => V.int (f i))
  | [] => .nil
  | n :: ns => .cons (.int _) (rvs_rg ns)
theorem f_lstRg {f : E D} {q1 q2 pos2 : Pos} (hc : X.calm = true) (hg : Gl X "list") (hm : X.mg "list" = none) (hg2 : Gl X "range") (hm2 : X.mg "range" = none) (ha : PE X a (xE (rc X fa) W f)) (na : starEach [a] X.env = (false, eval a X.env) :: starEach [] X.env) :
    PE X (.Call (.Name "list" q1) [.Call (.Name "range" q2) [a] [] pos2] [] pos) (xE (rc X fa) W (eOp1 lstRg f)) :=
  impE (pe_listRg hc hg hm (prg_1 hg2 hm2 ha na)) fun s H Q ⟨p, n, S, rs, re, h⟩ => xE_of rs re h fun d p1 S1 H1 v rs1 re1 hp t rv h1 => by
    obtain ⟨d3, S3, e3, h3⟩ := aft_lft h1
    unfold lstRg at e3
    split at e3
    · rename_i j
      split at e3
      · rename_i hj
        have hj := of_decide_eq_true hj
        cases rv
        refine ⟨j, rfl, ?_, fun q hq => ?_⟩
        · unfold LINE at hj
          exact ⟨by omega, by omega, by omega, by omega, by omega⟩
        · have e4 : rgV 0 j = (List.range j.toNat).map fun i => V.int ((fun i : Nat => (i : Int)) i) := by
            unfold rgV
            rw [Int.sub_zero]
            exact List.map_congr_left fun i _ => by rw [Int.zero_add]
          rw [e4]
          exact (new_list rs1 (rvs_rg (f := fun i => (i : Int)) (List.range j.toNat)) e3 h3).2 q hq
      · cases e3
    · cases e3
/-! ### pop(i) -/
def popA (l : Nat) (i : Int) (S : Sto) : Option (D × Sto) := match lstAt S l with
  | some xs => if decide (i.natAbs ≤ LINE) = true then (match ixN xs.length i with
    | some k => (xs[k]?).map fun y => (y, S.set l (.lst (xs.eraseIdx k)))
    | none => none) else none
  | none => none
def popXD : MPrim := fun d ds S => match d, ds with
  | d, [] => popD d [] S
  | .loc l, [.int i] => popA l i S
  | _, _ => none
theorem m_popX : MtI X fa .list "pop" popXD := by
  have M := m_pop (X := X) (fa := fa)
  obtain ⟨_, _, _, _, _⟩ := M.ex
  refine ⟨⟨"list.pop", PySem.F.plainAttrs_list, PySem.F.slot_list_pop, PySem.F.type_list_pop, fun pins s σ H x xs v us Q I rx rr ⟨p, S, d1, ds, d, S', rs, r1, rv, e, q⟩ => ?_⟩, .inl rfl⟩
  unfold popXD at e
  split at e
  · unfold popD at e
    split at e
    · split at e
      · rename_i l ys el
        obtain ⟨y, e1, e2⟩ := map_some e
        cases e2
        cases r1 with
        | loc h =>
          cases rv
          obtain ⟨vs, g1, g2⟩ := rs.list h el
          obtain ⟨z, z1, z2⟩ := g2.get e1
          exact mt_pop pins s σ H _ _ v us Q I rx rr ⟨_, vs, z, rfl, rfl, g1, by rw [← g2.length]; exact z1, put_list rs h el g2.dropLast z2 q⟩
      · cases e
    · cases e
  · rename_i l i
    unfold popA at e
    split at e
    · rename_i ys el
      split at e
      · rename_i hi
        have hi := of_decide_eq_true hi
        split at e
        · rename_i k ek
          obtain ⟨y, e1, e2⟩ := map_some e
          cases e2
          cases r1 with
          | loc h =>
            cases rv with
            | cons r2 r3 =>
              cases r3
              cases r2
              obtain ⟨vs, g1, g2⟩ := rs.list h el
              obtain ⟨z, z1, z2⟩ := g2.get e1
              unfold LINE at hi
              exact mt_popAt pins s σ H _ _ v us Q I rx rr ⟨_, vs, i, k, z, rfl, rfl, g1, by omega, by omega, by rw [← g2.length]; exact (ixN_seq ek).1, z1, put_list rs h el (g2.eraseIdx k) z2 q⟩
        · cases e
      · cases e
    · cases e
  · cases e
end
end Jm

set_option Elab.async false
set_option linter.all false
set_option maxRecDepth 100000
set_option maxHeartbeats 4000000
/-! Jm, part X: raise, try. -/
noncomputable section
namespace Jm
open PySem PySem.Spec PyProof.Rows L2
/-- raise C(e) -/
def sRaise (i : Nat) (fs : List (E D)) : E Out := sBnd (eAll fs) fun ds n S => if ds.length = 1 then .ok (.er i ds n) S else .bad
/-- the promise of C's own __init__: the one field is stored -/
def spInit (C : Addr) (f : Str) : Sp := fun vs H Q _ => ∃ (a : Addr) (y : V), vs = [.ref a, y] ∧ H a = some (exo a C none) ∧ ∀ dx, H dx = none → dx ≠ a → Q .non (upd (upd H dx (exd dx [(f, y)])) a (exo a C (some dx)))
/-- what is known of an own exception class with a field -/
structure ClsI (P : Program) (w : World) (K : PySem.W.Frag) (mg : Str → Option Value) (base : Heap) (C : Addr) (f : Str) : Prop where
  ox : OexC K C
  ini : ∃ (fI : Addr) (fd : FuncData) (ps : List Str), PySem.W.findIn K (.ref C) "__init__" = some (some (.ref fI)) ∧ PySem.W.typeIn K (.ref fI) = some (.type "function") ∧ FnOk P w K mg base (L2.CX P w) 1 fI fd ps (spInit C f) ∧ Binds K fd ps []
section
variable {X : Cx} {fa : Gl0} {W : WX} {e : Expr} {pos : Pos} {i : Nat} {fs : List (E D)} {p pos2 : Pos}
theorem f_raise {x : Str} {f : Str} (hf : f = fldName i) (hc : X.calm = true) (tk : Takes X W) (hr : Room 2 X.A) (I : ClsI X.prog X.w X.K X.mg X.base (fa.fa i) f) (hg : Gl X x) (hm : X.mg x = some (.ref (fa.fa i))) (ha : PA X [e] (xA (rc X fa) W (eAll fs)))
    (hdb : (x == ("__debug__" : Str)) = false) (he : starEach [e] X.env = (false, eval e X.env) :: starEach [] X.env) : PS X (.Raise (some (.Call (.Name x p) [e] [] pos)) none pos2) (xS (rc X fa) W (sRaise i fs)) := by
  obtain ⟨fI, fd, ps, h1, h2, F, hb⟩ := I.ini
  subst hf
  refine impS (ps_raise hc tk (pmk_oex (dvs := []) (ds := []) I.ox h1 h2 F hr hb .nil (fun _ _ _ _ _ _ _ h => by
    obtain ⟨_, _, _, _, _, _, _, _, _, _, _, _, z⟩ := h
    exact z.elim) hg hm ha hdb he rfl)) fun D0 s H ⟨q, n, S, rs, re, h⟩ => ?_
  refine ⟨q, n, S, rs, re, sE_of rs re h fun ds p1 S1 H1 rs1 re1 hp1 t1 h1 vs rv => ?_⟩
  split at h1
  · rename_i hl
    obtain ⟨d, rfl⟩ : ∃ d, ds = [d] := by
      cases ds with
      | nil => cases hl
      | cons d ds =>
        cases ds with
        | nil => exact ⟨d, rfl⟩
        | cons _ _ => cases hl
    cases rv with
    | @cons _ v _ _ r r0 =>
      cases r0
      refine ⟨by simp, fun a hna => ⟨a, v, rfl, upd_same, fun dx hd hda => ⟨rfl, dx, [(fldName i, v)], upd_same, by rw [upd_ne hda]; exact upd_same, ?_, ?_⟩⟩⟩
      · rw [upd_ne hda] at hd; exact hd
      · rw [upd_ne hda] at hd
        have same : ∀ b u, H1 b = some u → upd (del (upd (upd (upd H1 a (exo a (fa.fa i) none)) dx (exd dx [(fldName i, v)])) a (exo a (fa.fa i) (some dx))) a) dx (.xd [(fldName i, v)]) b = some u := fun b u e => by
          have n1 : b ≠ dx := ne_of_none e hd
          have n2 : b ≠ a := ne_of_none e hna
          rw [upd_ne n1, del_ne n2, upd_ne n2, upd_ne n1, upd_ne n2]; exact e
        have T : Tm p1 H1 p1 (upd (del (upd (upd (upd H1 a (exo a (fa.fa i) none)) dx (exd dx [(fldName i, v)])) a (exo a (fa.fa i) (some dx))) a) dx (.xd [(fldName i, v)])) := fun b u nb e => ⟨nb, same b u e⟩
        have rs2 := rs1.mono T fun b u _ e => same b u e
        have pre := List.prefix_refl p1
        exact h1 p1 _ pre T rs2 s _ _ (re1.mono pre T) ⟨rfl, .inr ⟨dx, d, v, rfl, rfl, rs1.nin hd, upd_same, r.mono pre T⟩⟩
  · exact h1.elim
end
end Jm

set_option Elab.async false
set_option linter.all false
set_option maxRecDepth 100000
set_option maxHeartbeats 4000000
/-! Jm, part Y: try with clauses of any kind, one behind another. -/
noncomputable section
namespace Jm
open PySem PySem.Spec PyProof.Rows L2
/-- a clause: the class, the name's slot, the suite's reading -/
abbrev Cl := Value × Option Nat × (Addr → Value → Option Addr → TS)
/-- what is wanted behind a suite whose name goes -/
def offName (D0 : Ends) : Option Nat → Ends
  | none => D0
  | some i => { nx := fun s H => D0.nx (s.set i none) H, rt := D0.rt, bk := fun s H => D0.bk (s.set i none) H, ct := fun s H => D0.ct (s.set i none) H }
def onName (s : L2.St) (a : Addr) : Option Nat → L2.St
  | none => s
  | some i => s.set i (some (.ref a))
def wCl (K : PySem.W.Frag) (W : WX) (D0 : Ends) : List Cl → WX
  | [] => W
  | (c, o, ts) :: r => fun cls dd s H => ∃ b, PySem.W.exmOne K cls c = some b ∧ (b = true → ∀ a, H a = none → ts a cls dd (offName D0 o) (onName s a o) H) ∧ (b = false → wCl K W D0 r cls dd s H)
/-- a suite, in the context of its exception -/
def SuOk (X : Cx) (sts : List Stmt) (ts : Addr → Value → Option Addr → TS) : Prop :=
  ∀ (a : Addr) (oe : Obj) (cls : Value) (dd : Option Addr) (pn : List (Addr × Obj)), Zc cls dd oe → (∃ vs, oe.data = .fields vs) → PSs (X.suite a ((a, oe) :: pn)) sts (ts a cls dd)
inductive ClsOk (X : Cx) : List ExceptHandler → List Cl → Prop
  | nil : ClsOk X [] []
  | bare {x : Str} {c : Value} {ts : Addr → Value → Option Addr → TS} {b : Stmt} {su : List Stmt} {np q : Pos} {hs : List ExceptHandler} {l : List Cl} : Names X x c → SuOk X (b :: su) ts → ClsOk X hs l → ClsOk X (.ExceptHandler (some (.Name x np)) none (b :: su) q :: hs) ((c, none, ts) :: l)
  | named {x n : Str} {i : Nat} {c : Value} {ts : Addr → Value → Option Addr → TS} {b : Stmt} {su : List Stmt} {np q : Pos} {hs : List ExceptHandler} {l : List Cl} : Names X x c → X.N[i]? = some n → X.env.kindOf n = some .local → SuOk X (b :: su) ts → ClsOk X hs l →
      ClsOk X (.ExceptHandler (some (.Name x np)) (some n) (b :: su) q :: hs) ((c, some i, ts) :: l)
section
variable {X : Cx} {W : WX} {D0 : Ends} {pins : List (Addr × Obj)}
/-- an exception that was caught, on the ground: the clauses are asked -/
theorem ask_clauses (hst : X.stack = X.env :: X.outer) (hfr : X.env.frame = some X.env.locals) (hN : X.N.Nodup) (tk : Takes X W) {a : Addr} {B : Heap} {st0 st : Shared} {σ : L2.St} {H : Hp} {cls : Value} {dd : Option Addr} {g : Heap}
    (J : Inv X pins σ H st0) (nb : ∀ b o, st0.heap.get? b = some o → b ∉ frs X.stack → B.get? b = some o) (up : st0.heap.UpToSlots st.heap) (na : H a = none) (os : st.os = st0.os) (ag : AllBare st.gens) (fl : HandSPX.FlyingZ B (X.env :: X.outer) a (Zc cls dd) g) (up3 : st.heap.UpToSlots g)
    {hs : List ExceptHandler} {l : List Cl} (hk : ClsOk X hs l) (w : wCl X.K W D0 l cls dd σ H) : wpAny (model X.prog X.w) X.A (handleBy (.ref a) X.env hs) (SP X pins D0) X.xe { st with heap := g } := by
  have land := fun (g' : Heap) (q : HandSPX.FlyingZ B (X.env :: X.outer) a (Zc cls dd) g') (u : st.heap.UpToSlots g') => J.landed (s' := { st with heap := g' }) nb q.1 (up.trans u) os ag
  have J3 := land g fl up3
  obtain ⟨oe, vs, he, hz, hd⟩ := fl.there
  have apart : ∀ (g' : Heap) (o : Obj) (us : Array Value), g'.FunFrames B (X.env :: X.outer) → g'.get? a = some o → o.data = .fields us → a ∉ frs (X.env :: X.outer) := by
    intro g' o us ff e d hm
    obtain ⟨_, o2, e2, no⟩ := ff.mem hm
    cases e.symm.trans e2
    exact no us d
  have away := apart g oe vs fl.2.2.1 he hd
  have awayL : a ≠ X.env.locals := by
    intro z
    refine away (List.mem_filterMap.mpr ⟨X.env, List.mem_cons_self, ?_⟩)
    rw [hfr, z]
  have awayF : a ∉ X.fs := by
    intro hm
    obtain ⟨en, h1, h2⟩ := List.mem_filterMap.mp hm
    exact away (List.mem_filterMap.mpr ⟨en, List.mem_cons_of_mem _ h1, h2⟩)
  have asks : ∀ {x : Str} {c : Value} {np : Pos} {Q : Value → Shared → Prop} {E : Value → Shared → Prop}, Names X x c → Q c { st with heap := g } →
      wpAny (model X.prog X.w) (X.A.mark (some (.ref a))) (eval (.Name x np) X.env) Q E { st with heap := g } := by
    intro x c np Q E hc q
    have S3 := J3.suite he hd na awayL awayF
    obtain ⟨k1, k2, k3⟩ := hc
    rcases k3 with k3 | ⟨k3, k4, k5⟩
    · exact ld_glob (X := X.suite a ((a, oe) :: (X.pn ++ pins))) S3 k1 k3 q k2
    · exact ld_blt (X := X.suite a ((a, oe) :: (X.pn ++ pins))) S3 k1 k3 k4 q k5 k2
  have LT : PySem.W.Looks (model X.prog X.w) g (typeOf (.ref a)) cls := by
    intro A Q E s k q
    refine wpAny_typeOf_ref (k _ _ he) ?_
    rw [hz.1]; exact q
  induction hk with
  | nil =>
    refine wpAny_handleBy_nil ?_
    have rise : wpAny (model X.prog X.w) X.A (setFlight (.ref a) X.env.frame) (fun _ s4 => wpAny (model X.prog X.w) X.A (throw (.ref a) : Sem Flow) (SP X pins D0) X.xe s4) X.xe { st with heap := g } := by
      rw [hfr]
      refine HandSPX.setFlight_upZ fl fun g4 hh up4 => wpAny_throw (tk _ _ ?_)
      refine ⟨a, B, st0, pins, σ, H, cls, dd, rfl, J, nb, (up.trans up3).trans up4, .inr (.inr ?_), na, os, ag, w⟩
      rw [hst]; exact hh
    obtain ⟨_, _, _, o, us, T0, o2, ts2, h1, _, h3, h4, _⟩ := id fl
    unfold PySem.passOn
    refine wpAny_bind (wpAny_field h1 h3 h4 ?_)
    rw [if_neg (by simp)]
    first
      | exact wpAny_bind rise
      | exact wpAny_bind (wpAny_pure (wpAny_bind rise))
  | bare hc hsu r ih =>
    obtain ⟨b, hb, yes, no⟩ := w
    refine wpAny_handleBy_cons (codeAny_handlers_test ?_) (fun z => nomatch z)
    refine asks hc ((PySem.W.exm_one (M := model X.prog X.w) J3.kIn LT hb).here ?_)
    cases b with
    | false => exact ih (no rfl)
    | true =>
      refine codeAny_handlers_suite (HandSPX.lands_againZ fl fun g4 fl4 up4 => ?_)
      have J4 := land g4 fl4 (up3.trans up4)
      obtain ⟨oe4, vs4, he4, hz4, hd4⟩ := fl4.there
      have S4 := J4.suite he4 hd4 na awayL awayF
      have run := (hsu a oe4 cls dd (X.pn ++ pins) hz4 ⟨_, hd4⟩).run [] _ _ H _ S4 (yes rfl a na)
      refine wpAny_mono run (fun f s6 z => ?_) (fun _ _ z => z.elim)
      cases f with
      | next => obtain ⟨s', H', I', q⟩ := z; exact ⟨s', H', I'.unsuite J.ok, q⟩
      | brk => obtain ⟨s', H', I', q⟩ := z; exact ⟨s', H', I'.unsuite J.ok, q⟩
      | cont => obtain ⟨s', H', I', q⟩ := z; exact ⟨s', H', I'.unsuite J.ok, q⟩
      | ret u => obtain ⟨v, s', H', I', rv, q⟩ := z; exact ⟨v, s', H', I'.unsuite J.ok, rv, q⟩
  | @named x n i c ts b1 su np q hs l hc hi hl hsu r ih =>
    obtain ⟨b, hb, yes, no⟩ := w
    refine wpAny_handleBy_cons (codeAny_handlers_test ?_) (fun z => nomatch z)
    refine asks hc ((PySem.W.exm_one (M := model X.prog X.w) J3.kIn LT hb).here ?_)
    cases b with
    | false => exact ih (no rfl)
    | true =>
      refine codeAny_handlers_suite_as (HandSPX.lands_againZ fl fun g4 fl4 up4 => ?_)
      have J4 := land g4 fl4 (up3.trans up4)
      obtain ⟨oe4, vs4, he4, hz4, hd4⟩ := fl4.there
      have S4 := J4.suite he4 hd4 na awayL awayF
      refine store_ok (X := X.suite a ((a, oe4) :: (X.pn ++ pins))) (v := .ref a) S4 hN hi (.inl hl) rfl (fun s5 S5 => ?_) (.inr hl)
      have run := (hsu a oe4 cls dd (X.pn ++ pins) hz4 ⟨_, hd4⟩).run [] s5 _ H _ S5 (yes rfl a na)
      refine wpAny_mono run (fun f s6 z => ?_) (fun _ _ z => z.elim)
      cases f with
      | next => obtain ⟨s', H', I', q⟩ := z; exact gone_ok (I'.unsuite J.ok) hN hi hl fun s7 J7 => ⟨_, _, J7, q⟩
      | brk => obtain ⟨s', H', I', q⟩ := z; exact gone_ok (I'.unsuite J.ok) hN hi hl fun s7 J7 => ⟨_, _, J7, q⟩
      | cont => obtain ⟨s', H', I', q⟩ := z; exact gone_ok (I'.unsuite J.ok) hN hi hl fun s7 J7 => ⟨_, _, J7, q⟩
      | ret u => obtain ⟨v, s', H', I', rv, q⟩ := z; exact gone_ok (I'.unsuite J.ok) hN hi hl fun s7 J7 => ⟨_, _, _, J7, rv, q⟩
theorem ps_clauses {body : List Stmt} {h0 : ExceptHandler} {hs : List ExceptHandler} {l : List Cl} {pos : Pos} {tb : WX → TS} (hst : X.stack = X.env :: X.outer) (hfr : X.env.frame = some X.env.locals) (hN : X.N.Nodup) (tk : Takes X W)
    (hb : ∀ (W' : WX) (pn : List (Addr × Obj)) (xe : Value → Shared → Prop), Takes (X.tr pn xe) W' → PassesOwn (model X.prog X.w) X.A X.env xe → PSs (X.tr pn xe) body (tb W')) (hk : ClsOk X (h0 :: hs) l) :
    PS X (.Try body (h0 :: hs) [] [] pos) (fun D0 s H => tb (wCl X.K W D0 l) D0 s H) := by
  refine ⟨fun pins s σ H D0 I h => wpAny_Try_except ?_⟩
  have ok := I.ok
  have wish : Takes (X.tr (X.pn ++ pins) (fun e s₁ => wpAny (model X.prog X.w) X.A (noteFrame e X.env) (fun _ s₂ => wpAny (model X.prog X.w) X.A (setFlight e none) (fun _ s₃ =>
      wpAny (model X.prog X.w) X.A (handleBy e X.env (h0 :: hs)) (SP X pins D0) X.xe s₃) X.xe s₂) X.xe s₁)) (wCl X.K W D0 l) := by
    rintro u s' ⟨a, B, sI, pins', σ', H', cls, d, rfl, J', nb, up, sky, na, os, ag, w⟩
    have sky' : Sky B (X.env :: X.outer) a (Zc cls d) X.env.locals s'.heap := hst ▸ sky
    refine Sky.land Zc.steady (by rw [ok.frames, hst]) hfr sky' fun h3 fl3 up3 => ?_
    exact ask_clauses hst hfr hN tk (J'.ofTry ok) nb up na os ag fl3 up3 hk w
  refine wpAny_mono ((hb _ _ _ wish PassesOwn.looking).run [] s σ H D0 (I.toTry _) h) (fun f s1 z => ?_) (fun e s1 z => z)
  cases f with
  | next => obtain ⟨s', H', J, q⟩ := z; exact wpAny_execs_nil ⟨s', H', J.ofTry ok, q⟩
  | brk => obtain ⟨s', H', J, q⟩ := z; exact ⟨s', H', J.ofTry ok, q⟩
  | cont => obtain ⟨s', H', J, q⟩ := z; exact ⟨s', H', J.ofTry ok, q⟩
  | ret u => obtain ⟨v, s', H', J, r, q⟩ := z; exact ⟨v, s', H', J.ofTry ok, r, q⟩
end
end Jm

set_option Elab.async false
set_option linter.all false
set_option maxRecDepth 100000
set_option maxHeartbeats 4000000
/-! Jm, part Z: try as a reading. -/
noncomputable section
namespace Jm
open PySem PySem.Spec PyProof.Rows L2
/-- no exception of an except suite within -/
inductive Clean : D → Prop
  | non : Clean .non
  | bl (b : Bool) : Clean (.bl b)
  | int (i : Int) : Clean (.int i)
  | str (x : Str) : Clean (.str x)
  | tup {xs : List D} : (∀ x ∈ xs, Clean x) → Clean (.tup xs)
  | loc (l : Nat) : Clean (.loc l)
  | fn (i : Nat) : Clean (.fn i)
  | ty (n : Tn) : Clean (.ty n)
  | rng (lo hi : Int) : Clean (.rng lo hi)
  | scr {xs : List D} : (∀ x ∈ xs, Clean x) → Clean (.scr xs)
/-- the same with a suite's exception -/
abbrev RC.withX (R : RC) (e : Option (Addr × Nat × Option Addr)) : RC := { R with ex := e }
section
variable {R : RC} {p : List Addr} {H : Hp} {e : Option (Addr × Nat × Option Addr)}
theorem TupAt.x {a : Addr} {xs : List V} (h : TupAt R p H a xs) : TupAt (R.withX e) p H a xs := h
theorem ScrAt.x {a : Addr} {xs : List V} (h : ScrAt R p H a xs) : ScrAt (R.withX e) p H a xs := h
mutual
theorem RV.clean (h0 : R.ex = none) : ∀ {d : D} {v : V}, RV R p H d v → Clean d
  | _, _, .non => .non
  | _, _, .bl b => .bl b
  | _, _, .int i => .int i
  | _, _, .str x => .str x
  | _, _, .ty n => .ty n
  | _, _, .tup s r => .tup (RVs.clean h0 r)
  | _, _, .loc e => .loc _
  | _, _, .fn i => .fn i
  | _, _, .rng n e => .rng _ _
  | _, _, .scr s r => .scr (RVs.clean h0 r)
  | _, _, .exc e _ _ _ => by rw [h0] at e; cases e
  | _, _, .exc0 e => by rw [h0] at e; cases e
theorem RVs.clean (h0 : R.ex = none) : ∀ {ds : List D} {vs : List V}, RVs R p H ds vs → ∀ x ∈ ds, Clean x
  | _, _, .nil => fun x h => nomatch h
  | _, _, .cons r rs => fun x h => by
    rcases List.mem_cons.mp h with z | z
    · rw [z]; exact RV.clean h0 r
    · exact RVs.clean h0 rs x z
end
mutual
theorem RV.up (h0 : R.ex = none) : ∀ {d : D} {v : V}, RV R p H d v → RV (R.withX e) p H d v
  | _, _, .non => .non
  | _, _, .bl b => .bl b
  | _, _, .int i => .int i
  | _, _, .str x => .str x
  | _, _, .ty n => .ty n
  | _, _, .tup s r => .tup s.x (RVs.up h0 r)
  | _, _, .loc e => .loc e
  | _, _, .fn i => .fn (R := R.withX e) i
  | _, _, .rng n e => .rng n e
  | _, _, .scr s r => .scr s.x (RVs.up h0 r)
  | _, _, .exc e _ _ _ => by rw [h0] at e; cases e
  | _, _, .exc0 e => by rw [h0] at e; cases e
theorem RVs.up (h0 : R.ex = none) : ∀ {ds : List D} {vs : List V}, RVs R p H ds vs → RVs (R.withX e) p H ds vs
  | _, _, .nil => .nil
  | _, _, .cons r rs => .cons (RV.up h0 r) (RVs.up h0 rs)
end
mutual
theorem RV.down : ∀ {d : D} {v : V}, RV (R.withX e) p H d v → Clean d → RV (R.withX none) p H d v
  | _, _, .non, _ => .non
  | _, _, .bl b, _ => .bl b
  | _, _, .int i, _ => .int i
  | _, _, .str x, _ => .str x
  | _, _, .ty n, _ => .ty n
  | _, _, .tup s r, c => .tup s (RVs.down r (by cases c with | tup h => exact h))
  | _, _, .loc e, _ => .loc e
  | _, _, .fn i, _ => .fn (R := R.withX none) i
  | _, _, .rng n e, _ => .rng n e
  | _, _, .scr s r, c => .scr s (RVs.down r (by cases c with | scr h => exact h))
  | _, _, .exc e _ _ _, c => nomatch c
  | _, _, .exc0 e, c => nomatch c
theorem RVs.down : ∀ {ds : List D} {vs : List V}, RVs (R.withX e) p H ds vs → (∀ x ∈ ds, Clean x) → RVs (R.withX none) p H ds vs
  | _, _, .nil, _ => .nil
  | _, _, .cons r rs, c => .cons (RV.down r (c _ List.mem_cons_self)) (RVs.down rs fun x h => c x (List.mem_cons_of_mem _ h))
end
/-- what the store holds is clean -/
def CleanS (S : Sto) : Prop := ∀ (l : Nat) (o : O), S[l]? = some o → match o with
  | .lst ds => ∀ x ∈ ds, Clean x
  | .dct kvs => ∀ x ∈ kvs, Clean x.2
theorem paired_mem {A B : Type} {F : A → B → Prop} : ∀ {l : List A} {k : List B}, Paired F l k → ∀ x ∈ l, ∃ y, F x y
  | _, _, .nil, _, h => nomatch h
  | _, _, .cons r t, x, h => by
    rcases List.mem_cons.mp h with z | z
    · rw [z]; exact ⟨_, r⟩
    · exact paired_mem t x z
theorem paired_imp2 {A B : Type} {F G : A → B → Prop} : ∀ {l : List A} {k : List B}, Paired F l k → (∀ a ∈ l, ∀ b, F a b → G a b) → Paired G l k
  | _, _, .nil, _ => .nil
  | _, _, .cons r t, f => .cons (f _ List.mem_cons_self _ r) (paired_imp2 t fun a h => f a (List.mem_cons_of_mem _ h))
theorem RS.cleanS {S : Sto} (h0 : R.ex = none) (rs : RS R p S H) : CleanS S := by
  intro l o e
  obtain ⟨a, _, ro⟩ := rs.addr e
  cases o with
  | lst ds => obtain ⟨vs, _, h⟩ := ro; exact RVs.clean h0 h
  | dct kvs =>
    obtain ⟨us, _, h⟩ := ro
    intro x hx
    obtain ⟨y, _, r⟩ := paired_mem h x hx
    exact r.clean h0
theorem RS.up {S : Sto} (h0 : R.ex = none) (rs : RS R p S H) : RS (R.withX e) p S H :=
  ⟨rs.len, rs.nd, rs.gt, fun l o a e1 e2 => by
    have ro := rs.at_ l o a e1 e2
    cases o with
    | lst ds => obtain ⟨vs, h1, h⟩ := ro; exact ⟨vs, h1, RVs.up h0 h⟩
    | dct kvs => obtain ⟨us, h1, h⟩ := ro; exact ⟨us, h1, paired_imp h fun a b z => ⟨z.1, RV.up h0 z.2⟩⟩⟩
theorem RS.down {S : Sto} (c : CleanS S) (rs : RS (R.withX e) p S H) : RS (R.withX none) p S H :=
  ⟨rs.len, rs.nd, rs.gt, fun l o a e1 e2 => by
    have ro := rs.at_ l o a e1 e2
    have cl := c l o e1
    cases o with
    | lst ds => obtain ⟨vs, h1, h⟩ := ro; exact ⟨vs, h1, RVs.down h cl⟩
    | dct kvs => obtain ⟨us, h1, h⟩ := ro; exact ⟨us, h1, paired_imp2 h fun a ha b z => ⟨z.1, RV.down z.2 (cl a ha)⟩⟩⟩
end
section
variable {R : RC} {p : List Addr} {H : Hp} {e : Option (Addr × Nat × Option Addr)} {n : En} {s : L2.St}
theorem RE.up (h0 : R.ex = none) (r : RE R p n s H) : RE (R.withX e) p n s H := ⟨r.1, fun i d h => by
  obtain ⟨v, h1, h2⟩ := r.2 i d h
  exact ⟨v, h1, RV.up h0 h2⟩⟩
theorem RE.down (r : RE (R.withX e) p n s H) (c : ∀ (i : Nat) (d : D), n[i]? = some (some d) → Clean d) : RE (R.withX none) p n s H := ⟨r.1, fun i d h => by
  obtain ⟨v, h1, h2⟩ := r.2 i d h
  exact ⟨v, h1, RV.down h2 (c i d h)⟩⟩
theorem withX_none (h0 : R.ex = none) : R.withX none = R := by
  obtain ⟨a, b, c, d⟩ := R
  cases h0
  rfl
end
/-- a clause: which classes it takes, the name's slot, the suite -/
structure HC where
  cm : Nat → Option Bool
  sl : Option Nat
  su : E Out
def onD (n : En) (d : D) : Option Nat → En
  | none => n
  | some i => n.set i (some d)
def offD (n : En) : Option Nat → En
  | none => n
  | some i => n.set i none
def CleanN (n : En) : Prop := ∀ (i : Nat) (d : D), n[i]? = some (some d) → Clean d
open Classical in
def finCl (o : Option Nat) (S : Sto) (r : Res Out) : Res Out := match r with
  | .ok (.rt d) S' => if S' = S ∧ Clean d then .ok (.rt d) S' else .bad
  | .ok (.nx n) S' => if S' = S ∧ CleanN (offD n o) then .ok (.nx (offD n o)) S' else .bad
  | _ => .bad
def runCl : List HC → Nat → List D → E Out
  | [], c, fs => fun n S => .ok (.er c fs n) S
  | h :: r, c, fs => fun n S => match h.cm c with
    | some true => finCl h.sl S (h.su (onD n (.exc c fs) h.sl) S)
    | some false => runCl r c fs n S
    | none => .bad
def sTry (fb : E Out) (l : List HC) : E Out := fun n S => rbind (fb n S) fun o S' => match o with
  | .er c fs n' => runCl l c fs n' S'
  | o => .ok o S'
abbrev Gl0.withX (fa : Gl0) (e : Option (Addr × Nat × Option Addr)) : Gl0 := { fa with ex := e }
inductive HOk (X : Cx) (fa : Gl0) : List ExceptHandler → List HC → Prop
  | nil : HOk X fa [] []
  | cons {x : Str} {cV : Value} {nm : Option Str} {h : HC} {b : Stmt} {su : List Stmt} {np q : Pos} {hs : List ExceptHandler} {l : List HC} : Names X x cV → (∀ c k, h.cm c = some k → PySem.W.exmOne X.K (.ref (fa.fa c)) cV = some k) →
      (match nm, h.sl with
        | none, none => True
        | some n, some i => X.N[i]? = some n ∧ X.env.kindOf n = some .local
        | _, _ => False) →
      (∀ (a : Addr) (oe : Obj) (c : Nat) (dd : Option Addr) (pn : List (Addr × Obj)), h.cm c = some true → Zc (.ref (fa.fa c)) dd oe → (∃ vs, oe.data = .fields vs) → PSs (X.suite a ((a, oe) :: pn)) (b :: su) (xS (rc X (fa.withX (some (a, c, dd)))) W0 h.su)) →
      HOk X fa hs l → HOk X fa (.ExceptHandler (some (.Name x np)) nm (b :: su) q :: hs) (h :: l)
section
variable {X : Cx} {fa : Gl0} {W : WX} {D0 : Ends}
/-- the clause's reading, as the rule wants it -/
def tCl (X : Cx) (fa : Gl0) (h : HC) : Addr → Value → Option Addr → TS := fun a cls dd D1 s H => ∃ c, cls = .ref (fa.fa c) ∧ h.cm c = some true ∧ xS (rc X (fa.withX (some (a, c, dd)))) W0 h.su D1 s H
theorem clauses_ok : ∀ {hs : List ExceptHandler} {l : List HC}, HOk X fa hs l → ∃ l' : List Cl, ClsOk X hs l' ∧ ∀ (W : WX) (D0 : Ends) (R : RC) (_ : R = rc X fa) (_ : fa.ex = none) (c : Nat) (fs : List D) (n : En) (S : Sto) (p : List Addr) (H : Hp), RS R p S H → Aft R p H (runCl l c fs n S) (fun o p' S' H' => o.post R W D0 p' H') NoW →
    ∀ s cls dd, RE R p n s H → EX R p H c fs cls dd → wCl X.K W D0 l' cls dd s H
  | _, _, .nil => ⟨[], .nil, fun W D0 R hR h0 c fs n S p H rs h s cls dd re x => aft_ok rs h s cls dd re x⟩
  | _, _, .cons (cV := cV) (nm := nm) (h := hc) hn hm hsl hsu hr => by
    obtain ⟨l', k1, k2⟩ := clauses_ok hr
    have suok : SuOk X _ (tCl X fa hc) := fun a oe cls dd pn hz hd => ⟨fun pins s σ H D1 I ⟨c, e, ht, hw⟩ => by
      subst e
      exact (hsu a oe c dd pn ht hz hd).run pins s σ H D1 I hw⟩
    refine ⟨(cV, hc.sl, tCl X fa hc) :: l', ?_, ?_⟩
    · cases nm with
      | none =>
        cases e : hc.sl with
        | none => exact .bare hn suok k1
        | some i => rw [e] at hsl; exact hsl.elim
      | some m =>
        cases e : hc.sl with
        | none => rw [e] at hsl; exact hsl.elim
        | some i => rw [e] at hsl; exact .named hn hsl.1 hsl.2 suok k1
    · intro W D0 R hR h0 c fs n S p H rs h s cls dd re x
      have hR0 : R.ex = none := by rw [hR]; exact h0
      have h : Aft R p H (match hc.cm c with
        | some true => finCl hc.sl S (hc.su (onD n (.exc c fs) hc.sl) S)
        | some false => runCl _ c fs n S
        | none => .bad) _ _ := h
      cases ec : hc.cm c with
      | none => rw [ec] at h; exact h.elim
      | some k =>
        refine ⟨k, ?_, fun hk a ha => ?_, fun hk => ?_⟩
        · have := hm c k ec
          rw [x.1, hR]; exact this
        · subst hk
          rw [ec] at h
          refine ⟨c, by rw [x.1, hR], ec, p, onD n (.exc c fs) hc.sl, S, ?_, ?_, ?_⟩
          · have := rs.up (e := some (a, c, dd)) hR0
            rw [hR] at this; exact this
          · have rvx : RV (R.withX (some (a, c, dd))) p H (.exc c fs) (.ref a) := by
              rcases x.2 with ⟨rfl, rfl⟩ | ⟨d, y, v, rfl, rfl, h1, h2, h3⟩
              · exact .exc0 rfl
              · exact .exc rfl h1 h2 (RV.up hR0 h3)
            have := RE.up (e := some (a, c, dd)) hR0 re
            subst hR
            cases hc.sl with
            | none => exact this
            | some i => exact this.set rvx
          · have hw := withX_none hR0
            have cs := rs.cleanS hR0
            have low : ∀ {p2 : List Addr} {H2 : Hp}, RS (R.withX (some (a, c, dd))) p2 S H2 → RS R p2 S H2 := fun {p2 H2} r => by
              have := RS.down cs r
              rw [hw] at this; exact this
            subst hR
            cases er : hc.su (onD n (.exc c fs) hc.sl) S with
            | bad => rw [er] at h; exact h.elim
            | exc c2 fs2 S2 => rw [er] at h; exact h.elim
            | ok o S2 =>
              rw [er] at h
              cases o with
              | rt d =>
                unfold finCl at h
                by_cases hq : S2 = S ∧ Clean d
                · obtain ⟨rfl, hcl⟩ := hq
                  dsimp only at h
                  rw [if_pos ⟨rfl, hcl⟩] at h
                  intro p2 H2 hp2 t2 rs2 v rv
                  have rv' := RV.down (R := rc X fa) (e := some (a, c, dd)) rv hcl
                  rw [hw] at rv'
                  have q := h p2 H2 hp2 t2 (low rs2) v rv'
                  cases hc.sl <;> exact q
                · dsimp only at h
                  rw [if_neg hq] at h
                  exact h.elim
              | nx n2 =>
                unfold finCl at h
                by_cases hq : S2 = S ∧ CleanN (offD n2 hc.sl)
                · obtain ⟨rfl, hcl⟩ := hq
                  dsimp only at h
                  rw [if_pos ⟨rfl, hcl⟩] at h
                  intro p2 H2 hp2 t2 rs2 s2 re2
                  have q := h p2 H2 hp2 t2 (low rs2)
                  cases esl : hc.sl with
                  | none =>
                    rw [esl] at q hcl
                    have r3 := RE.down (R := rc X fa) (e := some (a, c, dd)) re2 hcl
                    rw [hw] at r3
                    exact q s2 r3
                  | some i =>
                    rw [esl] at q hcl
                    have r3 := RE.down (R := rc X fa) (e := some (a, c, dd)) (re2.wipe (i := i)) hcl
                    rw [hw] at r3
                    exact q _ r3
                · dsimp only at h
                  rw [if_neg hq] at h
                  exact h.elim
              | bk n2 => exact h.elim
              | ct n2 => exact h.elim
              | er c2 fs2 n2 => exact h.elim
        · subst hk
          rw [ec] at h
          exact k2 W D0 R hR h0 c fs n S p H rs h s cls dd re x
theorem f_try {body : List Stmt} {fb : E Out} {h0 : ExceptHandler} {hs : List ExceptHandler} {l : List HC} {pos : Pos} (hst : X.stack = X.env :: X.outer) (hfr : X.env.frame = some X.env.locals) (hN : X.N.Nodup) (tk : Takes X W) (he : fa.ex = none)
    (hb : ∀ (W' : WX) (pn : List (Addr × Obj)) (xe : Value → Shared → Prop), Takes (X.tr pn xe) W' → PassesOwn (model X.prog X.w) X.A X.env xe → PSs (X.tr pn xe) body (xS (rc X fa) W' fb)) (hk : HOk X fa (h0 :: hs) l) :
    PS X (.Try body (h0 :: hs) [] [] pos) (xS (rc X fa) W (sTry fb l)) := by
  obtain ⟨l', k1, k2⟩ := clauses_ok hk
  refine impS (ps_clauses hst hfr hN tk hb k1) fun D0 s H ⟨p, n, S, rs, re, h⟩ => ⟨p, n, S, rs, re, (Aft.bind h).imp (fun o p1 S1 H1 hp t rs1 h1 => ?_) fun _ _ _ w => w⟩
  cases o with
  | nx n' => exact aft_ok rs1 h1
  | rt d => exact aft_ok rs1 h1
  | bk n' => exact aft_ok rs1 h1
  | ct n' => exact aft_ok rs1 h1
  | er c fs n' => exact fun s' cls dd re' x => k2 W D0 _ rfl he c fs n' S1 p1 H1 rs1 h1 s' cls dd re' x
/-- e.f of a suite's exception -/
def eFld (f : Str) (fe : E D) : E D := eBnd fe fun d _ S => match d with
  | .exc c [x] => if fldName c = f then .ok x S else .bad
  | _ => .bad
theorem f_xf {a : Addr} {oe : Obj} {c : Nat} {dd : Option Addr} {pn : List (Addr × Obj)} {e : Expr} {fe : E D} {pos : Pos} {f : Str} (T : XfC X.K (fa.fa c)) (hno : PySem.W.findIn X.K (.ref (fa.fa c)) f = some none)
    (hz : Zc (.ref (fa.fa c)) dd oe) (hf : ∃ vs, oe.data = .fields vs) (he : PE (X.suite a ((a, oe) :: pn)) e (xE (rc X (fa.withX (some (a, c, dd)))) W fe)) (hb : attributeBase e f X.env (eval e X.env) = eval e X.env) :
    PE (X.suite a ((a, oe) :: pn)) (.Attribute e f pos) (xE (rc X (fa.withX (some (a, c, dd)))) W (eFld f fe)) :=
  impE (pe_xf T hno hz hf he hb) fun s H Q ⟨p, n, S, rs, re, h⟩ => xE_of rs re h fun d p1 S1 H1 v rs1 re1 hp t rv h1 => by
    cases rv with
    | @exc c2 a2 d2 x v2 he2 hn hd hr =>
      have he3 : (some (a, c, dd) : Option (Addr × Nat × Option Addr)) = some (a2, c2, some d2) := he2
      cases he3
      have h1 : Aft (rc X (fa.withX (some (a, c, some d2)))) p1 H1 (if fldName c = f then .ok x S1 else .bad) _ _ := h1
      by_cases hc : fldName c = f
      · rw [if_pos hc] at h1
        refine ⟨rfl, rfl, d2, [(fldName c, v2)], v2, rfl, hd, ?_, aft_ok rs1 h1 v2 hr⟩
        rw [hc]; simp [List.lookup]
      · rw [if_neg hc] at h1
        exact h1.elim
    | _ => exact h1.elim
end
end Jm

set_option Elab.async false
set_option linter.all false
set_option maxRecDepth 100000
set_option maxHeartbeats 4000000
/-! Jm, part O: what a text does, by its tree (the walk of all of it, once). -/
noncomputable section
namespace Jm
open PySem PySem.Spec PyProof.Rows L2
/-! ### forms -/
def noStar : Expr → Bool
  | .Starred _ _ => false
  | _ => true
def noStars (es : List Expr) : Bool := es.all noStar
def noSet : Expr → Bool
  | .Set _ _ _ => false
  | _ => true
def noComp : Expr → Bool
  | .ListComp _ _ _ _ => false
  | .SetComp _ _ _ _ => false
  | .DictComp _ _ _ _ _ => false
  | _ => true
section
variable {e tg : Expr} {es : List Expr} {env : Env} {pos : Pos}
theorem star_cons (h : noStar e = true) : starEach (e :: es) env = (false, eval e env) :: starEach es env := by cases e <;> first | rfl | cases h
theorem asg_cons (h : noStar e = true) : assignEach (e :: es) env = (false, assign e env) :: assignEach es env := by cases e <;> first | rfl | cases h
theorem stars_any : ∀ {es : List Expr}, noStars es = true → (backTo pos (starEach es env)).any (·.1) = false
  | [], _ => rfl
  | e :: es, h => by
    have h2 : (noStar e && noStars es) = true := h
    rw [Bool.and_eq_true] at h2
    rw [star_cons h2.1]
    show (false || (backTo pos (starEach es env)).any (·.1)) = false
    rw [stars_any h2.2]; rfl
theorem stars_all : ∀ {es : List Expr}, noStars es = true → (backTo pos (starEach es env)).all (fun x => !x.1) = true
  | [], _ => rfl
  | e :: es, h => by
    have h2 : (noStar e && noStars es) = true := h
    rw [Bool.and_eq_true] at h2
    rw [star_cons h2.1]
    show (!false && (backTo pos (starEach es env)).all (fun x => !x.1)) = true
    rw [stars_all h2.2]; rfl
theorem asg_len : ∀ {es : List Expr}, noStars es = true → (assignEach es env).length = es.length ∧ (assignEach es env).findIdx? (·.1) = none
  | [], _ => ⟨rfl, rfl⟩
  | e :: es, h => by
    have h2 : (noStar e && noStars es) = true := h
    rw [Bool.and_eq_true] at h2
    obtain ⟨i1, i2⟩ := asg_len (es := es) h2.2
    rw [asg_cons h2.1]
    refine ⟨congrArg (· + 1) i1, ?_⟩
    rw [List.findIdx?_cons, i2]; rfl
theorem set_no (h : noSet e = true) (x : Value) : foldedSetIterable e env x = pure x := by cases e <;> first | rfl | cases h
theorem sw_no {t : Option Expr} {l : Nat} (h : noComp e = true) : swapsWith e t l env = pure false := by cases e <;> first | rfl | cases h
def kwOk (kws : List Keyword) : Bool := kws.all fun k => k.arg.isSome
def kwNames (kws : List Keyword) : List Str := kws.filterMap fun k => k.arg
theorem kw_all : ∀ {kws : List Keyword}, kwOk kws = true → (backToKw pos (keywordEach kws env)).all (·.1.isSome) = true ∧ (backToKw pos (keywordEach kws env)).any (·.1.isNone) = false
  | [], _ => ⟨rfl, rfl⟩
  | ⟨a, v, q⟩ :: kws, h => by
    have h2 : (a.isSome && kwOk kws) = true := h
    rw [Bool.and_eq_true] at h2
    obtain ⟨i1, i2⟩ := kw_all (kws := kws) h2.2
    refine ⟨?_, ?_⟩
    · show (a.isSome && (backToKw pos (keywordEach kws env)).all (·.1.isSome)) = true
      rw [i1, h2.1]; rfl
    · show (a.isNone || (backToKw pos (keywordEach kws env)).any (·.1.isNone)) = false
      rw [i2]
      cases a with
      | none => exact absurd h2.1 (by simp)
      | some _ => rfl
theorem kw_names : ∀ {kws : List Keyword}, (backToKw pos (keywordEach kws env)).filterMap (·.1) = kwNames kws
  | [] => rfl
  | ⟨a, v, q⟩ :: kws => by
    have ih := kw_names (kws := kws)
    unfold kwNames at ih ⊢
    show List.filterMap (·.1) ((a, _) :: backToKw pos (keywordEach kws env)) = List.filterMap (fun k => k.arg) (⟨a, v, q⟩ :: kws)
    cases a with
    | none => simpa using ih
    | some s => simpa using ih
end
def isTruthForm : Expr → Bool
  | .UnaryOp .Not _ _ => false
  | .BoolOp _ _ _ => false
  | .IfExp _ _ _ _ => false
  | .Compare _ _ _ _ => false
  | _ => true
theorem truth_form {a : Expr} {env : Env} (h : isTruthForm a = true) (whole : Sem Value) : isTrue a env whole = (do let v ← whole; standAt a.pos; holding [v] (truthy v)) := by
  cases a with
  | UnaryOp op e pos => cases op <;> first | rfl | cases h
  | BoolOp => cases h
  | IfExp => cases h
  | Compare => cases h
  | _ => rfl
def slot (N : List Str) (x : Str) : Option Nat := match N with
  | [] => none
  | y :: N => if x = y then some 0 else (slot N x).map (· + 1)
theorem slot_ok : ∀ {N : List Str} {x : Str} {i : Nat}, slot N x = some i → N[i]? = some x
  | [], _, _, h => by cases h
  | y :: N, x, i, h => by
    unfold slot at h
    split at h
    · rename_i e; cases h; subst e; rfl
    · cases e : slot N x with
      | none => rw [e] at h; cases h
      | some j => rw [e] at h; cases h; simpa using slot_ok e
theorem slot_lt {N : List Str} {x : Str} {i : Nat} (h : slot N x = some i) : i < N.length := (List.getElem?_eq_some_iff.mp (slot_ok h)).1

/-! ### the module's names -/
/-- how a def is called by keywords: the positional ones, the names, the order -/
abbrev KwF := Nat × List Str × List Nat
inductive Gv where
  | fn (i : Nat) (ps : List Str) (kf : List KwF)
  | cst (d : D)
  | cls (i : Nat)
  | free
structure Ct where
  N : List Str
  sc : Scope
  fn : Str → Bool
  gl : List (Str × Gv)
  cl : List Nat
  sub : List ((Nat × Nat) × Bool)
  calm : Bool
  cf : CF
section
variable (P : Program) (w : World) (K : PySem.W.Frag) (mg : Str → Option Value) (base : Heap) (fa : Gl0) (cf : CF) (calm : Bool) (d : Nat)
def FnI (i : Nat) (ps : List Str) (kf : List KwF) : Prop := ∃ fd, FnOk P w K mg base (L2.CX P w) d (fa.fa i) fd ps (spF ⟨K, fa.fa, fa.g, fa.ex⟩ (cf i)) ∧ Binds K fd ps [] ∧ PySem.W.keepIn K (.ref (fa.fa i)) = true ∧
  ∀ q ∈ kf, KBn K fd ps q.1 q.2.1 (fun us ws => arr q.2.2 (us ++ ws)) (fun vs zs => arr q.2.2 (vs ++ zs))
def GvOk (x : Str) : Gv → Prop
  | .fn i ps kf => mg x = some (.ref (fa.fa i)) ∧ (calm = true → FnI P w K mg base fa cf d i ps kf)
  | .cls i => mg x = some (.ref (fa.fa i))
  | .cst e => ∃ u v, mg x = some u ∧ RelV v u ∧ ∀ p H, RV ⟨K, fa.fa, fa.g, fa.ex⟩ p H e v
  | .free => mg x = none
end
def flds : List Str := ["given", "index", "reason"]
structure CxOk (c : Ct) (fa : Gl0) (X : Cx) (W : WX) : Prop where
  hN : X.N = c.N
  sc : X.env.scope = c.sc
  fn : X.fn = c.fn
  nd : c.N.Nodup
  calm : c.calm = true → X.calm = true
  tk : Takes X W
  hu : X.A.units + 65 < cLine
  rm : ∃ d, (c.calm = true → Room (d + 2) X.A) ∧ ∀ x g, c.gl.lookup x = some g → GvOk X.prog X.w X.K X.mg X.base fa c.cf c.calm (d + 2) x g
  cls : ∀ i ∈ c.cl, i % 4 ≠ 0 → ClsI X.prog X.w X.K X.mg X.base (fa.fa i) (fldName i)
  fld : ∀ i ∈ c.cl, XfC X.K (fa.fa i) ∧ ∀ f ∈ flds, PySem.W.findIn X.K (.ref (fa.fa i)) f = some none
  sub : ∀ q ∈ c.sub, PySem.W.exmOne X.K (.ref (fa.fa q.1.1)) (.ref (fa.fa q.1.2)) = some q.2
  exn : c.calm = true → fa.ex = none
  sui : c.calm = false → ∃ (X0 : Cx) (a : Addr) (oe : Obj) (i : Nat) (dd : Option Addr) (pn : List (Addr × Obj)), X = X0.suite a ((a, oe) :: pn) ∧ fa.ex = some (a, i, dd) ∧ i ∈ c.cl ∧ Zc (.ref (fa.fa i)) dd oe ∧ ∃ vs, oe.data = .fields vs
theorem CxOk.w0 {c : Ct} {fa : Gl0} {X : Cx} {W : WX} (o : CxOk c fa X W) : CxOk c fa X W0 := { o with tk := takes0 }
def glob (c : Ct) (x : Str) : Option Gv := match c.sc.names.lookup x with
  | some .globalImplicit => if x = "__debug__" ∨ x = "__name__" then none else c.gl.lookup x
  | _ => none
theorem glob_ok {c : Ct} {fa : Gl0} {X : Cx} {W : WX} (o : CxOk c fa X W) {x : Str} {g : Gv} (h : glob c x = some g) : Gl X x ∧ (x == ("__debug__" : Str)) = false ∧ x ≠ "__name__" ∧ c.gl.lookup x = some g := by
  unfold glob at h
  split at h
  · rename_i e
    split at h
    · cases h
    · rename_i n
      refine ⟨?_, by simpa using fun z => n (.inl z), fun z => n (.inr z), h⟩
      show X.env.scope.names.lookup x = _
      rw [o.sc]; exact e
  · cases h
def isFree (c : Ct) (x : Str) : Bool := match glob c x with
  | some .free => true
  | _ => false
theorem free_ok {c : Ct} {fa : Gl0} {X : Cx} {W : WX} (o : CxOk c fa X W) {x : Str} (h : isFree c x = true) : Gl X x ∧ (x == ("__debug__" : Str)) = false ∧ x ≠ "__name__" ∧ X.mg x = none := by
  unfold isFree at h
  split at h
  · rename_i e
    obtain ⟨a, b, c', d⟩ := glob_ok o e
    obtain ⟨_, _, q⟩ := o.rm
    exact ⟨a, b, c', q _ _ d⟩
  · cases h

/-! ### built-in functions and types -/
def bifs2 (x : Str) : Option Prim :=
  if x = "sorted" then some sortedD else none
def bifs (x : Str) : Option Prim :=
  if x = "len" then some lenD else if x = "abs" then some absD else if x = "divmod" then some divmodD else if x = "max" then some (aggD maxI) else if x = "min" then some (aggD minI)
  else if x = "sum" then some sumD else if x = "all" then some (quanD fun bs => bs.all id) else if x = "any" then some (quanD fun bs => bs.any id) else if x = "isinstance" then some instD
  else if x = "int" then some intD else if x = "tuple" then some tupleD else if x = "list" then some listD else bifs2 x
def tyns (x : Str) : Option Tn :=
  if x = "int" then some .int else if x = "bool" then some .bool else if x = "str" then some .str else if x = "tuple" then some .tuple else if x = "list" then some .list else if x = "dict" then some .dict else none
theorem bif2_ok {X : Cx} {fa : Gl0} {x : Str} {g : Prim} (hc : X.calm = true) (h : bifs2 x = some g) :
    (∃ id, bootBuiltins x = some (.builtin id) ∧ CallR X (.builtin id) (xN (rc X fa) g)) ∨ ∃ T, bootBuiltins x = some (.type T) ∧ CallR X (.type T) (xN (rc X fa) g) := by
  unfold bifs2 at h
  split at h
  · rename_i e; subst e; cases h; exact .inl ⟨_, by decide +kernel, call_sortedJ⟩
  · cases h
theorem bif_ok {X : Cx} {fa : Gl0} {x : Str} {g : Prim} (hc : X.calm = true) (h : bifs x = some g) :
    (∃ id, bootBuiltins x = some (.builtin id) ∧ CallR X (.builtin id) (xN (rc X fa) g)) ∨ ∃ T, bootBuiltins x = some (.type T) ∧ CallR X (.type T) (xN (rc X fa) g) := by
  unfold bifs at h
  split at h
  · rename_i e; subst e; cases h; exact .inl ⟨_, by decide +kernel, call_lenJ⟩
  split at h
  · rename_i e; subst e; cases h; exact .inl ⟨_, by decide +kernel, call_absJ⟩
  split at h
  · rename_i e; subst e; cases h; exact .inl ⟨_, by decide +kernel, call_divmodJ⟩
  split at h
  · rename_i e; subst e; cases h; exact .inl ⟨_, by decide +kernel, call_maxJ hc⟩
  split at h
  · rename_i e; subst e; cases h; exact .inl ⟨_, by decide +kernel, call_minJ hc⟩
  split at h
  · rename_i e; subst e; cases h; exact .inl ⟨_, by decide +kernel, call_sumJ hc⟩
  split at h
  · rename_i e; subst e; cases h; exact .inl ⟨_, by decide +kernel, call_allJ hc⟩
  split at h
  · rename_i e; subst e; cases h; exact .inl ⟨_, by decide +kernel, call_anyJ hc⟩
  split at h
  · rename_i e; subst e; cases h; exact .inl ⟨_, by decide +kernel, call_isJ⟩
  split at h
  · rename_i e; subst e; cases h; exact .inr ⟨_, by decide +kernel, call_intJ⟩
  split at h
  · rename_i e; subst e; cases h; exact .inr ⟨_, by decide +kernel, call_tupleJ⟩
  split at h
  · rename_i e; subst e; cases h; exact .inr ⟨_, by decide +kernel, call_listJ⟩
  · exact bif2_ok hc h
theorem tyn_ok {x : Str} {t : Tn} (h : tyns x = some t) : bootBuiltins x = some (.type t.name) := by
  unfold tyns at h
  split at h
  · rename_i e; subst e; cases h; decide +kernel
  split at h
  · rename_i e; subst e; cases h; decide +kernel
  split at h
  · rename_i e; subst e; cases h; decide +kernel
  split at h
  · rename_i e; subst e; cases h; decide +kernel
  split at h
  · rename_i e; subst e; cases h; decide +kernel
  split at h
  · rename_i e; subst e; cases h; decide +kernel
  · cases h
def meths (x : Str) : Option (Tn × MPrim) :=
  if x = "append" then some (.list, appendD) else if x = "extend" then some (.list, extendD) else if x = "pop" then some (.list, popXD) else none
theorem meth_ok {X : Cx} {fa : Gl0} {x : Str} {q : Tn × MPrim} (h : meths x = some q) : MtI X fa q.1 x q.2 := by
  unfold meths at h
  split at h
  · rename_i e; subst e; cases h; exact m_append
  split at h
  · rename_i e; subst e; cases h; exact m_extend
  split at h
  · rename_i e; subst e; cases h; exact m_popX
  · cases h
end Jm

set_option Elab.async false
set_option linter.all false
set_option maxRecDepth 100000
set_option maxHeartbeats 4000000
/-! Jm, part P: the reading of a text, computed; that it is one. -/
noncomputable section
namespace Jm
open PySem PySem.Spec PyProof.Rows L2
def eBad {A : Type} : E A := fun _ _ => .bad
def gBad : G := fun _ _ _ => .bad
/-- one clause of a comprehension, read -/
structure LcP where
  f : E Itn
  vs : List Nat
  g : G
  t : E Bool
  fe : E D
def LcP.den (q : LcP) : E D := eLc q.f q.vs q.g q.t q.fe
/-- the readings of parts -/
structure Dn where
  e : Ct → Expr → E D
  t : Ct → Expr → E Bool
  w : Ct → Expr → E Bool
  g : List Nat → Ct → Expr → G
  s : Ct → Stmt → E Out
def Ct.blk (c : Ct) (scope : Scope) : Ct := { c with sc := relS scope c.sc, fn := fun x => scope.names.lookup x == some .cell }
def ownOf (N : List Str) (scope : Scope) : List (Str × Nat) := scope.names.filterMap fun y => match y.2 with
  | .local => (slot N y.1).map fun i => (y.1, i)
  | .cell => (slot N y.1).map fun i => (y.1, i)
  | _ => none
def locOk (c : Ct) (x : Str) : Bool := match c.sc.names.lookup x with
  | some .local => true
  | some .cell => c.fn x
  | _ => false
def visOk (c : Ct) (x : Str) : Bool := match c.sc.names.lookup x with
  | some .local => true
  | some .cell => true
  | some .free => true
  | _ => false
section
variable (d : Dn) (c : Ct)
def dAll (es : List Expr) : List (E D) := es.map (d.e c)
def dKws (ks : List Keyword) : List (E D) := ks.map fun k => d.e c k.value
def dName (x : Str) : E D :=
  if visOk c x = true then (if x = "__debug__" ∨ x = "__classdict__" then eBad else match slot c.N x with
    | some i => eVar i
    | none => eBad)
  else match glob c x with
    | some (.cst v) => eCst v
    | some (.fn i _ _) => eCst (.fn i)
    | some (.cls i) => eCst (.fn i)
    | some .free => (match tyns x with
      | some t => eCst (.ty t)
      | none => eBad)
    | none => eBad
def dCst : Const → E D
  | .none => eCst .non
  | .bool b => eCst (.bl b)
  | .int i => eCst (.int i)
  | .str x => eCst (.str x)
  | _ => eBad
def dListRg (x : Str) (es : List Expr) : Option (E D) := match es with
  | [.Call (.Name y _) [a] [] _] => if x = "list" ∧ y = "range" ∧ noStar a = true ∧ isFree c y = true then some (eOp1 lstRg (d.e c a)) else none
  | _ => none
def dCallN (x : Str) (es : List Expr) (kws : List Keyword) : E D :=
  if noStars es = true ∧ kwOk kws = true ∧ c.calm = true then
    match glob c x with
    | some (.fn i ps kf) => if kws.isEmpty = true then eCall (c.cf i) (dAll d c es) else (match kf.find? fun q => decide (q.1 = es.length ∧ q.2.1 = kwNames kws) with
      | some q => eCallK (c.cf i) q.1 q.2.1.length q.2.2 (dAll d c es) (dKws d c kws)
      | none => eBad)
    | some .free => if kws.isEmpty = true ∧ es.isEmpty = false then (match dListRg d c x es with
      | some f => f
      | none => (match bifs x with
      | some g => eOpN g (dAll d c es)
      | none => eBad)) else eBad
    | _ => eBad
  else eBad
def notCall : Expr → Bool
  | .Call _ _ _ _ => false
  | _ => true
def dMeth (o : Expr) (name : Str) (es : List Expr) (line : Bool) : E D :=
  if c.calm = true ∧ noStars es = true ∧ line = true ∧ es.length < 30 ∧ notCall o = true then
    match meths name with
    | some q => eMeth q.1 q.2 (d.e c o) (dAll d c es)
    | none => eBad
  else eBad
def dPart : Option Expr → Option (E D)
  | none => none
  | some e => some (d.e c e)
def dSub (a i : Expr) : E D := match i with
  | .Slice lo hi none _ => eSlc (d.e c a) (dPart d c lo) (dPart d c hi)
  | .Slice none none (some st) _ => if isM1 st = true then eOp1 revD (d.e c a) else eBad
  | i => if noSlice i = true then eOp2 idxD (d.e c a) (d.e c i) else eBad
def isTup : Expr → Bool
  | .Tuple _ _ _ => true
  | _ => false
def dItCall (tg : Expr) (x : Str) (es : List Expr) : Option (E Itn) := match es with
  | [a] => if noStar a = true then (if x = "range" then some (iRng rng1 [d.e c a]) else if x = "reversed" then some (iRevd (d.e c a)) else if x = "enumerate" then (if isTup tg = true then some (iEnum (d.e c a)) else some eBad) else none) else none
  | [a, b] => if noStar a = true ∧ noStar b = true then (if x = "range" then some (iRng rng2 [d.e c a, d.e c b]) else if x = "zip" then (if isTup tg = true then some (iZip (d.e c a) (d.e c b)) else some eBad) else none) else none
  | [a, b, e] => if noStar a = true ∧ noStar b = true ∧ noStar e = true then (if x = "range" then some (iRng rng3 [d.e c a, d.e c b, d.e c e]) else none) else none
  | _ => none
def dIt (tg iter : Expr) : E Itn := match iter with
  | .Call (.Name x _) es [] _ => if isFree c x = true then (match dItCall d c tg x es with
    | some f => f
    | none => iVal (d.e c iter)) else iVal (d.e c iter)
  | _ => iVal (d.e c iter)
def dTests (c' : Ct) : List Expr → Option (E Bool)
  | [] => some tTru
  | [t] => some (d.t c' t)
  | _ => none
def dLc (elt : Expr) (gs : List Comprehension) (scope : Scope) : Option LcP := match gs with
  | [⟨tg, iter, ifs, a⟩] => if c.calm = true ∧ a = 0 ∧ blkC c.N c.sc scope (ownOf c.N scope) = true ∧ noSet iter = true then
      (dTests d (c.blk scope) ifs).map fun t => ⟨dIt d c tg iter, (ownOf c.N scope).map (·.2), d.g ((ownOf c.N scope).map (·.2)) (c.blk scope) tg, t, d.e (c.blk scope) elt⟩
    else none
  | _ => none
def stepE : Expr → E D
  | .Name x _ => dName c x
  | .Constant k _ _ => dCst k
  | .BinOp a op b _ => match binD op with
    | some g => eOp2 g (d.e c a) (d.e c b)
    | none => eBad
  | .UnaryOp op a _ => match op with
    | .USub => eOp1 negD (d.e c a)
    | .Not => eNot (d.e c a)
    | _ => eBad
  | .BoolOp op [a] _ => d.e c a
  | .BoolOp op (a :: b :: es) pos => match op with
    | .And => eAnd (d.e c a) (d.e c (.BoolOp .And (b :: es) pos))
    | .Or => eOr (d.e c a) (d.e c (.BoolOp .Or (b :: es) pos))
  | .Compare a [op] [b] _ => if behindInMarks op b = false then eOp2 (cmpD op) (d.e c a) (d.e c b) else eBad
  | .Compare a [op, op'] [b, e] _ => if lastMarks [op, op'] [b, e] = false then eChain (cmpD op) (cmpD op') (d.e c a) (d.e c b) (d.e c e) else eBad
  | .IfExp t a b _ => eIf (d.t c t) (d.e c a) (d.e c b)
  | .Tuple es _ _ => if noStars es = true then eOpN mkTup (dAll d c es) else eBad
  | .List es _ => if noStars es = true then eOpN mkLst (dAll d c es) else eBad
  | .Subscript a i _ => dSub d c a i
  | .Call (.Name x _) es kws _ => dCallN d c x es kws
  | .Call (.Attribute o name apos) es [] pos => dMeth d c o name es (apos.endLine == pos.line)
  | .Attribute e f _ => if c.calm = false ∧ notCall e = true ∧ f ∈ flds then eFld f (d.e c e) else eBad
  | .ListComp elt gs scope _ => match dLc d c elt gs scope with
    | some q => q.den
    | none => eBad
  | _ => eBad
def stepW : Expr → E Bool
  | .BoolOp op [a] _ => d.t c a
  | .BoolOp op (a :: b :: es) pos => match op with
    | .And => eAndT (d.t c a) (d.w c (.BoolOp .And (b :: es) pos))
    | .Or => eOrT (d.t c a) (d.w c (.BoolOp .Or (b :: es) pos))
  | _ => eBad
def stepT : Expr → E Bool
  | .UnaryOp .Not a _ => eNotT (d.t c a)
  | .BoolOp op es pos => stepW d c (.BoolOp op es pos)
  | .IfExp t a b _ => eIf (d.t c t) (d.t c a) (d.t c b)
  | .Compare a [op] [b] _ => if behindInMarks op b = false then eBl (eOp2 (cmpD op) (d.e c a) (d.e c b)) else eBad
  | .Compare a [op, op'] [b, e] _ => if lastMarks [op, op'] [b, e] = false then eBl (eChain (cmpD op) (cmpD op') (d.e c a) (d.e c b) (d.e c e)) else eBad
  | e => if isTruthForm e = true then eTru (d.e c e) else eBad
def stepG (vs : List Nat) : Expr → G
  | .Name x _ => match slot c.N x with
    | some i => if i ∈ vs ∧ locOk c x = true then gNam i else gBad
    | none => gBad
  | .Tuple es _ _ => if c.calm = true ∧ noStars es = true then gTupl (es.map (d.g vs c)) else gBad
  | .Subscript o i _ => if noSlice i = true then gSubs (d.e c o) (d.e c i) else gBad
  | _ => gBad
/-- which stores are exchanged -/
def swp (sc : Scope) (ts vs : List Expr) : Option (Option (List Str)) :=
  if (!(ts.length == 2 || ts.length == 3) || vs.length != ts.length || sc.kind != .function) = true then some none
  else if (vs.any fun | .Starred .. => true | _ => false) = true then some none
  else
    let line := (ts.head?.map (·.pos.line)).getD 0
    let names := ts.filterMap fun
      | .Name id pos => if sc.names.lookup id == some .local && pos.line == line then some id else none
      | _ => none
    if (names.length != ts.length || names.eraseDups.length != names.length) = true then some none
    else if vs.all (foldedForSure 8) = true then some none
    else if vs.all (constantsAlone 8) = true then none
    else some (some names)
def dss (sts : List Stmt) : E Out := sts.foldr (fun st r => sSeq (d.s c st) r) sNil
def allS : List Nat := List.range c.N.length
def dPar (ts vs : List Expr) (ns : List Str) : E Out := match ts, vs with
  | [.Name x _, .Name y _], [a, b] => match slot c.N x, slot c.N y with
    | some i, some j => if c.calm = true ∧ i ≠ j ∧ noStar a = true ∧ noStar b = true ∧ ns = [x, y] ∧ c.sc.names.lookup x = some .local ∧ c.sc.names.lookup y = some .local then sPar i j (d.e c a) (d.e c b) else eBad
    | _, _ => eBad
  | _, _ => eBad
def dAsg (tg e : Expr) : E Out := match tg, e with
  | .Tuple ts k p, .Tuple vs k2 p2 => if c.sc.kind = .function then (match swp c.sc ts vs with
    | some none => sAsgn (d.e c e) (d.g (allS c) c tg)
    | some (some ns) => dPar d c ts vs ns
    | none => eBad) else eBad
  | .Name y py, .ListComp elt gs scope p => if c.sc.kind = .function ∧ c.sc.names.lookup y = some .local ∧ (py.line == p.line) = true ∧ (scope.names.any fun (n, k) => n == y && (k == .local || k == .cell)) = false then
      (match slot c.N y, dLc d c elt gs scope with
      | some i, some q => sAsgn q.den (gNam i)
      | _, _ => eBad) else eBad
  | .List _ _, _ => eBad
  | tg, e => if noStar tg = true ∧ noComp e = true then sAsgn (d.e c e) (d.g (allS c) c tg) else eBad
/-- the clauses of a try -/
def dCls : List ExceptHandler → Option (List HC)
  | [] => some []
  | .ExceptHandler (some (.Name x _)) nm (b :: su) _ :: hs => match glob c x, dCls hs with
    | some (.cls j), some l => (match nm with
      | none => some (⟨fun i => if i ∈ c.cl then c.sub.lookup (i, j) else none, none, dss d { c with calm := false } (b :: su)⟩ :: l)
      | some n => if c.sc.names.lookup n = some .local then (match slot c.N n with
        | some i => some (⟨fun i => if i ∈ c.cl then c.sub.lookup (i, j) else none, some i, dss d { c with calm := false } (b :: su)⟩ :: l)
        | none => none) else none)
    | _, _ => none
  | _ => none
def stepS : Stmt → E Out
  | .Expr (.Constant (.str _) _ _) _ => sNil
  | .Expr e _ => if noComp e = true then sExp (d.e c e) else eBad
  | .Assign [tg] e _ => dAsg d c tg e
  | .If t a b _ => sIf (d.t c t) (dss d c a) (dss d c b)
  | .For tg iter body [] _ => if c.calm = true ∧ noSet iter = true then sFor (dIt d c tg iter) (d.g (allS c) c tg) (dss d c body) else eBad
  | .While t body [] _ => if c.calm = true then sWhile (d.t c t) (dss d c body) else eBad
  | .Return (some e) _ => sRet (d.e c e)
  | .Return none _ => sRetN
  | .Pass _ => sNil
  | .Break _ => sBrk
  | .Continue _ => sCnt
  | .Raise (some (.Call (.Name x _) [e] [] _)) none _ => (match glob c x with
    | some (.cls i) => if c.calm = true ∧ noStar e = true ∧ i % 4 ≠ 0 ∧ i ∈ c.cl then sRaise i [d.e c e] else eBad
    | _ => eBad)
  | .Try body (h0 :: hs) [] [] _ => if c.calm = true then (match dCls d c (h0 :: hs) with
    | some l => sTry (dss d c body) l
    | none => eBad) else eBad
  | _ => eBad
end
def step (d : Dn) : Dn := ⟨stepE d, stepT d, stepW d, fun vs c => stepG d c vs, stepS d⟩
def den : Nat → Dn
  | 0 => ⟨fun _ _ => eBad, fun _ _ => eBad, fun _ _ => eBad, fun _ _ _ => gBad, fun _ _ => eBad⟩
  | n + 1 => step (den n)

/-! ### nothing is promised -/
section
variable {X : Cx} {fa : Gl0} {W : WX} {e : Expr} {es : List Expr} {st : Stmt} {sts : List Stmt}
theorem b_e : PE X e (xE (rc X fa) W eBad) := ⟨fun pins s σ H Q I ⟨_, _, _, _, _, h⟩ => h.elim⟩
theorem b_t : PT X e (xT (rc X fa) W eBad) := ⟨fun pins s σ H Q I ⟨_, _, _, _, _, h⟩ => h.elim⟩
theorem b_w : PW X e (xT (rc X fa) W eBad) := ⟨fun wh pins s σ H Q I ⟨_, _, _, _, _, h⟩ => h.elim⟩
theorem b_g {vs : List Nat} : PG X e (xG (rc X fa) W vs gBad) := ⟨fun pins s σ H v u Q I r ⟨_, _, _, _, _, _, _, h⟩ => h.elim⟩
theorem b_s : PS X st (xS (rc X fa) W eBad) := ⟨fun pins s σ H D I ⟨_, _, _, _, _, h⟩ => h.elim⟩
theorem b_i {tg : Expr} : PI X tg e (xI (rc X fa) W eBad) := impI (fi_val (fa := fa) (W := W) b_e) fun s H Q ⟨_, _, _, _, _, h⟩ => False.elim h
theorem and1_e {op : BoolOp} {pos : Pos} {t : TE} (h : PE X e t) : PE X (.BoolOp op [e] pos) t := ⟨fun pins s σ H Q I hw => h.run pins s σ H Q I hw⟩
end
end Jm

set_option Elab.async false
set_option linter.all false
set_option maxRecDepth 100000
set_option maxHeartbeats 4000000
/-! Jm, part Q: the computed reading is one. -/
noncomputable section
namespace Jm
open PySem PySem.Spec PyProof.Rows L2
/-- what statements want of the context -/
structure StOk (c : Ct) (X : Cx) : Prop where
  ps : c.calm = true → PassesOwn (model X.prog X.w) X.A X.env X.xe
  st : c.calm = true → X.stack = X.env :: X.outer
  fr : c.calm = true → X.env.frame = some X.env.locals
structure Snd (d : Dn) : Prop where
  e : ∀ {fa : Gl0} {c : Ct} {X : Cx} {W : WX}, CxOk c fa X W → ∀ e, PE X e (xE (rc X fa) W (d.e c e))
  t : ∀ {fa : Gl0} {c : Ct} {X : Cx} {W : WX}, CxOk c fa X W → ∀ e, PT X e (xT (rc X fa) W (d.t c e))
  w : ∀ {fa : Gl0} {c : Ct} {X : Cx} {W : WX}, CxOk c fa X W → ∀ e, PW X e (xT (rc X fa) W (d.w c e))
  g : ∀ {fa : Gl0} {c : Ct} {X : Cx} {W : WX}, CxOk c fa X W → ∀ vs tg, PG X tg (xG (rc X fa) W vs (d.g vs c tg))
  s : ∀ {fa : Gl0} {c : Ct} {X : Cx} {W : WX}, CxOk c fa X W → StOk c X → ∀ st, PS X st (xS (rc X fa) W (d.s c st))
section
variable {fa : Gl0} {d : Dn} {c : Ct} {X : Cx} {W : WX}
theorem band {a b : Bool} (h : (a && b) = true) : a = true ∧ b = true := Bool.and_eq_true_iff.mp h
theorem q_all (S : Snd d) (o : CxOk c fa X W) : ∀ {es : List Expr}, noStars es = true → PA X es (xA (rc X fa) W (eAll (dAll d c es)))
  | [], _ => f_nil
  | e :: es, h => f_cons (S.e o e) (q_all S o (band h).2) (star_cons (band h).1)
theorem q_kws (S : Snd d) (o : CxOk c fa X W) : ∀ {ks : List Keyword}, PK X ks (xA (rc X fa) W (eAll (dKws d c ks)))
  | [] => f_knil
  | ⟨a, v, q⟩ :: ks => f_kcons (S.e o v) (q_kws S o)
theorem q_name (o : CxOk c fa X W) {x : Str} {pos : Pos} : PE X (.Name x pos) (xE (rc X fa) W (dName c x)) := by
  unfold dName
  by_cases hv : visOk c x = true
  · rw [if_pos hv]
    by_cases hb : x = "__debug__" ∨ x = "__classdict__"
    · rw [if_pos hb]; exact b_e
    · rw [if_neg hb]
      cases hs : slot c.N x with
      | none => exact b_e
      | some i =>
        refine f_var (by rw [o.hN]; exact slot_ok hs) ?_ (by simpa using fun z => hb (.inl z)) (by simpa using fun z => hb (.inr z))
        rw [o.sc]
        unfold visOk at hv
        split at hv
        · rename_i e; exact .inl e
        · rename_i e; exact .inr (.inl e)
        · rename_i e; exact .inr (.inr e)
        · cases hv
  · rw [if_neg hv]
    cases hg : glob c x with
    | none => exact b_e
    | some g =>
      obtain ⟨h1, h2, h3, h4⟩ := glob_ok o hg
      obtain ⟨dd, _, q⟩ := o.rm
      have hq := q _ _ h4
      cases g with
      | fn i ps kf => exact f_cst (pe_glob (v := .ref (fa.fa i)) h1 hq.1 rfl h2) fun p H => .fn (R := rc X fa) i
      | cls i => exact f_cst (pe_glob (v := .ref (fa.fa i)) h1 hq rfl h2) fun p H => .fn (R := rc X fa) i
      | cst e =>
        obtain ⟨u, v, e1, e2, e3⟩ := hq
        exact f_cst (pe_glob h1 e1 e2 h2) e3
      | free =>
        show PE X _ (xE (rc X fa) W (match tyns x with | some t => eCst (.ty t) | none => eBad))
        cases ht : tyns x with
        | none => exact b_e
        | some t => exact f_cst (pe_bltn (v := .ty t.name) h1 hq (tyn_ok ht) rfl h3 h2) fun p H => .ty t
theorem q_cst {k : Const} {j : Nat} {pos : Pos} : PE X (.Constant k j pos) (xE (rc X fa) W (dCst k)) := by
  cases k with
  | none => exact f_cst pe_non fun _ _ => .non
  | bool b => exact f_cst pe_bl fun _ _ => .bl b
  | int i => exact f_cst pe_int fun _ _ => .int i
  | str x => exact f_cst pe_str fun _ _ => .str x
  | _ => exact b_e
theorem q_listRg (S : Snd d) (o : CxOk c fa X W) (hcm : c.calm = true) {x : Str} {q : Pos} {es : List Expr} {pos : Pos} {f : E D} (hg : Gl X x) (hm : X.mg x = none) (h : dListRg d c x es = some f) : PE X (.Call (.Name x q) es [] pos) (xE (rc X fa) W f) := by
  unfold dListRg at h
  split at h
  · split at h
    · rename_i hh
      obtain ⟨e1, e2, e3, e4⟩ := hh
      cases h
      subst e1 e2
      obtain ⟨g1, _, _, g4⟩ := free_ok o e4
      exact f_lstRg (o.calm hcm) hg hm g1 g4 (S.e o _) (star_cons e3)
    · cases h
  · cases h
theorem q_callN (S : Snd d) (o : CxOk c fa X W) {x : Str} {q : Pos} {es : List Expr} {kws : List Keyword} {pos : Pos} : PE X (.Call (.Name x q) es kws pos) (xE (rc X fa) W (dCallN d c x es kws)) := by
  unfold dCallN
  by_cases hst : noStars es = true ∧ kwOk kws = true ∧ c.calm = true
  · rw [if_pos hst]
    obtain ⟨hes, hkw, hcm⟩ := hst
    cases hg : glob c x with
    | none => exact b_e
    | some g =>
      obtain ⟨h1, h2, h3, h4⟩ := glob_ok o hg
      obtain ⟨dd, hr, hq⟩ := o.rm
      have hr := hr hcm
      have hq := hq _ _ h4
      cases g with
      | cst e => exact b_e
      | cls i => exact b_e
      | fn i ps kf =>
        obtain ⟨hm, hq⟩ := hq
        obtain ⟨fd, F, hb, hk, hkb⟩ := hq hcm
        show PE X _ (xE (rc X fa) W (if kws.isEmpty = true then eCall (c.cf i) (dAll d c es) else (match kf.find? fun q => decide (q.1 = es.length ∧ q.2.1 = kwNames kws) with
          | some q => eCallK (c.cf i) q.1 q.2.1.length q.2.2 (dAll d c es) (dKws d c kws)
          | none => eBad)))
        by_cases hke : kws.isEmpty = true
        · rw [if_pos hke]
          cases kws with
          | cons a b => cases hke
          | nil =>
            cases es with
            | nil => exact f_call0 F o.tk hr h1 hm hk hb h2
            | cons e es => exact f_call F o.tk hr h1 hm hk hb (q_all S o hes) h2 (star_cons (band hes).1) (stars_any (band hes).2)
        · rw [if_neg hke]
          cases hf : kf.find? fun q => decide (q.1 = es.length ∧ q.2.1 = kwNames kws) with
          | none => exact b_e
          | some r =>
            obtain ⟨n, ks, ix⟩ := r
            have hn : n = es.length ∧ ks = kwNames kws := by simpa using List.find?_some hf
            have hb2 := hkb _ (List.mem_of_find?_eq_some hf)
            have ha := kw_all (pos := pos) (env := X.env) hkw
            cases es with
            | nil => exact f_callK0 F o.tk hr h1 hm hk hb2 (q_kws S o) ha.1 (kw_names.trans hn.2.symm) h2 (by rw [ha.2]; rfl)
            | cons e es => exact f_callK F o.tk hr h1 hm hk hb2 (q_all S o hes) (q_kws S o) ha.1 (kw_names.trans hn.2.symm) h2 (star_cons (band hes).1) (by rw [ha.2, stars_any hes]; rfl)
      | free =>
        show PE X _ (xE (rc X fa) W (if kws.isEmpty = true ∧ es.isEmpty = false then (match dListRg d c x es with
          | some f => f
          | none => (match bifs x with
          | some g => eOpN g (dAll d c es)
          | none => eBad)) else eBad))
        by_cases hke : kws.isEmpty = true ∧ es.isEmpty = false
        · rw [if_pos hke]
          cases kws with
          | cons a b => exact absurd hke.1 (by simp)
          | nil =>
            cases es with
            | nil => exact absurd hke.2 (by simp)
            | cons e es =>
              cases hlr : dListRg d c x (e :: es) with
              | some f => exact q_listRg S o hcm h1 hq hlr
              | none =>
              dsimp only
              cases hbf : bifs x with
              | none => exact b_e
              | some g =>
                rcases bif_ok (fa := fa) (o.calm hcm) hbf with ⟨id, b1, b2⟩ | ⟨T, b1, b2⟩
                · exact f_bif b2 h1 hq b1 (q_all S o hes) h3 h2 (star_cons (band hes).1) (stars_any (band hes).2)
                · exact f_bty b2 h1 hq b1 (q_all S o hes) h3 h2 (star_cons (band hes).1) (stars_any (band hes).2)
        · rw [if_neg hke]; exact b_e
  · rw [if_neg hst]; exact b_e
theorem base_no {o : Expr} {name : Str} {env : Env} (h : notCall o = true) : attributeBase o name env (eval o env) = eval o env := by
  cases o <;> first | rfl | cases h
theorem q_meth (S : Snd d) (o : CxOk c fa X W) {b : Expr} {name : Str} {es : List Expr} {apos pos : Pos} : PE X (.Call (.Attribute b name apos) es [] pos) (xE (rc X fa) W (dMeth d c b name es (apos.endLine == pos.line))) := by
  unfold dMeth
  split
  · rename_i h
    obtain ⟨_, h1, h2, h3, h5⟩ := h
    cases hm : meths name with
    | none => exact b_e
    | some q =>
      have M := meth_ok (X := X) (fa := fa) hm
      cases es with
      | nil => exact f_meth0 M (S.e o b) (base_no h5) h2
      | cons e es =>
        refine f_meth M (S.e o b) (q_all S o h1) (base_no h5) ?_ h2 (star_cons (band h1).1) (stars_any (band h1).2)
        rw [stars_all h1]
        have : (e :: es).length + ([] : List Keyword).length + (if ([] : List Keyword).isEmpty then 0 else 1) < 30 := h3
        simp only [Bool.true_and, Bool.and_eq_true, decide_eq_true_eq]
        exact ⟨rfl, this⟩
  · exact b_e
theorem q_part (S : Snd d) (o : CxOk c fa X W) : ∀ e : Option Expr, PO X e (xO (rc X fa) W (ePart (dPart d c e)))
  | none => o_none
  | some e => o_some (S.e o e)
theorem q_sub (S : Snd d) (o : CxOk c fa X W) {a i : Expr} {pos : Pos} : PE X (.Subscript a i pos) (xE (rc X fa) W (dSub d c a i)) := by
  have other : ∀ {i : Expr}, noSlice i = true → PE X (.Subscript a i pos) (xE (rc X fa) W (eOp2 idxD (d.e c a) (d.e c i))) := fun h => f_idx o.hu (S.e o a) (S.e o _) h
  cases i with
  | Slice lo hi st p =>
    cases st with
    | none => exact f_slc (S.e o a) (q_part S o lo) (q_part S o hi)
    | some st =>
      cases lo with
      | none =>
        cases hi with
        | none =>
          show PE X _ (xE (rc X fa) W (if isM1 st = true then eOp1 revD (d.e c a) else eBad))
          split
          · rename_i h; exact f_rev h (S.e o a)
          · exact b_e
        | some _ => exact b_e
      | some _ => exact b_e
  | _ => exact other rfl
theorem q_itcall (S : Snd d) (o : CxOk c fa X W) {tg : Expr} {x : Str} {q pos : Pos} {es : List Expr} {f : E Itn} (hx : isFree c x = true) (h : dItCall d c tg x es = some f) : PI X tg (.Call (.Name x q) es [] pos) (xI (rc X fa) W f) := by
  obtain ⟨h1, h2, h3, h4⟩ := free_ok o hx
  unfold dItCall at h
  split at h
  · rename_i a
    split at h
    · rename_i ha
      split at h
      · rename_i e; subst e; cases h
        exact fi_rng1 h1 h4 (q_all S o (es := [a]) (by simp [noStars, ha])) (star_cons ha)
      split at h
      · rename_i e; subst e; cases h
        exact fi_rev h1 h4 (S.e o a) (star_cons ha)
      split at h
      · rename_i e; subst e
        cases tg with
        | Tuple elts k p =>
          cases h
          exact fi_enum h1 h4 (S.e o a) (star_cons ha)
        | _ => cases h; exact b_i
      · cases h
    · cases h
  · rename_i a b
    split at h
    · rename_i hab
      split at h
      · rename_i e; subst e; cases h
        exact fi_rng2 h1 h4 (q_all S o (es := [a, b]) (by simp [noStars, hab.1, hab.2])) (by rw [star_cons hab.1, star_cons hab.2]; rfl) (star_cons hab.2)
      split at h
      · rename_i e; subst e
        cases tg with
        | Tuple elts k p =>
          cases h
          exact fi_zip h1 h4 (S.e o a) (S.e o b) (star_cons hab.1) (star_cons hab.2) (stars_any (by simp [noStars, hab.2]))
        | _ => cases h; exact b_i
      · cases h
    · cases h
  · rename_i a b e
    split at h
    · rename_i hab
      split at h
      · rename_i e; subst e; cases h
        exact fi_rng3 h1 h4 (q_all S o (es := [a, b, e]) (by simp [noStars, hab.1, hab.2.1, hab.2.2])) (star_cons hab.1) (stars_any (by simp [noStars, hab.2.1, hab.2.2]))
      · cases h
    · cases h
  · cases h
theorem q_it (S : Snd d) (o : CxOk c fa X W) {tg iter : Expr} : PI X tg iter (xI (rc X fa) W (dIt d c tg iter)) := by
  unfold dIt
  split
  · rename_i x q es pos
    split
    · rename_i hx
      cases h : dItCall d c tg x es with
      | some f => exact q_itcall S o hx h
      | none => exact fi_val (S.e o _)
    · exact fi_val (S.e o _)
  · exact fi_val (S.e o _)
/-- a block's context -/
theorem CxOk.blk (o : CxOk c fa X W) (hcm : c.calm = true) {scope : Scope} {s : Shared} {H : Hp} {C : Addr} {cl : List (Str × Addr)} {fp : List Addr} : CxOk (c.blk scope) fa (X.blk s H scope (compEnvC scope cl C X.env) fp) W0 where
  hN := o.hN
  sc := by
    show relS scope X.env.scope = relS scope c.sc
    rw [o.sc]
  fn := rfl
  nd := o.nd
  calm := o.calm
  tk := takes0
  hu := o.hu
  rm := o.rm
  cls := o.cls
  fld := o.fld
  sub := o.sub
  exn := o.exn
  sui := fun z => by
    have : c.calm = false := z
    rw [hcm] at this
    cases this
theorem q_tests (S : Snd d) (o : CxOk c fa X W) {ifs : List Expr} {t : E Bool} (h : dTests d c ifs = some t) : PTs X ifs (xT (rc X fa) W t) := by
  unfold dTests at h
  split at h
  · cases h; exact f_tests0
  · rename_i e
    cases h
    exact pts_one (S.t o e)
  · cases h
/-- the parts of a comprehension, as its rules want them -/
theorem q_lc (S : Snd d) (o : CxOk c fa X W) {elt : Expr} {gs : List Comprehension} {scope : Scope} {q : LcP} (h : dLc d c elt gs scope = some q) : ∃ (tg iter : Expr) (ifs : List Expr) (own : List (Str × Nat)), c.calm = true ∧ gs = [⟨tg, iter, ifs, 0⟩] ∧ q.vs = own.map (·.2) ∧ BlkOk X.N X.env.scope scope own ∧ noSet iter = true ∧
    PI X tg iter (xI (rc X fa) W q.f) ∧ (∀ (s : Shared) (H : Hp) (C : Addr) (cl : List (Str × Addr)) (fp : List Addr), PG (X.blk s H scope (compEnvC scope cl C X.env) fp) tg (xG (rc X fa) W0 q.vs q.g)) ∧
    (∀ (s : Shared) (H : Hp) (C : Addr) (cl : List (Str × Addr)) (fp : List Addr), PTs (X.blk s H scope (compEnvC scope cl C X.env) fp) ifs (xT (rc X fa) W0 q.t)) ∧
    (∀ (s : Shared) (H : Hp) (C : Addr) (cl : List (Str × Addr)) (fp : List Addr), PE (X.blk s H scope (compEnvC scope cl C X.env) fp) elt (xE (rc X fa) W0 q.fe)) := by
  unfold dLc at h
  split at h
  · rename_i tg iter ifs a
    split at h
    · rename_i hc
      obtain ⟨hcm, ha, hb, hs⟩ := hc
      subst ha
      cases ht : dTests d (c.blk scope) ifs with
      | none => rw [ht] at h; cases h
      | some t =>
        rw [ht] at h
        cases h
        exact ⟨tg, iter, ifs, ownOf c.N scope, hcm, rfl, rfl, by rw [o.hN, o.sc]; exact blkOk_by hb, hs, q_it S o, fun s H C cl fp => S.g (o.blk hcm) _ _, fun s H C cl fp => q_tests S (o.blk hcm) ht, fun s H C cl fp => S.e (o.blk hcm) _⟩
    · cases h
  · cases h
theorem q_e (S : Snd d) (o : CxOk c fa X W) (e : Expr) : PE X e (xE (rc X fa) W (stepE d c e)) := by
  unfold stepE
  split
  · exact q_name o
  · exact q_cst
  · rename_i a op b pos
    cases h : binD op with
    | none => exact b_e
    | some g => exact f_op (op_binD h) (S.e o a) (S.e o b)
  · rename_i op a pos
    cases op with
    | USub => exact f_un un_negD (S.e o a)
    | Not => exact f_not (S.e o a)
    | _ => exact b_e
  · exact and1_e (S.e o _)
  · rename_i op a b es pos
    cases op with
    | And => exact f_and (S.e o _) (S.e o _)
    | Or => exact f_or (S.e o _) (S.e o _)
  · rename_i a op b pos
    split
    · rename_i h; exact f_cmp (op_cmpD o.hu op) (S.e o a) (S.e o b) h
    · exact b_e
  · rename_i a op op' b e pos
    split
    · rename_i h; exact f_chain (op_cmpD o.hu op) (op_cmpD o.hu op') (S.e o a) (S.e o b) (S.e o e) h
    · exact b_e
  · exact f_ifE (S.t o _) (S.e o _) (S.e o _)
  · split
    · rename_i h; exact f_tup (q_all S o h)
    · exact b_e
  · split
    · rename_i h; exact f_lst (q_all S o h)
    · exact b_e
  · exact q_sub S o
  · exact q_callN S o
  · exact q_meth S o
  · rename_i b f pos
    split
    · rename_i hh
      obtain ⟨hcm, hb, hfl⟩ := hh
      obtain ⟨X0, a, oe, i, dd, pn, rfl, hex, hi, hz, hf⟩ := o.sui hcm
      obtain ⟨T, no⟩ := o.fld i hi
      have hfa : fa = fa.withX (some (a, i, dd)) := by
        obtain ⟨f1, f2, f3⟩ := fa
        have e : f3 = some (a, i, dd) := hex
        subst e; rfl
      have he := S.e o b
      rw [hfa] at he ⊢
      exact f_xf (fa := fa) (X := X0) T (no f hfl) hz hf he (base_no hb)
    · exact b_e
  · rename_i elt gs scope pos
    cases h : dLc d c elt gs scope with
    | none => exact b_e
    | some q =>
      obtain ⟨tg, iter, ifs, own, hcm, rfl, hv, ok, hs, hi, hg, ht, he⟩ := q_lc S o h
      rw [hv] at hg
      have := f_lc (pos := pos) (o.calm hcm) (by rw [o.hN]; exact o.nd) hi ok hg ht he (set_no hs)
      rw [← hv] at this
      exact this
  · exact b_e
theorem q_w (S : Snd d) (o : CxOk c fa X W) (e : Expr) : PW X e (xT (rc X fa) W (stepW d c e)) := by
  unfold stepW
  split
  · rename_i op a pos
    cases op with
    | And => exact f_and1 (S.t o a)
    | Or => exact f_or1 (S.t o a)
  · rename_i op a b es pos
    cases op with
    | And => exact f_andT (S.t o a) (S.w o _)
    | Or => exact f_orT (S.t o a) (S.w o _)
  · exact b_w
theorem q_t (S : Snd d) (o : CxOk c fa X W) (e : Expr) : PT X e (xT (rc X fa) W (stepT d c e)) := by
  unfold stepT
  split
  · exact f_notT (S.t o _)
  · exact (q_w S o _).pt
  · exact f_ifT (S.t o _) (S.t o _) (S.t o _)
  · rename_i a op b pos
    split
    · rename_i h; exact f_cmpT (op_cmpD o.hu op) (S.e o a) (S.e o b) h
    · exact b_t
  · rename_i a op op' b e pos
    split
    · rename_i h; exact f_chainT (op_cmpD o.hu op) (op_cmpD o.hu op') (S.e o a) (S.e o b) (S.e o e) h
    · exact b_t
  · split
    · rename_i h; exact f_truth (S.e o _) (truth_form h)
    · exact b_t
theorem q_gs (S : Snd d) (o : CxOk c fa X W) {vs : List Nat} : ∀ {es : List Expr}, noStars es = true → PGs X es (xGs (rc X fa) W vs (es.map (d.g vs c)))
  | [], _ => f_gnil
  | e :: es, h => f_gcons (S.g o.w0 vs e) (q_gs S o (band h).2) (by rw [asg_cons (band h).1]; rfl)
theorem q_g (S : Snd d) (o : CxOk c fa X W) (vs : List Nat) (e : Expr) : PG X e (xG (rc X fa) W vs (stepG d c vs e)) := by
  unfold stepG
  split
  · rename_i x pos
    cases hs : slot c.N x with
    | none => exact b_g
    | some i =>
      show PG X _ (xG (rc X fa) W vs (if i ∈ vs ∧ locOk c x = true then gNam i else gBad))
      split
      · rename_i h
        obtain ⟨h1, h2⟩ := h
        unfold locOk at h2
        split at h2
        · rename_i e
          rw [← o.sc] at e
          exact f_gnam (by rw [o.hN]; exact o.nd) (by rw [o.hN]; exact slot_ok hs) (.inl e) (.inr e) h1
        · rename_i e
          rw [← o.sc] at e
          exact f_gnam (by rw [o.hN]; exact o.nd) (by rw [o.hN]; exact slot_ok hs) (.inr e) (.inl (by rw [o.fn]; exact h2)) h1
        · cases h2
      · exact b_g
  · split
    · rename_i h
      obtain ⟨hcm, h⟩ := h
      obtain ⟨l1, l2⟩ := asg_len (env := X.env) h
      exact f_gtup (o.calm hcm) (q_gs S o h) (by simp) l1 l2
    · exact b_g
  · split
    · rename_i h; exact f_gsub o.hu (S.e o _) (S.e o _) h
    · exact b_g
  · exact b_g
end
end Jm

set_option Elab.async false
set_option linter.all false
set_option maxRecDepth 100000
set_option maxHeartbeats 4000000
/-! Jm, part R: statements; a def keeps what its reading says; the table of defs. -/
noncomputable section
namespace Jm
open PySem PySem.Spec PyProof.Rows L2
section
variable {fa : Gl0} {d : Dn} {c : Ct} {X : Cx} {W : WX}
theorem q_ss (S : Snd d) (o : CxOk c fa X W) (hp : StOk c X) : ∀ sts : List Stmt, PSs X sts (xS (rc X fa) W (dss d c sts))
  | [] => f_snil
  | st :: sts => f_sseq (S.s o hp st) (q_ss S o hp sts)
theorem swp_ok {sc : Scope} {ts vs : List Expr} {env : Env} {k k2 : Nat} {p p2 : Pos} {r : Option (List Str)} (hsc : env.scope = sc) (hk : sc.kind = .function) (h : swp sc ts vs = some r) : swappedStores [.Tuple ts k p] (.Tuple vs k2 p2) env = pure r := by
  subst hsc
  have hb : env.blockKind = .function := by unfold Env.blockKind; rw [hk]; rfl
  unfold swappedStores
  unfold swp at h
  rw [hk] at h
  simp only [hb]
  split at h
  · rename_i h1
    cases h
    rw [if_pos (by simpa using h1)]
  rename_i h1
  rw [if_neg (by simpa using h1)]
  split at h
  · rename_i h2
    cases h
    exact if_pos h2
  rename_i h2
  refine (if_neg h2).trans ?_
  dsimp only at h ⊢
  split at h
  · rename_i h3
    cases h
    exact if_pos h3
  rename_i h3
  refine (if_neg h3).trans ?_
  split at h
  · rename_i h4
    cases h
    exact if_pos h4
  rename_i h4
  refine (if_neg h4).trans ?_
  split at h
  · cases h
  rename_i h5
  refine (if_neg h5).trans ?_
  cases h
  rfl
theorem q_par (S : Snd d) (o : CxOk c fa X W) {ts vs : List Expr} {k k2 : Nat} {p p2 pos : Pos} {ns : List Str} (h : swappedStores [.Tuple ts k p] (.Tuple vs k2 p2) X.env = pure (some ns)) : PS X (.Assign [.Tuple ts k p] (.Tuple vs k2 p2) pos) (xS (rc X fa) W (dPar d c ts vs ns)) := by
  unfold dPar
  split
  · rename_i x px y py a b
    split
    · rename_i i j hi hj
      split
      · rename_i hh
        obtain ⟨hcm, g1, g2, g3, g4, g5, g6⟩ := hh
        rw [← o.sc] at g5 g6
        rw [g4] at h
        exact f_spar (o.calm hcm) (by rw [o.hN]; exact o.nd) (by rw [o.hN]; exact slot_ok hi) (by rw [o.hN]; exact slot_ok hj) g1 g5 g6 (S.e o a) (S.e o b) (star_cons g2) (star_cons g3) h
      · exact b_s
    · exact b_s
  · exact b_s
theorem sws_no {tg e : Expr} {env : Env} (h : isTup tg = false ∨ isTup e = false) (hl : ∀ es p, tg ≠ .List es p) : swappedStores [tg] e env = pure none := by
  cases tg with
  | Tuple ts k p =>
    cases e with
    | Tuple vs k2 p2 => rcases h with h | h <;> cases h
    | _ => rfl
  | List es p => exact absurd rfl (hl es p)
  | _ => rfl
theorem sole {t v : Expr} {l : Nat} {env : Env} : swapsWithSole [t] v l env = swapsWith v (some t) l env := by first | rfl | simp [swapsWithSole]
theorem q_asg (S : Snd d) (o : CxOk c fa X W) {tg e : Expr} {pos : Pos} : PS X (.Assign [tg] e pos) (xS (rc X fa) W (dAsg d c tg e)) := by
  unfold dAsg
  split
  · rename_i ts k p vs k2 p2
    split
    · rename_i hk
      split
      · rename_i h
        have hw := swp_ok (k := k) (k2 := k2) (p := p) (p2 := p2) o.sc hk h
        exact f_sasg (S.e o _) (S.g o _ _) (sole.trans (sw_no rfl)) hw rfl
      · rename_i ns h
        exact q_par S o (swp_ok o.sc hk h)
      · exact b_s
    · exact b_s
  · rename_i y py elt gs scope p
    split
    · rename_i hh
      obtain ⟨g1, g2, g3, g4⟩ := hh
      split
      · rename_i i q hi hq
        obtain ⟨tg, iter, ifs, own, hcm, rfl, hv, ok, hs, hit, hg, ht, he⟩ := q_lc S o hq
        rw [hv] at hg
        have g2' := g2
        rw [← o.sc] at g1 g2
        have := f_setlc (spos := pos) (py := py) (pos := p) (o.calm hcm) (by rw [o.hN]; exact o.nd) (by rw [o.hN]; exact slot_ok hi) g2 (sw_true g1 g2 g3 g4) hit ok hg ht he (set_no hs)
        rw [← hv] at this
        exact this
      · exact b_s
    · exact b_s
  · exact b_s
  · rename_i n1 n2 n3
    split
    · rename_i hh
      refine f_sasg (S.e o _) (S.g o _ _) (sole.trans (sw_no hh.2)) (sws_no ?_ fun es p z => n1 _ _ z) (by rw [asg_cons hh.1]; rfl)
      cases h1 : isTup tg with
      | false => exact .inl rfl
      | true =>
        cases h2 : isTup e with
        | false => exact .inr rfl
        | true =>
          exfalso
          cases tg with
          | Tuple ts k p =>
            cases e with
            | Tuple vs k2 p2 => exact n2 _ _ _ _ _ _ rfl rfl
            | _ => cases h2
          | _ => cases h1
    · exact b_s
theorem sub_mem {A B : Type} [BEq A] [LawfulBEq A] {x : A} {v : B} : ∀ {l : List (A × B)}, l.lookup x = some v → (x, v) ∈ l
  | (k, u) :: l, h => by
    rw [List.lookup_cons] at h
    cases e : x == k with
    | true =>
      rw [e] at h; cases h
      rw [eq_of_beq e]; exact List.mem_cons_self
    | false => rw [e] at h; exact List.mem_cons_of_mem _ (sub_mem h)
theorem CxOk.suite (o : CxOk c fa X W) {a : Addr} {oe : Obj} {i : Nat} {dd : Option Addr} {pn : List (Addr × Obj)} (h0 : fa.ex = none) (hi : i ∈ c.cl) (hz : Zc (.ref (fa.fa i)) dd oe) (hf : ∃ vs, oe.data = .fields vs) :
    CxOk { c with calm := false } (fa.withX (some (a, i, dd))) (X.suite a ((a, oe) :: pn)) W0 where
  hN := o.hN
  sc := o.sc
  fn := o.fn
  nd := o.nd
  calm := fun z => nomatch z
  tk := takes0
  hu := o.hu
  rm := by
    obtain ⟨d, _, hq⟩ := o.rm
    refine ⟨d, (fun z => nomatch z), fun x g hl => ?_⟩
    have q := hq x g hl
    cases g with
    | fn j ps kf => exact ⟨q.1, (fun z => nomatch z)⟩
    | cst e =>
      obtain ⟨u, v, h1, h2, h3⟩ := q
      exact ⟨u, v, h1, h2, fun p H => RV.up (R := rc X fa) h0 (h3 p H)⟩
    | cls j => exact q
    | free => exact q
  cls := o.cls
  fld := o.fld
  sub := o.sub
  exn := fun z => nomatch z
  sui := fun _ => ⟨X, a, oe, i, dd, pn, rfl, rfl, hi, hz, hf⟩
theorem q_cls (S : Snd d) (o : CxOk c fa X W) (hcm : c.calm = true) : ∀ {hs : List ExceptHandler} {l : List HC}, dCls d c hs = some l → HOk X fa hs l
  | [], l, h => by cases h; exact .nil
  | hd :: hs, l, h => by
    have h0 := o.exn hcm
    have cmOk : ∀ {j i : Nat} {k : Bool}, (if i ∈ c.cl then c.sub.lookup (i, j) else none) = some k → i ∈ c.cl ∧ PySem.W.exmOne X.K (.ref (fa.fa i)) (.ref (fa.fa j)) = some k := fun {j i k} e => by
      split at e
      · rename_i hi
        exact ⟨hi, o.sub ((i, j), k) (sub_mem e)⟩
      · cases e
    have suite : ∀ (sts : List Stmt) (a : Addr) (oe : Obj) (i : Nat) (dd : Option Addr) (pn : List (Addr × Obj)), i ∈ c.cl → Zc (.ref (fa.fa i)) dd oe → (∃ vs, oe.data = .fields vs) → PSs (X.suite a ((a, oe) :: pn)) sts (xS (rc X (fa.withX (some (a, i, dd)))) W0 (dss d { c with calm := false } sts)) :=
      fun sts a oe i dd pn hi hz hf => q_ss S (o.suite h0 hi hz hf) ⟨(fun z => nomatch z), (fun z => nomatch z), (fun z => nomatch z)⟩ sts
    unfold dCls at h
    split at h
    · rename_i heq; cases heq
    · rename_i x px nm b su q hs2 heq
      cases heq
      split at h
      · rename_i j l2 hg hl2
        obtain ⟨g1, g2, g3, g4⟩ := glob_ok o hg
        obtain ⟨_, _, hq⟩ := o.rm
        have hnm : Names X x (.ref (fa.fa j)) := ⟨g1, g2, .inl (hq _ _ g4)⟩
        cases nm with
        | none =>
          cases h
          exact .cons hnm (fun i k e => (cmOk e).2) trivial (fun a oe i dd pn e hz hf => suite _ a oe i dd pn (cmOk e).1 hz hf) (q_cls S o hcm hl2)
        | some n =>
          dsimp only at h
          split at h
          · rename_i hloc
            cases hs3 : slot c.N n with
            | none => rw [hs3] at h; cases h
            | some k =>
              rw [hs3] at h
              cases h
              refine .cons hnm (fun i k e => (cmOk e).2) ⟨by rw [o.hN]; exact slot_ok hs3, ?_⟩ (fun a oe i dd pn e hz hf => suite _ a oe i dd pn (cmOk e).1 hz hf) (q_cls S o hcm hl2)
              show X.env.scope.names.lookup n = _
              rw [o.sc]; exact hloc
          · cases h
      · cases h
    · cases h
theorem q_s (S : Snd d) (o : CxOk c fa X W) (hp : StOk c X) (st : Stmt) : PS X st (xS (rc X fa) W (stepS d c st)) := by
  unfold stepS
  split
  · exact f_sdoc
  · split
    · rename_i h; exact f_sexp (S.e o _) (sw_no h)
    · exact b_s
  · exact q_asg S o
  · exact f_sif (S.t o _) (q_ss S o hp _) (q_ss S o hp _)
  · split
    · rename_i h; exact f_for (hp.ps h.1) (o.calm h.1) (q_it S o) (S.g o _ _) (q_ss S o hp _) (set_no h.2)
    · exact b_s
  · split
    · rename_i h; exact f_while (hp.ps h) (S.t o _) (q_ss S o hp _)
    · exact b_s
  · exact f_sret (S.e o _)
  · exact f_sretn
  · exact f_spass
  · exact f_sbrk
  · exact f_scnt
  · rename_i x px e pos pos2
    split
    · rename_i i hg
      split
      · rename_i hh
        obtain ⟨hcm, h1, h2, h3⟩ := hh
        obtain ⟨g1, g2, g3, g4⟩ := glob_ok o hg
        obtain ⟨dd, hr, hq⟩ := o.rm
        exact f_raise rfl (o.calm hcm) o.tk ((hr hcm).mono (by omega)) (o.cls i h3 h2) g1 (hq _ _ g4) (q_all S o (es := [e]) (by simp [noStars, h1])) g2 (star_cons h1)
      · exact b_s
    · exact b_s
  · rename_i body h0 hs pos
    split
    · rename_i hcm
      split
      · rename_i l hl
        refine f_try (hp.st hcm) (hp.fr hcm) (by rw [o.hN]; exact o.nd) o.tk (o.exn hcm) (fun W' pn xe tk ps => ?_) (q_cls S o hcm hl)
        exact q_ss (X := X.tr pn xe) S ⟨o.hN, o.sc, o.fn, o.nd, o.calm, tk, o.hu, o.rm, o.cls, o.fld, o.sub, o.exn, fun z => by rw [hcm] at z; cases z⟩ ⟨fun _ => ps, hp.st, hp.fr⟩ body
      · exact b_s
    · exact b_s
  · exact b_s
theorem snd_step (S : Snd d) : Snd (step d) := ⟨fun o e => q_e S o e, fun o e => q_t S o e, fun o e => q_w S o e, fun o vs e => q_g S o vs e, fun o hp st => q_s S o hp st⟩
theorem snd_den : ∀ n, Snd (den n)
  | 0 => ⟨fun _ _ => b_e, fun _ _ => b_t, fun _ _ => b_w, fun _ _ _ => b_g, fun _ _ _ => b_s⟩
  | n + 1 => snd_step (snd_den n)
end
/-! ### a def -/
def startD (N : List Str) (ds : List D) : En := ds.map some ++ List.replicate (N.length - ds.length) none
/-- the body's end is the call's end -/
def outD (r : Res Out) : Res D := match r with
  | .ok (.nx _) S => .ok .non S
  | .ok (.rt d) S => .ok d S
  | .ok (.er c fs _) S => .exc c fs S
  | _ => .bad
structure Fd where
  ps : List Str
  N : List Str
  body : List Stmt
  scope : Scope
def FD : Nat := 40
/-- the module's names, its exception classes, which stands under which -/
structure Md where
  gl : List (Str × Gv)
  cl : List Nat
  sub : List ((Nat × Nat) × Bool)
def Fd.ct (f : Fd) (gl : Md) (cf : CF) : Ct := ⟨f.N, f.scope, fun _ => true, gl.gl, gl.cl, gl.sub, true, cf⟩
def Fd.run (f : Fd) (gl : Md) (cf : CF) (ds : List D) : M D := fun S => if ds.length = f.ps.length then outD (dss (den FD) (f.ct gl cf) f.body (startD f.N ds) S) else .bad
def scC (N ps : List Str) (sc : Scope) : Bool := decide (sc.kind = .function) && !sc.isCoroutine && !sc.isGenerator && decide N.Nodup && decide (N.take ps.length = ps) && (ps.all fun x => decide (sc.names.lookup x = some .local) || decide (sc.names.lookup x = some .cell)) && (sc.names.all fun y => decide (y.2 ≠ .free))
theorem scope_by {N ps : List Str} {sc : Scope} (h : scC N ps sc = true) : FnScope N ps sc := by
  unfold scC at h
  simp only [Bool.and_eq_true, List.all_eq_true, decide_eq_true_eq, Bool.not_eq_true', Bool.or_eq_true] at h
  obtain ⟨⟨⟨⟨⟨⟨h1, h2⟩, h3⟩, h4⟩, h5⟩, h6⟩, h7⟩ := h
  exact ⟨h1, h2, h3, h4, h5, h6, h7⟩
theorem RE.start {R : RC} {p : List Addr} {H : Hp} {N : List Str} {ds : List D} {vs : List V} (r : RVs R p H ds vs) : RE R p (startD N ds) (L2.start N vs) H := by
  refine ⟨by simp [startD, L2.start, r.length], fun i d e => ?_⟩
  unfold startD at e
  by_cases hi : i < ds.length
  · rw [List.getElem?_append_left (by simpa using hi), List.getElem?_map] at e
    cases e1 : ds[i]? with
    | none => rw [e1] at e; cases e
    | some d' =>
      rw [e1] at e; cases e
      obtain ⟨v, h1, h2⟩ := r.get e1
      refine ⟨v, ?_, h2⟩
      unfold L2.start
      rw [List.getElem?_append_left (by rw [List.length_map, ← r.length]; exact hi), List.getElem?_map, h1]; rfl
  · rw [List.getElem?_append_right (by simpa using hi), List.getElem?_replicate] at e
    split at e <;> cases e
section
variable {P : Program} {w : World} {K : PySem.W.Frag} {mg : Str → Option Value} {base : Heap} {fa : Gl0} {cf : CF} {gl : Md}
/-- what the module says of its names and classes -/
structure MdOk (P : Program) (w : World) (K : PySem.W.Frag) (mg : Str → Option Value) (base : Heap) (fa : Gl0) (gl : Md) : Prop where
  cls : ∀ i ∈ gl.cl, i % 4 ≠ 0 → ClsI P w K mg base (fa.fa i) (fldName i)
  fld : ∀ i ∈ gl.cl, XfC K (fa.fa i) ∧ ∀ f ∈ flds, PySem.W.findIn K (.ref (fa.fa i)) f = some none
  sub : ∀ q ∈ gl.sub, PySem.W.exmOne K (.ref (fa.fa q.1.1)) (.ref (fa.fa q.1.2)) = some q.2
  exn : fa.ex = none
theorem fd_ok {x qual : Str} {params : Arguments} {fd : FuncData} {a : Addr} {f : Fd} {d : Nat} (F : FunD K x qual params f.body f.scope [] [] a fd) (hsc : scC f.N f.ps f.scope = true) (hm : MdOk P w K mg base fa gl) (hgl : ∀ x g, gl.gl.lookup x = some g → GvOk P w K mg base fa cf true (d + 2) x g) :
    FnOk P w K mg base (L2.CX P w) (d + 3) a fd f.ps (spF ⟨K, fa.fa, fa.g, fa.ex⟩ (f.run gl cf)) := by
  have sc := scope_by hsc
  refine F.ok sc (fun vs H Q E ⟨p, S, ds, rs, rv, h⟩ => ?_) (fun cdv A outer s H vs Q E hr ⟨p, S, ds, rs, rv, h⟩ => ?_)
  · unfold Fd.run at h
    split at h
    · rename_i hl; rw [← rv.length, hl]
    · exact h.elim
  · have tk : Takes (cxOf (L2.CX P w) P w K mg base f.N qual f.scope a cdv A outer s H E) (fun cls d _ H => E cls d H) := takes_of rfl rfl rfl rfl
    have o : CxOk (f.ct gl cf) fa (cxOf (L2.CX P w) P w K mg base f.N qual f.scope a cdv A outer s H E) (fun cls d _ H => E cls d H) := ⟨rfl, rfl, rfl, sc.nd, fun _ => rfl, tk, (show (A.deeper (envOfC qual f.scope s.heap.objs.size a cdv)).units + 65 < cLine by have := hr.un; omega), ⟨d, fun _ => hr, hgl⟩, hm.cls, hm.fld, hm.sub, fun _ => hm.exn, fun z => nomatch z⟩
    refine ⟨_, q_ss (snd_den FD) o ⟨fun _ => passes_of rfl, fun _ => rfl, fun _ => rfl⟩ f.body, p, startD f.N ds, S, rs, RE.start rv, ?_⟩
    unfold Fd.run at h
    split at h
    · generalize dss (den FD) (f.ct gl cf) f.body (startD f.N ds) S = r at h
      cases r with
      | bad => exact h.elim
      | exc c fs S' => exact h.elim
      | ok out S' =>
        cases out with
        | nx n => exact fun p' H' hp t rs' s' _ => h p' H' hp t rs' .non .non
        | rt v => exact fun p' H' hp t rs' v' rv' => h p' H' hp t rs' v' rv'
        | bk n => exact h.elim
        | ct n => exact h.elim
        | er c fs n => exact fun p' H' hp t rs' s' cls dd _ x => h p' H' cls dd hp t rs' x
    · exact h.elim
end
end Jm

set_option Elab.async false
set_option linter.all false
set_option maxRecDepth 100000
set_option maxHeartbeats 4000000
/-! Jm, part V: what the head tells of the exception classes. -/
noncomputable section
namespace Jm
open PySem PySem.Spec PyProof.Rows L2
def oexB (K : PySem.W.Frag) (C : Addr) : Bool := (match K.lookup C with
  | some ⟨.type "type", _, .cls cd, sl⟩ => (match cd.mro, sl.toList with
    | .ref C2 :: bm, [_, _, _, _, some (.builtin n), _] => C2 == C && (n == "ValueError.__new__" && (!cd.hasDel && (cd.hasDict && PySem.HandSPX.refsVE bm)))
    | _, _ => false)
  | _ => false) && (decide (PySem.W.findIn K (.ref C) "__setattr__" = some (some (.builtin "object.__setattr__"))) && (decide (PySem.W.subIn K (.ref C) (.type "BaseException") = some true) && (decide (PySem.W.typeIn K (.ref C) = some (.type "type")) && PySem.W.keepIn K (.ref C))))
theorem oexB_ok {K : PySem.W.Frag} {C : Addr} (h : oexB K C = true) : OexC K C := by
  unfold oexB at h
  obtain ⟨h1, h⟩ := band h
  obtain ⟨h2, h⟩ := band h
  obtain ⟨h3, h⟩ := band h
  obtain ⟨h4, h5⟩ := band h
  refine ⟨?_, of_decide_eq_true h2, of_decide_eq_true h3, of_decide_eq_true h4, h5⟩
  split at h1
  · rename_i dd cd sl ho
    split at h1
    · rename_i C2 bm k0 k1 k2 k3 n k5 hm hs
      simp only [Bool.and_eq_true, beq_iff_eq, Bool.not_eq_true'] at h1
      obtain ⟨rfl, rfl, g1, g2, g3⟩ := h1
      obtain ⟨nm, bs, mro, ns, qn, hd, sn, sub, ab, col, del⟩ := cd
      dsimp only at hm g1 g2
      subst hm g1 g2
      have hsl : sl = #[k0, k1, k2, k3, some (.builtin "ValueError.__new__"), k5] := by
        obtain ⟨l⟩ := sl
        simp only at hs
        rw [hs]
      subst hsl
      exact ⟨nm, qn, ns, bs, bm, sn, sub, ab, col, dd, k0, k1, k2, k3, k5, ho, g3⟩
    · cases h1
  · cases h1
/-- the body of such an __init__: self.f = g -/
def isIni (f g : Str) : List Stmt → Bool
  | [.Assign [.Attribute (.Name s _) f2 _] (.Name g2 _) _] => decide (s = "self" ∧ f2 = f ∧ g2 = g)
  | _ => false
theorem init_ok {P : Program} {w : World} {K : PySem.W.Frag} {mg : Str → Option Value} {base : Heap} {C fI : Addr} {fd : FuncData} {qual f g : Str} {params : Arguments} {body : List Stmt} {scope : Scope} (F : FunD K "__init__" qual params body scope [] [] fI fd) (hb : isIni f g body = true)
    (hsc : scC ["self", g] ["self", g] scope = true) (hv : scope.names.lookup g = some .local ∧ scope.names.lookup ("self" : Str) = some .local ∧ (g == ("__debug__" : Str)) = false ∧ (g == ("__classdict__" : Str)) = false) (hC : OexC K C) (hno : PySem.W.findIn K (.ref C) f = some none) :
    FnOk P w K mg base (L2.CX P w) 1 fI fd ["self", g] (spInit C f) := by
  refine F.ok (k := 0) (scope_by hsc) (fun vs H Q E ⟨a, y, e, _⟩ => by rw [e]; rfl) (fun cdv A outer s H vs Q E hr ⟨a, y, e, h1, h2⟩ => ?_)
  subst e
  unfold isIni at hb
  split at hb
  · rename_i s1 p1 f2 p2 g2 p3 pos
    obtain ⟨rfl, rfl, rfl⟩ := of_decide_eq_true hb
    refine ⟨_, pss_one (ps_ost (to := tVar 0) (te := tVar 1) (pe_var rfl (.inl hv.2.1)) (pe_var rfl (.inl hv.1) hv.2.2.1 hv.2.2.2) rfl), y, rfl, .ref a, rfl, a, C, rfl, hC, hno, .inl ⟨h1, fun dx n ne => ?_⟩⟩
    exact h2 dx n ne
  · cases hb
end Jm

set_option Elab.async false
set_option linter.all false
set_option maxRecDepth 100000
set_option maxHeartbeats 4000000
/-! Jm, part S: the table of the defs; a law over it. -/
noncomputable section
namespace Jm
open PySem PySem.Spec PyProof.Rows L2
/-- one def of the module: its number, its name, its statement, the parameters, all names, how it is called by keywords -/
structure DRow where
  i : Nat
  x : Str
  st : Stmt
  ps : List Str
  N : List Str
  kf : List KwF
def DRow.fd (r : DRow) : Fd := ⟨r.ps, r.N, defBody r.st, defScope r.st⟩
def DRow.dd (r : DRow) : He.DefD := ⟨(r.x, none), r.x, r.x, defArgs r.st, defBody r.st, defScope r.st, [], []⟩
def rowAt (T : List DRow) (i : Nat) : Option DRow := T.find? fun r => r.i == i
def callF (T : List DRow) (gl : Md) : Nat → CF
  | 0 => fun _ _ _ => .bad
  | d + 1 => fun i ds => match rowAt T i with
    | some r => r.fd.run gl (callF T gl d) ds
    | none => fun _ => .bad
/-- ints, strings of the module -/
inductive Cn where
  | int (i : Int) | str (x : Str)
def Cn.d : Cn → D
  | .int i => .int i
  | .str x => .str x
def Cn.f (x : Str) : Cn → He.Fa
  | .int i => .int x i
  | .str z => .str x z
/-- an own exception class: its number, its name, its __init__ and that one's parameter -/
structure CRow where
  i : Nat
  x : Str
  m : Option (Stmt × Str)
def cAt (CT : List CRow) (i : Nat) : Option CRow := CT.find? fun r => r.i == i
/-- all of one base (number b), nothing else under one another -/
def subOf (b : Nat) (CT : List CRow) : List ((Nat × Nat) × Bool) := CT.flatMap fun r => CT.map fun q => ((r.i, q.i), r.i == q.i || q.i == b)
def subFa (b : Nat) (CT : List CRow) : List He.Fa := CT.flatMap fun r => CT.map fun q => .exm r.x q.x (r.i == q.i || q.i == b)
structure Tab where
  T : List DRow
  cs : List (Str × Cn)
  fs : List Str
  CT : List CRow
  b : Nat
def Tab.gl (Z : Tab) : List (Str × Gv) := Z.T.map (fun r => (r.x, .fn r.i r.ps r.kf)) ++ (Z.cs.map (fun q => (q.1, .cst q.2.d)) ++ (Z.fs.map (fun x => (x, .free)) ++ Z.CT.map fun r => (r.x, .cls r.i)))
def Tab.md (Z : Tab) : Md := ⟨Z.gl, Z.CT.map (·.i), subOf Z.b Z.CT⟩
def CRow.has (r : CRow) : Bool := r.m.isSome
def Tab.fa (Z : Tab) : List He.Fa := Z.T.map (fun r => .glo r.x) ++ (Z.cs.map (fun q => q.2.f q.1) ++ (Z.fs.map (fun x => .free x) ++ (Z.CT.map (fun r => .glo r.x) ++ ((Z.CT.flatMap fun r => flds.map fun f => .noat r.x f) ++ ((Z.CT.filter CRow.has).map (fun r => .meth r.x "__init__") ++ subFa Z.b Z.CT)))))
def CRow.dd (r : CRow) : Option He.DefD := r.m.map fun q => ⟨(r.x, some "__init__"), "__init__", r.x ++ ".__init__", defArgs q.1, defBody q.1, defScope q.1, [], []⟩
def Tab.dd (Z : Tab) : List He.DefD := Z.T.map DRow.dd ++ Z.CT.filterMap CRow.dd
def adOf (Z : Tab) (K : PySem.W.Frag) (i : Nat) : Addr := match rowAt Z.T i with
  | some r => He.ga K r.x
  | none => match cAt Z.CT i with
    | some r => He.ga K r.x
    | none => 0
/-- the classes' own look -/
def clsB (CT : List CRow) (K : PySem.W.Frag) : Bool := CT.all fun r => oexB K (He.ga K r.x) && xfB K (He.ga K r.x)
abbrev AlJ : Type := He.AlD × Bool
def obsJ (Z : Tab) (K : PySem.W.Frag) : AlJ := (He.obsD Z.fa Z.dd K, clsB Z.CT K)
def obsJG (Z : Tab) (g : Addr → Option Obj) : AlJ := obsJ Z (He.frG g (He.asD g 4))
def SaysJ (Z : Tab) (K : PySem.W.Frag) : Prop := obsJ Z K = (He.valD Z.dd, true)
def hookJ (Z : Tab) : PySem.W.Hook where
  α := AlJ
  obs := fun s => obsJG Z s.heap.get?
  val := fun _ => (He.valD Z.dd, true)
  says := fun _ h => ∃ K : PySem.W.Frag, K.In h ∧ SaysJ Z K
  of := fun _ _ e => ⟨_, He.frG_in, e⟩
  keeps := fun _ _ _ ⟨K, hK, c⟩ k => ⟨K, PySem.W.Frag.In.keeps hK k, c⟩
theorem obsJG_eq {Z : Tab} {g : Addr → Option Obj} {s : Shared} (h : ∀ a, g a = s.heap.get? a) : obsJG Z g = (hookJ Z).obs s := by
  have e : g = s.heap.get? := funext h
  rw [e] <;> rfl
/-- what the text alone says of a def -/
def DRowB (r : DRow) : Prop := scC r.N r.ps (defScope r.st) = true ∧
  (∀ (kV doc pm : Value) (an : Option Addr) (cdv ct : Value) (us : List Value), us.length = r.ps.length → bindArgs (PySem.W.fnOf r.x r.x (defArgs r.st) (defBody r.st) (defScope r.st) .none kV doc pm an cdv ct) ⟨us, []⟩ = pure (r.ps.zip us)) ∧
  ∀ q ∈ r.kf, ∀ (kV doc pm : Value) (an : Option Addr) (cdv ct : Value) (us ws : List Value), us.length = q.1 → ws.length = q.2.1.length →
    bindArgs (PySem.W.fnOf r.x r.x (defArgs r.st) (defBody r.st) (defScope r.st) .none kV doc pm an cdv ct) ⟨us, q.2.1.zip ws⟩ = pure (r.ps.zip (arr q.2.2 (us ++ ws)))
inductive AllR (P : DRow → Prop) : List DRow → Prop
  | nil : AllR P []
  | cons {r : DRow} {T : List DRow} : P r → AllR P T → AllR P (r :: T)
theorem AllR.mem {P : DRow → Prop} : ∀ {T : List DRow}, AllR P T → ∀ r ∈ T, P r
  | _, .nil, _, h => nomatch h
  | _, .cons a b, r, h => by
    rcases List.mem_cons.mp h with e | h
    · rw [e]; exact a
    · exact b.mem r h
theorem kbn_of {K : PySem.W.Frag} {x qual : Str} {params : Arguments} {body : List Stmt} {scope : Scope} {f : Addr} {fd : FuncData} {ps ks : List Str} {n : Nat} {ix : List Nat} (F : FunD K x qual params body scope [] [] f fd)
    (h : ∀ (kV doc pm : Value) (an : Option Addr) (cdv ct : Value) (us ws : List Value), us.length = n → ws.length = ks.length → bindArgs (PySem.W.fnOf x qual params body scope .none kV doc pm an cdv ct) ⟨us, ks.zip ws⟩ = pure (ps.zip (arr ix (us ++ ws)))) :
    KBn K fd ps n ks (fun us ws => arr ix (us ++ ws)) (fun vs zs => arr ix (vs ++ zs)) := by
  obtain ⟨oc, od, dV, kV, doc, pm, an, cdv, ct, osl, rfl, lk, hcd, hD, hK⟩ := F.ex
  rcases hD with ⟨_, rfl⟩ | ⟨e, _⟩
  · exact ⟨fun s us ws X l1 l2 => .of_eq (h kV doc pm an cdv ct us ws l1 l2), fun r1 r2 => vals_arr (r1.append r2) ix⟩
  · exact absurd rfl e
theorem find_self : ∀ {T : List DRow} {r : DRow}, (T.map (·.i)).Nodup → r ∈ T → rowAt T r.i = some r
  | r0 :: T, r, nd, h => by
    obtain ⟨n1, n2⟩ := List.nodup_cons.mp (show (r0.i :: T.map (·.i)).Nodup from nd)
    unfold rowAt
    rw [List.find?_cons]
    rcases List.mem_cons.mp h with e | h
    · subst e; simp
    · have ne : (r0.i == r.i) = false := by
        rw [beq_eq_false_iff_ne]
        intro z
        exact n1 (by rw [z]; exact List.mem_map.mpr ⟨r, h, rfl⟩)
      rw [ne]
      exact find_self n2 h
theorem lookup_mem {A : Type} : ∀ {l : List (Str × A)} {x : Str} {g : A}, l.lookup x = some g → (x, g) ∈ l
  | (k, v) :: l, x, g, h => by
    rw [List.lookup_cons] at h
    cases e : x == k with
    | true =>
      rw [e] at h; cases h
      have : x = k := by simpa using e
      rw [this]; exact List.mem_cons_self
    | false => rw [e] at h; exact List.mem_cons_of_mem _ (lookup_mem h)
/-- what the text alone says of a class -/
def CRowB (r : CRow) : Prop := match r.m with
  | none => r.i % 4 = 0
  | some (st, g) => r.i % 4 ≠ 0 ∧ isIni (fldName r.i) g (defBody st) = true ∧ scC ["self", g] ["self", g] (defScope st) = true ∧ ((defScope st).names.lookup g = some .local ∧ (defScope st).names.lookup ("self" : Str) = some .local ∧ (g == ("__debug__" : Str)) = false ∧ (g == ("__classdict__" : Str)) = false) ∧
    ∀ (kV doc pm : Value) (an : Option Addr) (cdv ct : Value) (us : List Value), us.length = 2 → bindArgs (PySem.W.fnOf "__init__" (r.x ++ ".__init__") (defArgs st) (defBody st) (defScope st) .none kV doc pm an cdv ct) ⟨us, []⟩ = pure ((["self", g] : List Str).zip us)
inductive AllC (P : CRow → Prop) : List CRow → Prop
  | nil : AllC P []
  | cons {r : CRow} {T : List CRow} : P r → AllC P T → AllC P (r :: T)
theorem AllC.mem {P : CRow → Prop} : ∀ {T : List CRow}, AllC P T → ∀ r ∈ T, P r
  | _, .nil, _, h => nomatch h
  | _, .cons a b, r, h => by
    rcases List.mem_cons.mp h with e | h
    · rw [e]; exact a
    · exact b.mem r h
theorem find_selfC : ∀ {T : List CRow} {r : CRow}, (T.map (·.i)).Nodup → r ∈ T → cAt T r.i = some r
  | r0 :: T, r, nd, h => by
    obtain ⟨n1, n2⟩ := List.nodup_cons.mp (show (r0.i :: T.map (·.i)).Nodup from nd)
    unfold cAt
    rw [List.find?_cons]
    rcases List.mem_cons.mp h with e | h
    · subst e; simp
    · have ne : (r0.i == r.i) = false := by
        rw [beq_eq_false_iff_ne]
        intro z
        exact n1 (by rw [z]; exact List.mem_map.mpr ⟨r, h, rfl⟩)
      rw [ne]
      exact find_selfC n2 h
/-- what the text alone says of all of it -/
structure TabB (Z : Tab) : Prop where
  nd : (Z.T.map (·.i)).Nodup
  ndC : (Z.CT.map (·.i)).Nodup
  no : ∀ r ∈ Z.CT, rowAt Z.T r.i = none
  rows : AllR DRowB Z.T
  crows : AllC CRowB Z.CT
section
variable {P : Program} {w : World} {K : PySem.W.Frag} {mg : Str → Option Value} {h : Heap} {Z : Tab}
theorem says_fact (c : SaysJ Z K) {f : He.Fa} (hf : f ∈ Z.fa) : f.ok K = true := by
  have c : He.SaysD Z.fa Z.dd K := congrArg (fun z : AlJ => z.1) c
  obtain ⟨i, hi, e⟩ := List.mem_iff_getElem.mp hf
  exact c.fact i (by simp [hi, e])
theorem says_dd (c : SaysJ Z K) {d : He.DefD} (hd : d ∈ Z.dd) : ∃ fd, FunD K d.name d.qual d.params d.body d.scope (d.dvs K) (d.kws K) (He.fAd K d.at_) fd := by
  have c : He.SaysD Z.fa Z.dd K := congrArg (fun z : AlJ => z.1) c
  obtain ⟨i, hi, e⟩ := List.mem_iff_getElem.mp hd
  exact c.def_ i (by simp [hi, e])
theorem says_def (c : SaysJ Z K) {r : DRow} (hr : r ∈ Z.T) : ∃ fd, FunD K r.x r.x (defArgs r.st) (defBody r.st) (defScope r.st) [] [] (He.ga K r.x) fd := says_dd (d := r.dd) c (List.mem_append_left _ (List.mem_map.mpr ⟨r, hr, rfl⟩))
theorem says_cls (c : SaysJ Z K) {r : CRow} (hr : r ∈ Z.CT) : OexC K (He.ga K r.x) ∧ XfC K (He.ga K r.x) := by
  have c : clsB Z.CT K = true := congrArg (fun z : AlJ => z.2) c
  obtain ⟨h1, h2⟩ := band (List.all_eq_true.mp c r hr)
  exact ⟨oexB_ok h1, xfB_ok h2⟩
theorem fa_mem {f : He.Fa} (h : f ∈ Z.T.map (fun r => He.Fa.glo r.x) ∨ f ∈ Z.cs.map (fun q => q.2.f q.1) ∨ f ∈ Z.fs.map (fun x => He.Fa.free x) ∨ f ∈ Z.CT.map (fun r => He.Fa.glo r.x) ∨ f ∈ (Z.CT.flatMap fun r => flds.map fun f => He.Fa.noat r.x f) ∨ f ∈ (Z.CT.filter CRow.has).map (fun r => He.Fa.meth r.x "__init__") ∨ f ∈ subFa Z.b Z.CT) : f ∈ Z.fa := by
  unfold Tab.fa
  simp only [List.mem_append]
  exact h
theorem fa_noat {r : CRow} {f : Str} (hr : r ∈ Z.CT) (hf : f ∈ flds) : He.Fa.noat r.x f ∈ Z.fa := fa_mem (.inr (.inr (.inr (.inr (.inl (List.mem_flatMap.mpr ⟨r, hr, List.mem_map.mpr ⟨f, hf, rfl⟩⟩))))))
theorem fa_meth {r : CRow} (hr : r ∈ Z.CT) (hm : r.has = true) : He.Fa.meth r.x "__init__" ∈ Z.fa := fa_mem (.inr (.inr (.inr (.inr (.inr (.inl (List.mem_map.mpr ⟨r, List.mem_filter.mpr ⟨hr, hm⟩, rfl⟩)))))))
theorem fa_sub {r q : CRow} (hr : r ∈ Z.CT) (hq : q ∈ Z.CT) : He.Fa.exm r.x q.x (r.i == q.i || q.i == Z.b) ∈ Z.fa := fa_mem (.inr (.inr (.inr (.inr (.inr (.inr (List.mem_flatMap.mpr ⟨r, hr, List.mem_map.mpr ⟨q, hq, rfl⟩⟩)))))))
theorem ad_row (B : TabB Z) {r : DRow} (hr : r ∈ Z.T) : adOf Z K r.i = He.ga K r.x := by unfold adOf; rw [find_self B.nd hr]
theorem ad_cls (B : TabB Z) {r : CRow} (hr : r ∈ Z.CT) : adOf Z K r.i = He.ga K r.x := by unfold adOf; rw [B.no r hr, find_selfC B.ndC hr]
theorem md_ok (X : K.In h) (G : h.Ns mainGlobals mg) (c : SaysJ Z K) (B : TabB Z) (g : Option Addr) (base : Heap) : MdOk P w K mg base ⟨adOf Z K, g, none⟩ Z.md where
  cls := fun i hi hne => by
    obtain ⟨r, hr, rfl⟩ := List.mem_map.mp hi
    have b := B.crows.mem r hr
    unfold CRowB at b
    cases em : r.m with
    | none => rw [em] at b; exact absurd b hne
    | some q =>
      obtain ⟨st, gn⟩ := q
      rw [em] at b
      obtain ⟨_, b1, b2, b3, b4⟩ := b
      obtain ⟨fd, F⟩ := says_dd c (d := ⟨(r.x, some "__init__"), "__init__", r.x ++ ".__init__", defArgs st, defBody st, defScope st, [], []⟩) (List.mem_append_right _ (List.mem_filterMap.mpr ⟨r, hr, by unfold CRow.dd; rw [em]; rfl⟩))
      have M := He.meth_ok (says_fact c (fa_meth hr (by unfold CRow.has; rw [em]; rfl)))
      have hfl : fldName r.i ∈ flds := by
        unfold fldName flds
        split <;> simp
      have no : PySem.W.findIn K (.ref (He.ga K r.x)) (fldName r.i) = some none := He.noat_ok (says_fact c (fa_noat hr hfl))
      have oc := (says_cls c hr).1
      show ClsI P w K mg base (adOf Z K r.i) (fldName r.i)
      rw [ad_cls B hr]
      exact ⟨oc, _, fd, ["self", gn], M.at_, beq_iff_eq.mp M.fn, init_ok F b1 b2 b3 oc no, F.bindsN b4⟩
  fld := fun i hi => by
    obtain ⟨r, hr, rfl⟩ := List.mem_map.mp hi
    show XfC K (adOf Z K r.i) ∧ ∀ f ∈ flds, PySem.W.findIn K (.ref (adOf Z K r.i)) f = some none
    rw [ad_cls B hr]
    exact ⟨(says_cls c hr).2, fun f hf => He.noat_ok (says_fact c (fa_noat hr hf))⟩
  sub := fun q hq => by
    obtain ⟨r, hr, h2⟩ := List.mem_flatMap.mp hq
    obtain ⟨r2, hr2, rfl⟩ := List.mem_map.mp h2
    show PySem.W.exmOne K (.ref (adOf Z K r.i)) (.ref (adOf Z K r2.i)) = _
    rw [ad_cls B hr, ad_cls B hr2]
    exact He.exm_ok (says_fact c (fa_sub hr hr2))
  exn := rfl
theorem callF_row (B : TabB Z) {md : Md} {r : DRow} (hr : r ∈ Z.T) (d : Nat) : callF Z.T md (d + 1) r.i = r.fd.run md (callF Z.T md d) := by
  have e2 : callF Z.T md (d + 1) r.i = fun ds => match rowAt Z.T r.i with
    | some r => r.fd.run md (callF Z.T md d) ds
    | none => fun _ => .bad := rfl
  rw [e2, find_self B.nd hr]
/-- every def of the table, at every depth -/
theorem tab_ok (X : K.In h) (G : h.Ns mainGlobals mg) (c : SaysJ Z K) (B : TabB Z) (g : Option Addr) (base : Heap) :
    ∀ d, ∀ x v, Z.gl.lookup x = some v → GvOk P w K mg base ⟨adOf Z K, g, none⟩ (callF Z.T Z.md d) true (d + 2) x v := by
  have core : ∀ d, (∀ r ∈ Z.T, FnI P w K mg base ⟨adOf Z K, g, none⟩ (callF Z.T Z.md d) (d + 2) r.i r.ps r.kf) → ∀ x v, Z.gl.lookup x = some v → GvOk P w K mg base ⟨adOf Z K, g, none⟩ (callF Z.T Z.md d) true (d + 2) x v := by
    intro d hd x v hl
    rcases List.mem_append.mp (lookup_mem hl) with hm | hm
    · obtain ⟨r, hr, e⟩ := List.mem_map.mp hm
      cases e
      refine ⟨?_, fun _ => hd r hr⟩
      show mg r.x = some (.ref (adOf Z K r.i))
      rw [ad_row B hr]
      exact He.glo_ok X G (says_fact c (fa_mem (.inl (List.mem_map.mpr ⟨r, hr, rfl⟩))))
    rcases List.mem_append.mp hm with hm | hm
    · obtain ⟨⟨y, q⟩, hr, e⟩ := List.mem_map.mp hm
      cases e
      have hf := says_fact c (fa_mem (.inr (.inl (List.mem_map.mpr ⟨_, hr, rfl⟩))))
      cases q with
      | int i =>
        obtain ⟨t, e⟩ := He.int_ok X G hf
        exact ⟨.int i t, .int i, e, ⟨t, rfl⟩, fun _ _ => .int i⟩
      | str z =>
        obtain ⟨t, e⟩ := He.str_ok X G hf
        exact ⟨.str z t, .str z, e, ⟨t, rfl⟩, fun _ _ => .str z⟩
    rcases List.mem_append.mp hm with hm | hm
    · obtain ⟨y, hr, e⟩ := List.mem_map.mp hm
      cases e
      exact He.free_ok X G (says_fact c (fa_mem (.inr (.inr (.inl (List.mem_map.mpr ⟨_, hr, rfl⟩))))))
    · obtain ⟨r, hr, e⟩ := List.mem_map.mp hm
      cases e
      show mg r.x = some (.ref (adOf Z K r.i))
      rw [ad_cls B hr]
      exact He.glo_ok X G (says_fact c (fa_mem (.inr (.inr (.inr (.inl (List.mem_map.mpr ⟨r, hr, rfl⟩)))))))
  intro d
  refine core d ?_
  induction d with
  | zero =>
    intro r hr
    obtain ⟨fd, F⟩ := says_def c hr
    obtain ⟨b1, b2, b3⟩ := B.rows.mem r hr
    have F' : FunD K r.x r.x (defArgs r.st) (defBody r.st) (defScope r.st) [] [] (adOf Z K r.i) fd := by rw [ad_row B hr]; exact F
    exact ⟨fd, ⟨fun vs H Q E ⟨p, S, ds, _, _, hh⟩ => hh.elim, fun A outer s H args us vs Q E _ _ _ _ ⟨p, S, ds, _, _, hh⟩ => hh.elim⟩, F'.bindsN b2, F'.kp, fun q hq => kbn_of F' (b3 q hq)⟩
  | succ d ih =>
    intro r hr
    obtain ⟨fd, F⟩ := says_def c hr
    obtain ⟨b1, b2, b3⟩ := B.rows.mem r hr
    have F' : FunD K r.x r.x (defArgs r.st) (defBody r.st) (defScope r.st) [] [] (adOf Z K r.i) fd := by rw [ad_row B hr]; exact F
    have F1 := fd_ok (P := P) (w := w) (mg := mg) (base := base) (fa := ⟨adOf Z K, g, none⟩) (cf := callF Z.T Z.md d) (gl := Z.md) (f := r.fd) (d := d) F' b1 (md_ok X G c B g base) (core d ih)
    refine ⟨fd, ?_, F'.bindsN b2, F'.kp, fun q hq => kbn_of F' (b3 q hq)⟩
    show FnOk _ _ _ _ _ _ _ _ _ _ (spF _ (callF Z.T Z.md (d + 1) r.i))
    rw [callF_row B hr]; exact F1
theorem fnok_ex {CX : CXT} {base : Heap} {k : Nat} {f : Addr} {fd : FuncData} {ps : List Str} {A : Type} {sp : A → Sp} (h : ∀ g, FnOk P w K mg base CX k f fd ps (sp g)) : FnOk P w K mg base CX k f fd ps (fun vs H Q E => ∃ g, sp g vs H Q E) :=
  ⟨fun vs H Q E ⟨g, q⟩ => (h g).len vs H Q E q, fun A outer s H args us vs Q E hr he hb hv ⟨g, q⟩ => (h g).run A outer s H args us vs Q E hr he hb hv q⟩
theorem fnok_no {base : Heap} {k : Nat} {f : Addr} {fd : FuncData} {ps : List Str} {sp : Sp} (h : FnOk P w K mg base (L2.CX P w) k f fd ps sp) : FnOk P w K mg base CX0 k f fd ps (fun vs H Q _ => sp vs H Q E0) :=
  ⟨fun vs H Q E q => h.len vs H Q _ q, fun A outer s H args us vs Q E hr he hb hv q => codeAny_mono (h.run A outer s H args us vs Q E0 hr he hb hv q) fun r s' z => by
    cases r with
    | error e =>
      obtain ⟨_, _, _, _, _, _, _, _, _, _, _, _, x⟩ := z
      exact x.elim
    | ok fl => cases fl <;> exact z⟩
theorem mem_cons_all {A : Type} {P : A → Prop} {a : A} {l : List A} (h : P a) (t : ∀ q ∈ l, P q) : ∀ q ∈ a :: l, P q := fun q hq => by
  rcases List.mem_cons.mp hq with e | hq
  · rw [e]; exact h
  · exact t q hq
theorem rvs_ints {R : RC} {p : List Addr} {H : Hp} : ∀ ns : List Int, RVs R p H (ns.map D.int) (ns.map V.int)
  | [] => .nil
  | n :: ns => .cons (.int n) (rvs_ints ns)
/-- the law's promise: at every script the reading says True -/
def LawOk (Z : Tab) (d i n : Nat) : Prop := ∀ ns : List Int, ns.length ≤ n → ∃ S, callF Z.T Z.md d i [.scr (ns.map D.int)] [] = .ok (.bl true) S
theorem law_facts {r : DRow} {d n : Nat} {f : Addr} (X : K.In h) (G : h.Ns mainGlobals mg) (c : SaysJ Z K) (B : TabB Z) (hr : r ∈ Z.T) (hx : r.ps = [("script" : Str)]) (hmg : mg r.x = some (.ref f)) (hL : LawOk Z (d + 1) r.i n) :
    ∃ (K : PySem.W.Frag) (fd : FuncData) (sp : Sp), K.In h ∧ (∀ (s : Shared) (u : Value), BindsTo s fd ⟨[u], []⟩ [(("script" : Str), u)]) ∧
      (∀ (H : Hp) (a : Addr) (ns : List Int), ns.length ≤ n → Only H → SqL K H a (ns.map V.int) → sp [.ref a] H (fun v _ => v = .bl true) fun _ _ _ => False) ∧
      ∀ base : Heap, K.In base → base.Ns mainGlobals mg → FnOk P w K mg base CX0 (d + 3) f fd [("script" : Str)] sp := by
  obtain ⟨fd, F⟩ := says_def c hr
  obtain ⟨b1, b2, b3⟩ := B.rows.mem r hr
  have e := hmg.symm.trans (He.glo_ok X G (says_fact c (fa_mem (.inl (List.mem_map.mpr ⟨r, hr, rfl⟩)))))
  have e : f = He.ga K r.x := by cases e; rfl
  subst e
  have bA := FunD.bindsA (ps := r.ps) F b2
  rw [hx] at bA
  refine ⟨K, fd, fun vs H Q E => ∃ g, spF ⟨K, adOf Z K, g, none⟩ (callF Z.T Z.md (d + 1) r.i) vs H Q E0, X, fun s u => bA s [u] rfl, fun H a ns hl hO hS => ?_, fun base _ _ => fnok_no (fnok_ex fun g => ?_)⟩
  · obtain ⟨S, hS'⟩ := hL ns hl
    have fin : ∀ g, (∀ b, g = some b → ∃ u, H b = some u) → ScrAt ⟨K, adOf Z K, g, none⟩ [] H a (ns.map V.int) → spF ⟨K, adOf Z K, g, none⟩ (callF Z.T Z.md (d + 1) r.i) [.ref a] H (fun v _ => v = .bl true) fun _ _ _ => False := fun g hg hs => by
      refine ⟨[], [], [.scr (ns.map D.int)], ⟨rfl, List.nodup_nil, fun b e => ⟨by simp, hg b e⟩, fun l o a e => by simp at e⟩, .cons (.scr hs (rvs_ints ns)) .nil, ?_⟩
      rw [hS']
      intro p' H' _ _ _ v rv
      cases rv
      rfl
    rcases hS with hS | hS
    · refine ⟨some a, fin (some a) (fun b e => ?_) (.inl ⟨rfl, by simp, hS⟩)⟩
      cases e
      rcases hS with h1 | ⟨o, h1⟩ <;> exact ⟨_, h1⟩
    · exact ⟨none, fin none (fun b e => nomatch e) (.inr hS)⟩
  · rw [callF_row B hr, ← hx]
    show FnOk _ _ _ _ _ _ _ _ _ _ (spF _ _)
    exact fd_ok (fa := ⟨adOf Z K, g, none⟩) (f := r.fd) F b1 (md_ok X G c B g base) (tab_ok X G c B g base d)
end
end Jm

set_option Elab.async false
set_option linter.all false
set_option maxRecDepth 100000
set_option maxHeartbeats 4000000
/-! Jm, part T: rules for the plain part: what a reading ends in. -/
noncomputable section
namespace Jm
open PySem PySem.Spec PyProof.Rows L2
def runD (a b : Nat) (F : E Out) (ds : List D) : M D := fun S => if ds.length = a then outD (F (ds.map some ++ List.replicate (b - ds.length) none) S) else .bad
theorem callF_at {T : List DRow} {gl : Md} {i a b : Nat} {r : DRow} {F : CF → E Out} (h : rowAt T i = some r) (e : ∀ cf, r.fd.run gl cf = runD a b (F cf)) (d : Nat) : callF T gl (d + 1) i = runD a b (F (callF T gl d)) := by
  have e2 : callF T gl (d + 1) i = fun ds => match rowAt T i with
    | some r => r.fd.run gl (callF T gl d) ds
    | none => fun _ => .bad := rfl
  rw [e2, h, ← e]

abbrev PX := Nat → List D → Sto → Prop
abbrev nX : PX := fun _ _ _ => False
def Wp {A : Type} (r : Res A) (Q : A → Sto → Prop) (X : PX) : Prop := match r with
  | .ok a S => Q a S
  | .exc c fs S => X c fs S
  | .bad => False
section
variable {A B : Type} {r : Res A} {Q Q' : A → Sto → Prop} {X X' : PX} {S S' : Sto} {n : En}
theorem Wp.imp (h : Wp r Q X) (q : ∀ a S, Q a S → Q' a S) (x : ∀ c fs S, X c fs S → X' c fs S) : Wp r Q' X' := by
  cases r with
  | ok a S => exact q a S h
  | exc c fs S => exact x c fs S h
  | bad => exact h
theorem Wp.of (h : Wp r Q nX) (q : ∀ a S, Q a S → Q' a S) : Wp r Q' X' := h.imp q fun _ _ _ z => z.elim
theorem Wp.q (h : Wp r Q X) (q : ∀ a S, Q a S → Q' a S) : Wp r Q' X := h.imp q fun _ _ _ z => z
theorem Wp.ex (h : Wp r Q nX) : ∃ a S, r = .ok a S ∧ Q a S := by
  cases r with
  | ok a S => exact ⟨a, S, rfl, h⟩
  | exc c fs S => exact h.elim
  | bad => exact h.elim
@[simp] theorem wp_ok (a : A) : Wp (.ok a S) Q X = Q a S := rfl
@[simp] theorem wp_exc (c : Nat) (fs : List D) : Wp (.exc c fs S) Q X = X c fs S := rfl
@[simp] theorem wp_bad : Wp (.bad : Res A) Q X = False := rfl
@[simp] theorem wp_rbind {f : A → Sto → Res B} {Q : B → Sto → Prop} : Wp (rbind r f) Q X = Wp r (fun a S => Wp (f a S) Q X) X := by cases r <;> rfl
theorem wp_nox : Wp (nox r) Q X = Wp r Q nX := by cases r <;> rfl
@[simp] theorem wp_some {a : A} : Wp (lft (some (a, S))) Q X = Q a S := rfl
@[simp] theorem wp_none : Wp (lft (none : Option (A × Sto))) Q X = False := rfl
theorem wp_lft {o : Option (A × Sto)} : Wp (lft o) Q X = (match o with
  | some (a, S) => Q a S
  | none => False) := by cases o <;> rfl
end
section
variable {A B : Type} {Q : A → Sto → Prop} {QD : D → Sto → Prop} {QB : Bool → Sto → Prop} {QL : List D → Sto → Prop} {QO : Out → Sto → Prop} {X : PX} {S S' : Sto} {n : En}
@[simp] theorem wp_bnd {f : E B} {g : B → E A} : Wp (eBnd f g n S) Q X = Wp (f n S) (fun a S' => Wp (g a n S') Q X) X := wp_rbind
@[simp] theorem wp_var {i : Nat} : Wp (eVar i n S) QD X = (match n[i]? with
  | some (some d) => QD d S
  | _ => False) := by
  unfold eVar
  cases n[i]? with
  | none => rfl
  | some o => cases o <;> rfl
@[simp] theorem wp_cst {d : D} : Wp (eCst d n S) QD X = QD d S := rfl
@[simp] theorem wp_all0 : Wp (eAll [] n S) QL X = QL [] S := rfl
@[simp] theorem wp_all {f : E D} {fs : List (E D)} : Wp (eAll (f :: fs) n S) QL X = Wp (f n S) (fun d S1 => Wp (eAll fs n S1) (fun ds S2 => QL (d :: ds) S2) X) X := by
  show Wp (eBnd f _ n S) _ _ = _
  rw [wp_bnd]
  congr 1
  funext d S1
  exact wp_bnd
@[simp] theorem wp_op1 {g : D → Sto → Option (D × Sto)} {f : E D} : Wp (eOp1 g f n S) QD X = Wp (f n S) (fun d S1 => Wp (lft (g d S1)) QD X) X := wp_bnd
@[simp] theorem wp_op2 {g : D → D → Sto → Option (D × Sto)} {f1 f2 : E D} : Wp (eOp2 g f1 f2 n S) QD X = Wp (f1 n S) (fun d1 S1 => Wp (f2 n S1) (fun d2 S2 => Wp (lft (g d1 d2 S2)) QD X) X) X := by
  show Wp (eBnd f1 _ n S) _ _ = _
  rw [wp_bnd]
  congr 1
  funext d S1
  exact wp_bnd
@[simp] theorem wp_opN {g : List D → Sto → Option (D × Sto)} {fs : List (E D)} : Wp (eOpN g fs n S) QD X = Wp (eAll fs n S) (fun ds S1 => Wp (lft (g ds S1)) QD X) X := wp_bnd
@[simp] theorem wp_call {m : List D → M D} {fs : List (E D)} : Wp (eCall m fs n S) QD X = Wp (eAll fs n S) (fun ds S1 => Wp (m ds S1) QD X) X := wp_bnd
@[simp] theorem wp_callK {m : List D → M D} {a k : Nat} {ix : List Nat} {fs ks : List (E D)} : Wp (eCallK m a k ix fs ks n S) QD X = Wp (eAll fs n S) (fun ds S1 => Wp (eAll ks n S1) (fun es S2 => if ds.length = a ∧ es.length = k then Wp (m (arr ix (ds ++ es)) S2) QD X else False) X) X := by
  show Wp (eBnd (eAll fs) _ n S) _ _ = _
  rw [wp_bnd]
  congr 1
  funext ds S1
  rw [wp_bnd]
  congr 1
  funext es S2
  split <;> rfl
@[simp] theorem wp_tru {d : D} : Wp (tru d n S) QB X = (match truD d S with
  | some b => QB b S
  | none => False) := by
  unfold tru
  cases truD d S <;> rfl
@[simp] theorem wp_eTru {f : E D} : Wp (eTru f n S) QB X = Wp (f n S) (fun d S1 => match truD d S1 with
  | some b => QB b S1
  | none => False) X := by
  show Wp (eBnd f tru n S) _ _ = _
  rw [wp_bnd]
  congr 1
  funext d S1
  exact wp_tru
@[simp] theorem wp_eBl {f : E D} : Wp (eBl f n S) QB X = Wp (f n S) (fun d S1 => match d with
  | .bl b => QB b S1
  | _ => False) X := by
  show Wp (eBnd f _ n S) _ _ = _
  rw [wp_bnd]
  congr 1
  funext d S1
  cases d <;> rfl
@[simp] theorem wp_notT {f : E Bool} : Wp (eNotT f n S) QB X = Wp (f n S) (fun b S1 => QB (!b) S1) X := wp_bnd
theorem wp_ite {b : Bool} {f g : E A} : Wp ((if b = true then f else g) n S) Q X = ((b = true → Wp (f n S) Q X) ∧ (b = false → Wp (g n S) Q X)) := by cases b <;> simp
@[simp] theorem wp_andT {f g : E Bool} : Wp (eAndT f g n S) QB X = Wp (f n S) (fun b S1 => (b = true → Wp (g n S1) QB X) ∧ (b = false → QB false S1)) X := by
  show Wp (eBnd f _ n S) _ _ = _
  rw [wp_bnd]
  congr 1
  funext b S1
  exact wp_ite
@[simp] theorem wp_orT {f g : E Bool} : Wp (eOrT f g n S) QB X = Wp (f n S) (fun b S1 => (b = true → QB true S1) ∧ (b = false → Wp (g n S1) QB X)) X := by
  show Wp (eBnd f _ n S) _ _ = _
  rw [wp_bnd]
  congr 1
  funext b S1
  exact wp_ite
@[simp] theorem wp_if {t : E Bool} {f g : E A} : Wp (eIf t f g n S) Q X = Wp (t n S) (fun b S1 => (b = true → Wp (f n S1) Q X) ∧ (b = false → Wp (g n S1) Q X)) X := by
  show Wp (eBnd t _ n S) _ _ = _
  rw [wp_bnd]
  congr 1
  funext b S1
  exact wp_ite
@[simp] theorem wp_eNot {f : E D} : Wp (eNot f n S) QD X = Wp (f n S) (fun d S1 => match truD d S1 with
  | some b => QD (.bl (!b)) S1
  | none => False) X := by
  show Wp (eBnd (eTru f) _ n S) _ _ = _
  rw [wp_bnd, wp_eTru]
  rfl
@[simp] theorem wp_eAnd {f g : E D} : Wp (eAnd f g n S) QD X = Wp (f n S) (fun d S1 => match truD d S1 with
  | some b => (b = true → Wp (g n S1) QD X) ∧ (b = false → QD d S1)
  | none => False) X := by
  show Wp (eBnd f _ n S) _ _ = _
  rw [wp_bnd]
  congr 1
  funext d S1
  rw [wp_bnd, wp_tru]
  cases truD d S1 with
  | none => rfl
  | some b => exact wp_ite
@[simp] theorem wp_eOr {f g : E D} : Wp (eOr f g n S) QD X = Wp (f n S) (fun d S1 => match truD d S1 with
  | some b => (b = true → QD d S1) ∧ (b = false → Wp (g n S1) QD X)
  | none => False) X := by
  show Wp (eBnd f _ n S) _ _ = _
  rw [wp_bnd]
  congr 1
  funext d S1
  rw [wp_bnd, wp_tru]
  cases truD d S1 with
  | none => rfl
  | some b => exact wp_ite
@[simp] theorem wp_chain {g g' : D → D → Sto → Option (D × Sto)} {f1 f2 f3 : E D} : Wp (eChain g g' f1 f2 f3 n S) QD X = Wp (f1 n S) (fun d1 S1 => Wp (f2 n S1) (fun d2 S2 => Wp (lft (g d1 d2 S2)) (fun k S3 => match k with
  | .bl b => (b = true → Wp (f3 n S3) (fun d3 S4 => Wp (lft (g' d2 d3 S4)) QD X) X) ∧ (b = false → QD (.bl false) S3)
  | _ => False) X) X) X := by
  show Wp (eBnd f1 _ n S) _ _ = _
  rw [wp_bnd]
  congr 1
  funext d1 S1
  rw [wp_bnd]
  congr 1
  funext d2 S2
  rw [wp_bnd]
  congr 1
  funext k S3
  cases k with
  | bl b =>
    cases b with
    | true =>
      show Wp (eBnd f3 _ n S3) _ _ = _
      rw [wp_bnd]
      simp
    | false => simp
  | _ => rfl
@[simp] theorem wp_slc {f : E D} {lo hi : Option (E D)} : Wp (eSlc f lo hi n S) QD X = Wp (f n S) (fun d S1 => Wp (ePart lo n S1) (fun l S2 => Wp (ePart hi n S2) (fun h S3 => Wp (lft (slcD d l h S3)) QD X) X) X) X := by
  show Wp (eBnd f _ n S) _ _ = _
  rw [wp_bnd]
  congr 1
  funext d S1
  rw [wp_bnd]
  congr 1
  funext l S2
  exact wp_bnd
@[simp] theorem wp_part0 {Q : Option Int → Sto → Prop} : Wp (ePart none n S) Q X = Q none S := rfl
@[simp] theorem wp_part {f : E D} {Q : Option Int → Sto → Prop} : Wp (ePart (some f) n S) Q X = Wp (f n S) (fun d S1 => match d with
  | .int i => Q (some i) S1
  | _ => False) X := by
  show Wp (eBnd f asInt n S) _ _ = _
  rw [wp_bnd]
  congr 1
  funext d S1
  cases d <;> rfl
@[simp] theorem wp_meth {t : Tn} {g : MPrim} {f : E D} {fs : List (E D)} : Wp (eMeth t g f fs n S) QD X = Wp (f n S) (fun d S1 => tyOf d S1 = some t ∧ Wp (eAll fs n S1) (fun ds S2 => Wp (lft (g d ds S2)) QD X) X) X := by
  show Wp (eBnd f _ n S) _ _ = _
  rw [wp_bnd]
  congr 1
  funext d S1
  rw [wp_bnd]
  unfold chkT
  by_cases c : tyOf d S1 = some t
  · rw [if_pos c, wp_ok, wp_bnd]; simp [c]
  · rw [if_neg c, wp_bad]; simp [c]
/-! ### statements -/
@[simp] theorem wp_sBnd {f : E B} {k : B → E Out} : Wp (sBnd f k n S) QO X = Wp (f n S) (fun a S1 => Wp (k a n S1) QO X) (fun c fs S1 => QO (.er c fs n) S1) := by
  unfold sBnd
  cases f n S <;> rfl
@[simp] theorem wp_sNil : Wp (sNil n S) QO X = QO (.nx n) S := rfl
@[simp] theorem wp_sSeq {f g : E Out} : Wp (sSeq f g n S) QO X = Wp (f n S) (fun o S1 => Wp (sThen o g S1) QO X) X := wp_rbind
@[simp] theorem then_nx {g : E Out} : sThen (.nx n) g S = g n S := rfl
@[simp] theorem then_rt {d : D} {g : E Out} : sThen (.rt d) g S = .ok (.rt d) S := rfl
@[simp] theorem then_bk {g : E Out} : sThen (.bk n) g S = .ok (.bk n) S := rfl
@[simp] theorem then_ct {g : E Out} : sThen (.ct n) g S = .ok (.ct n) S := rfl
@[simp] theorem then_er {c : Nat} {fs : List D} {g : E Out} : sThen (.er c fs n) g S = .ok (.er c fs n) S := rfl
@[simp] theorem wp_sIf {t : E Bool} {f g : E Out} : Wp (sIf t f g n S) QO X = Wp (t n S) (fun b S1 => (b = true → Wp (f n S1) QO X) ∧ (b = false → Wp (g n S1) QO X)) (fun c fs S1 => QO (.er c fs n) S1) := by
  show Wp (sBnd t _ n S) _ _ = _
  rw [wp_sBnd]
  congr 1
  funext b S1
  exact wp_ite
@[simp] theorem wp_sExp {f : E D} : Wp (sExp f n S) QO X = Wp (f n S) (fun _ S1 => QO (.nx n) S1) (fun c fs S1 => QO (.er c fs n) S1) := wp_sBnd
@[simp] theorem wp_sRet {f : E D} : Wp (sRet f n S) QO X = Wp (f n S) (fun d S1 => QO (.rt d) S1) (fun c fs S1 => QO (.er c fs n) S1) := wp_sBnd
@[simp] theorem wp_sRetN : Wp (sRetN n S) QO X = QO (.rt .non) S := rfl
@[simp] theorem wp_sBrk : Wp (sBrk n S) QO X = QO (.bk n) S := rfl
@[simp] theorem wp_sCnt : Wp (sCnt n S) QO X = QO (.ct n) S := rfl
@[simp] theorem wp_sAsgn {f : E D} {g : G} : Wp (sAsgn f g n S) QO X = Wp (f n S) (fun d S1 => Wp (g d n S1) (fun n' S2 => QO (.nx n') S2) (fun c fs S2 => QO (.er c fs n) S2)) (fun c fs S1 => QO (.er c fs n) S1) := by
  show Wp (sBnd f _ n S) _ _ = _
  rw [wp_sBnd]
  congr 1
  funext d S1
  cases g d n S1 <;> rfl
@[simp] theorem wp_sPar {i j : Nat} {f1 f2 : E D} : Wp (sPar i j f1 f2 n S) QO X = Wp (f1 n S) (fun d1 S1 => Wp (f2 n S1) (fun d2 S2 => QO (.nx ((n.set i (some d1)).set j (some d2))) S2) (fun c fs S2 => QO (.er c fs n) S2)) (fun c fs S1 => QO (.er c fs n) S1) := by
  show Wp (sBnd f1 _ n S) _ _ = _
  rw [wp_sBnd]
  congr 1
  funext d S1
  exact wp_sBnd
variable {QN : En → Sto → Prop}
@[simp] theorem wp_gNam {i : Nat} {d : D} : Wp (gNam i d n S) QN X = QN (n.set i (some d)) S := rfl
@[simp] theorem wp_gAll0 : Wp (gAll [] [] n S) QN X = QN n S := rfl
@[simp] theorem wp_gAll {g : G} {gs : List G} {d : D} {ds : List D} : Wp (gAll (g :: gs) (d :: ds) n S) QN X = Wp (g d n S) (fun n' S' => Wp (gAll gs ds n' S') QN X) X := wp_rbind
@[simp] theorem wp_gTupl {gs : List G} {ds : List D} : Wp (gTupl gs (.tup ds) n S) QN X = (ds.length = gs.length ∧ Wp (gAll gs ds n S) QN nX) := by
  show Wp (if ds.length = gs.length then nox (gAll gs ds n S) else .bad) QN X = _
  by_cases c : ds.length = gs.length
  · rw [if_pos c, wp_nox]; simp [c]
  · rw [if_neg c]; simp [c]
@[simp] theorem wp_gSubs {fo fi : E D} {d : D} : Wp (gSubs fo fi d n S) QN X = Wp (fo n S) (fun o S1 => Wp (fi n S1) (fun i S2 => match putD o i d S2 with
  | some S3 => QN n S3
  | none => False) X) X := by
  unfold gSubs
  rw [wp_rbind]
  congr 1
  funext o S1
  rw [wp_rbind]
  congr 1
  funext i S2
  cases putD o i d S2 <;> rfl
@[simp] theorem wp_outD {r : Res Out} : Wp (outD r) QD X = Wp r (fun o S1 => match o with
  | .nx _ => QD .non S1
  | .rt d => QD d S1
  | .er c fs _ => X c fs S1
  | _ => False) nX := by
  cases r with
  | ok o S => cases o <;> rfl
  | exc c fs S => rfl
  | bad => rfl
@[simp] theorem wp_runD {a b : Nat} {F : E Out} {ds : List D} : Wp (runD a b F ds S) QD X = (ds.length = a ∧ Wp (F (ds.map some ++ List.replicate (b - ds.length) none) S) (fun o S1 => match o with
  | .nx _ => QD .non S1
  | .rt d => QD d S1
  | .er c fs _ => X c fs S1
  | _ => False) nX) := by
  unfold runD
  by_cases h : ds.length = a
  · rw [if_pos h, wp_outD]; simp [h]
  · rw [if_neg h]; simp [h]
/-! ### primitives -/
@[simp] theorem cmp_lt : cmpD .Lt = ltD := rfl
@[simp] theorem cmp_le : cmpD .LtE = leD := rfl
@[simp] theorem cmp_gt : cmpD .Gt = gtD := rfl
@[simp] theorem cmp_ge : cmpD .GtE = geD := rfl
@[simp] theorem cmp_eq : cmpD .Eq = eqD := rfl
@[simp] theorem cmp_ne : cmpD .NotEq = neD := rfl
@[simp] theorem cmp_is : cmpD .Is = isD := rfl
@[simp] theorem cmp_isn : cmpD .IsNot = isntD := rfl
@[simp] theorem cmp_in : cmpD .In = inD := rfl
@[simp] theorem cmp_nin : cmpD .NotIn = notInD := rfl
variable {a b : Int}
@[simp] theorem add_ii : addD (.int a) (.int b) S = some (.int (a + b), S) := rfl
@[simp] theorem sub_ii : subD (.int a) (.int b) S = some (.int (a - b), S) := rfl
@[simp] theorem neg_i : negD (.int a) S = some (.int (-a), S) := rfl
@[simp] theorem lt_ii : ltD (.int a) (.int b) S = some (.bl (decide (a < b)), S) := rfl
@[simp] theorem le_ii : leD (.int a) (.int b) S = some (.bl (decide (a ≤ b)), S) := rfl
@[simp] theorem gt_ii : gtD (.int a) (.int b) S = some (.bl (decide (b < a)), S) := rfl
@[simp] theorem ge_ii : geD (.int a) (.int b) S = some (.bl (decide (b ≤ a)), S) := rfl
@[simp] theorem eq_ii : eqD (.int a) (.int b) S = some (.bl (decide (a = b)), S) := by
  show some (D.bl (PyData.eqv (.int a) (.int b)), S) = _
  congr 1
@[simp] theorem ne_ii : neD (.int a) (.int b) S = some (.bl (!decide (a = b)), S) := rfl
@[simp] theorem eq_bb {a b : Bool} : eqD (.bl a) (.bl b) S = some (.bl (a == b), S) := rfl
@[simp] theorem int_i : intD [.int a] S = some (.int a, S) := rfl
@[simp] theorem abs_i : absD [.int a] S = some (.int (if a < 0 then -a else a), S) := rfl
@[simp] theorem tru_b {b : Bool} : truD (.bl b) S = some b := rfl
@[simp] theorem tru_i {b : Int} : truD (.int b) S = some (b != 0) := rfl
@[simp] theorem tru_t {xs : List D} : truD (.tup xs) S = some (!xs.isEmpty) := rfl
@[simp] theorem tru_l {l : Nat} : truD (.loc l) S = (match S[l]? with
  | some (.lst xs) => some (!xs.isEmpty)
  | some (.dct xs) => some (!xs.isEmpty)
  | none => none) := rfl
@[simp] theorem is_nn : isD .non .non S = some (.bl true, S) := rfl
@[simp] theorem is_in : isD (.int a) .non S = some (.bl false, S) := rfl
@[simp] theorem is_tn {xs : List D} : isD (.tup xs) .non S = some (.bl false, S) := rfl
@[simp] theorem is_ln {l : Nat} : isD (.loc l) .non S = some (.bl false, S) := rfl
@[simp] theorem is_bn {b : Bool} : isD (.bl b) .non S = some (.bl false, S) := rfl
@[simp] theorem is_sn {x : Str} : isD (.str x) .non S = some (.bl false, S) := rfl
@[simp] theorem isn_nn : isntD .non .non S = some (.bl false, S) := rfl
@[simp] theorem isn_in : isntD (.int a) .non S = some (.bl true, S) := rfl
@[simp] theorem isn_tn {xs : List D} : isntD (.tup xs) .non S = some (.bl true, S) := rfl
@[simp] theorem wp_mkLst {ds : List D} : Wp (lft (mkLst ds S)) QD X = (ds.length ≤ LINE ∧ QD (.loc S.length) (S ++ [.lst ds])) := by
  unfold mkLst
  by_cases c : ds.length ≤ LINE <;> simp [c]
@[simp] theorem wp_mkTup {ds : List D} : Wp (lft (mkTup ds S)) QD X = (ds.length ≤ LINE ∧ QD (.tup ds) S) := by
  unfold mkTup
  by_cases c : ds.length ≤ LINE <;> simp [c]
@[simp] theorem wp_mul : Wp (lft (mulD (.int a) (.int b) S)) QD X = (mulOk a b = true ∧ QD (.int (a * b)) S) := by
  show Wp (lft (if mulOk a b = true then some (D.int (a * b), S) else none)) _ _ = _
  by_cases c : mulOk a b = true <;> simp [c]
@[simp] theorem wp_fdiv : Wp (lft (fdivD (.int a) (.int b) S)) QD X = (divOk b = true ∧ QD (.int (a / b)) S) := by
  show Wp (lft (if divOk b = true then some (D.int (a / b), S) else none)) _ _ = _
  by_cases c : divOk b = true <;> simp [c]
@[simp] theorem wp_mod : Wp (lft (modD (.int a) (.int b) S)) QD X = (0 < b ∧ QD (.int (a % b)) S) := by
  show Wp (lft (if 0 < b then some (D.int (a % b), S) else none)) _ _ = _
  by_cases c : 0 < b <;> simp [c]
@[simp] theorem wp_pow : Wp (lft (powD (.int a) (.int b) S)) QD X = ((0 ≤ b ∧ b ≤ 1000000 ∧ a.natAbs < 2 ^ 64) ∧ QD (.int (a ^ b.toNat)) S) := by
  show Wp (lft (if 0 ≤ b ∧ b ≤ 1000000 ∧ a.natAbs < 2 ^ 64 then some (D.int (a ^ b.toNat), S) else none)) _ _ = _
  by_cases c : 0 ≤ b ∧ b ≤ 1000000 ∧ a.natAbs < 2 ^ 64 <;> simp only [c, if_true, if_false, wp_some, wp_none, true_and, false_and]
@[simp] theorem wp_divmod : Wp (lft (divmodD [.int a, .int b] S)) QD X = ((0 < b ∧ b < 1073741824) ∧ QD (.tup [.int (a / b), .int (a % b)]) S) := by
  show Wp (lft (if 0 < b ∧ b < hid 1073741824 then some (D.tup [.int (a / b), .int (a % b)], S) else none)) _ _ = _
  rw [hid_eq]
  by_cases c : 0 < b ∧ b < 1073741824 <;> simp only [c, if_true, if_false, wp_some, wp_none, true_and, false_and]
theorem mulOk_l (h : a.natAbs < 2 ^ 64) : mulOk a b = true := by unfold mulOk; simp only [h, decide_true, Bool.true_or]
theorem mulOk_r (h : b.natAbs < 2 ^ 64) : mulOk a b = true := by unfold mulOk; simp only [h, decide_true, Bool.true_or, Bool.or_true]
theorem divOk_of (h : 0 < b) (h2 : b.natAbs < 2 ^ 64) : divOk b = true := by
  unfold divOk
  rw [decide_eq_true h, decide_eq_true (Nat.lt_trans h2 (Nat.pow_lt_pow_right (by decide) (by decide)))]; rfl
/-! ### the store -/
variable {l : Nat} {xs ys : List D} {y : D} {kvs : List (Key × D)}
theorem lstAt_eq (h : S[l]? = some (.lst xs)) : lstAt S l = some xs := by unfold lstAt; rw [h]
theorem idx_lst (h : S[l]? = some (.lst xs)) (h2 : atI xs a = some y) : idxD (.loc l) (.int a) S = some (y, S) := by
  show idxLoc l (.int a) S = _
  unfold idxLoc
  rw [h]
  show (atI xs a).map (fun d => (d, S)) = _
  rw [h2]; rfl
theorem idx_tup (h2 : atI xs a = some y) : idxD (.tup xs) (.int a) S = some (y, S) := by
  show (atI xs a).map (fun d => (d, S)) = _
  rw [h2]; rfl
theorem idx_scr (h2 : atI xs a = some y) : idxD (.scr xs) (.int a) S = some (y, S) := by
  show (atI xs a).map (fun d => (d, S)) = _
  rw [h2]; rfl
theorem atI_neg1 (h : xs.getLast? = some y) : atI xs (-1) = some y := by
  have hl : xs ≠ [] := fun z => by rw [z] at h; cases h
  have hp := List.length_pos_iff.mpr hl
  unfold atI ixN
  rw [if_neg (by decide), if_pos (by omega)]
  show xs[(-1 + (xs.length : Int)).toNat]? = some y
  rw [← h, List.getLast?_eq_getElem?]
  congr 1
  omega
@[simp] theorem ty_l : tyOf (.loc l) S = (match S[l]? with
  | some (.lst _) => some .list
  | some (.dct _) => some .dict
  | none => none) := rfl
theorem app_lst (h : S[l]? = some (.lst xs)) : Wp (lft (appendD (.loc l) [y] S)) QD X = (xs.length < LINE ∧ QD .non (S.set l (.lst (xs ++ [y])))) := by
  show Wp (lft (match lstAt S l with
    | some xs => if xs.length < LINE then some (D.non, S.set l (.lst (xs ++ [y]))) else none
    | none => none)) _ _ = _
  rw [lstAt_eq h]
  show Wp (lft (if xs.length < LINE then some (D.non, S.set l (.lst (xs ++ [y]))) else none)) _ _ = _
  by_cases c : xs.length < LINE <;> simp [c]
theorem add_lst {k : Nat} (h : S[l]? = some (.lst xs)) (h2 : S[k]? = some (.lst ys)) : addD (.loc l) (.loc k) S = mkLst (xs ++ ys) S := by
  show (match lstAt S l, lstAt S k with
    | some xs, some ys => mkLst (xs ++ ys) S
    | _, _ => none) = _
  rw [lstAt_eq h, lstAt_eq h2]
@[simp] theorem add_tt : addD (.tup xs) (.tup ys) S = mkTup (xs ++ ys) S := rfl
theorem len_lst (h : S[l]? = some (.lst xs)) : lenD [.loc l] S = some (.int xs.length, S) := by
  have : lenOf (.loc l) S = some xs.length := by unfold lenOf; simp [h]
  unfold lenD
  simp only [this, Option.map_some]
@[simp] theorem len_tup : lenD [.tup xs] S = some (.int xs.length, S) := rfl
@[simp] theorem len_scr : lenD [.scr xs] S = some (.int xs.length, S) := rfl
theorem put_lst {i : Nat} (h : S[l]? = some (.lst xs)) (hi : i < xs.length) : putD (.loc l) (.int i) y S = some (S.set l (.lst (xs.set i y))) := by
  unfold putD
  simp only [h]
  show (ixN xs.length (i : Int)).map (fun j => S.set l (.lst (xs.set j y))) = _
  have : ixN xs.length (i : Int) = some i := by
    unfold ixN
    rw [if_pos (by omega), if_pos (by omega)]; simp
  rw [this]; rfl
end
/-- what stood still stands -/
abbrev Ext (S S' : Sto) : Prop := S <+: S'
section
variable {S S' S'' : Sto} {l : Nat} {o o' : O}
theorem Ext.rfl' : Ext S S := List.prefix_refl S
theorem Ext.app {G : Sto} (h : Ext S S') : Ext S (S' ++ G) := h.trans (List.prefix_append S' G)
theorem Ext.get (h : Ext S S') (e : S[l]? = some o) : S'[l]? = some o := by
  obtain ⟨r, rfl⟩ := h
  rw [List.getElem?_append_left (List.getElem?_eq_some_iff.mp e).1]; exact e
theorem Ext.le (h : Ext S S') : S.length ≤ S'.length := h.length_le
theorem Ext.set (h : Ext S S') (hk : S.length ≤ l) : Ext S (S'.set l o) := by
  obtain ⟨r, rfl⟩ := h
  rw [List.set_append_right _ _ hk]
  exact List.prefix_append _ _
theorem get_new : (S ++ [o])[S.length]? = some o := by simp
theorem get_set (h : S[l]? = some o') : (S.set l o)[l]? = some o := List.getElem?_set_self (List.getElem?_eq_some_iff.mp h).1
theorem get_ne {k : Nat} (h : S[k]? = some o') (n : l ≠ k) : (S.set l o)[k]? = some o' := by rw [List.getElem?_set_ne n]; exact h
theorem get_lt (h : S[l]? = some o) : l < S.length := (List.getElem?_eq_some_iff.mp h).1
theorem set_len : (S.set l o).length = S.length := List.length_set ..
end
section
variable {A : Type} {Q : Out → Sto → Prop} {QL : List D → Sto → Prop} {X : PX} {S : Sto} {n : En} {it : Itn} {g : G} {body : E Out}
/-- what a loop's turn comes to -/
def turnQ (I : En → Sto → Prop) (Q : Out → Sto → Prop) : Out → Sto → Prop := fun o S => match o with
  | .nx n => I n S
  | .ct n => I n S
  | .bk n => Q (.nx n) S
  | o => Q o S
@[simp] theorem turn_nx {I : En → Sto → Prop} : turnQ I Q (.nx n) S = I n S := rfl
@[simp] theorem turn_ct {I : En → Sto → Prop} : turnQ I Q (.ct n) S = I n S := rfl
@[simp] theorem turn_bk {I : En → Sto → Prop} : turnQ I Q (.bk n) S = Q (.nx n) S := rfl
@[simp] theorem turn_rt {I : En → Sto → Prop} {d : D} : turnQ I Q (.rt d) S = Q (.rt d) S := rfl
@[simp] theorem turn_er {I : En → Sto → Prop} {c : Nat} {fs : List D} : turnQ I Q (.er c fs n) S = Q (.er c fs n) S := rfl
theorem wp_loop (k : Nat) (x : Nat → D) (I : Nat → En → Sto → Prop) (h0 : I 0 n S) (hk : k < FUEL) (hnext : ∀ i n S, i < k → I i n S → it.next i S = some (some (x i))) (hend : ∀ n S, I k n S → it.next k S = some none)
    (hs : ∀ i n S, i < k → I i n S → Wp (g (x i) n S) (fun n1 S1 => Wp (body n1 S1) (turnQ (I (i + 1)) Q) X) (fun c fs S1 => Q (.er c fs n) S1)) (he : ∀ n S, I k n S → Q (.nx n) S) : Wp (loopF it g body FUEL 0 n S) Q X := by
  have core : ∀ j i m n S, i + j = k → j < m → I i n S → Wp (loopF it g body m i n S) Q X := by
    intro j
    induction j with
    | zero =>
      intro i m n S e hm hI
      obtain ⟨m, rfl⟩ : ∃ m', m = m' + 1 := ⟨m - 1, by omega⟩
      obtain rfl : i = k := by omega
      unfold loopF
      rw [hend n S hI]
      exact he n S hI
    | succ j ih =>
      intro i m n S e hm hI
      obtain ⟨m, rfl⟩ : ∃ m', m = m' + 1 := ⟨m - 1, by omega⟩
      unfold loopF
      rw [hnext i n S (by omega) hI]
      have q := hs i n S (by omega) hI
      dsimp only
      cases eg : g (x i) n S with
      | bad => rw [eg] at q; exact q
      | exc c fs S1 => rw [eg] at q; exact q
      | ok n1 S1 =>
        rw [eg] at q
        dsimp only
        rw [wp_rbind]
        refine Wp.q (show Wp (body n1 S1) _ _ from q) fun o S2 ho => ?_
        cases o with
        | nx n2 => exact ih (i + 1) m n2 S2 (by omega) (by omega) ho
        | ct n2 => exact ih (i + 1) m n2 S2 (by omega) (by omega) ho
        | bk n2 => exact ho
        | rt d => exact ho
        | er c fs n2 => exact ho
  exact core k 0 FUEL n S (by omega) hk h0
theorem wp_lc {t : E Bool} {elt : E D} (k : Nat) (x : Nat → D) (I : Nat → List D → Sto → Prop) (h0 : I 0 [] S) (hk : k < FUEL) (hnext : ∀ i a S, i < k → I i a S → it.next i S = some (some (x i))) (hend : ∀ a S, I k a S → it.next k S = some none)
    (hs : ∀ i a S, i < k → I i a S → Wp (g (x i) n S) (fun n1 S1 => Wp (t n1 S1) (fun b S2 => (b = true → Wp (elt n1 S2) (fun y S3 => a.length < LINE ∧ I (i + 1) (a ++ [y]) S3) X) ∧ (b = false → I (i + 1) a S2)) X) X) (he : ∀ a S, I k a S → QL a S) : Wp (lcF it g t elt n FUEL 0 [] S) QL X := by
  have core : ∀ j i m a S, i + j = k → j < m → I i a S → Wp (lcF it g t elt n m i a S) QL X := by
    intro j
    induction j with
    | zero =>
      intro i m a S e hm hI
      obtain ⟨m, rfl⟩ : ∃ m', m = m' + 1 := ⟨m - 1, by omega⟩
      obtain rfl : i = k := by omega
      unfold lcF
      rw [hend a S hI]
      exact he a S hI
    | succ j ih =>
      intro i m a S e hm hI
      obtain ⟨m, rfl⟩ : ∃ m', m = m' + 1 := ⟨m - 1, by omega⟩
      unfold lcF
      rw [hnext i a S (by omega) hI]
      dsimp only
      rw [wp_rbind]
      refine (hs i a S (by omega) hI).q fun n1 S1 h1 => ?_
      rw [wp_rbind]
      refine h1.q fun b S2 h2 => ?_
      cases b with
      | false => exact ih (i + 1) m a S2 (by omega) (by omega) (h2.2 rfl)
      | true =>
        show Wp (rbind (elt n1 S2) _) _ _
        rw [wp_rbind]
        refine (h2.1 rfl).q fun y S3 h3 => ?_
        rw [if_pos h3.1]
        exact ih (i + 1) m _ S3 (by omega) (by omega) h3.2
  exact core k 0 FUEL [] S (by omega) hk h0
@[simp] theorem wp_sFor {f : E Itn} : Wp (sFor f g body n S) Q X = Wp (f n S) (fun it S1 => Wp (loopF it g body FUEL 0 n S1) Q X) (fun c fs S1 => Q (.er c fs n) S1) := wp_sBnd
@[simp] theorem wp_eLc {f : E Itn} {vs : List Nat} {t : E Bool} {elt : E D} {QD : D → Sto → Prop} : Wp (eLc f vs g t elt n S) QD X = Wp (f n S) (fun it S1 => Wp (lcF it g t elt (wipeD n vs) FUEL 0 [] S1) (fun ys S2 => QD (.loc S2.length) (S2 ++ [.lst ys])) nX) X := by
  show Wp (eBnd f _ n S) _ _ = _
  rw [wp_bnd]
  congr 1
  funext it S1
  rw [wp_rbind, wp_nox]
  rfl
@[simp] theorem wp_tTru {Q : Bool → Sto → Prop} : Wp (tTru n S) Q X = Q true S := rfl
variable {QI : Itn → Sto → Prop}
@[simp] theorem wp_iVal {f : E D} : Wp (iVal f n S) QI X = Wp (f n S) (fun d S1 => Wp (valIt d n S1) QI X) X := wp_bnd
@[simp] theorem wp_iRng {k : List D → E Itn} {fs : List (E D)} : Wp (iRng k fs n S) QI X = Wp (eAll fs n S) (fun ds S1 => Wp (k ds n S1) QI X) X := wp_bnd
@[simp] theorem wp_iRevd {f : E D} : Wp (iRevd f n S) QI X = Wp (f n S) (fun d S1 => Wp (revIt d n S1) QI X) X := wp_bnd
@[simp] theorem wp_iEnum {f : E D} : Wp (iEnum f n S) QI X = Wp (f n S) (fun d S1 => Wp (enuIt d n S1) QI X) X := wp_bnd
@[simp] theorem wp_iZip {f h : E D} : Wp (iZip f h n S) QI X = Wp (f n S) (fun d S1 => Wp (h n S1) (fun d' S2 => Wp (zipIt d d' n S2) QI X) X) X := by
  show Wp (eBnd f _ n S) _ _ = _
  rw [wp_bnd]
  congr 1
  funext d S1
  exact wp_bnd
@[simp] theorem wp_rng1 {j : Int} : Wp (rng1 [.int j] n S) QI X = ((-(2 ^ 62) ≤ j ∧ j < 2 ^ 62) ∧ QI (.rng 0 1 j.toNat) S) := by
  show Wp (if -(hid (2 ^ 62)) ≤ j ∧ j < hid (2 ^ 62) then .ok (.rng 0 1 j.toNat) S else .bad) QI X = _
  rw [hid_eq]
  split <;> rename_i h <;> simp only [h, wp_ok, wp_bad, true_and, false_and]
@[simp] theorem wp_rng2 {i j : Int} : Wp (rng2 [.int i, .int j] n S) QI X = ((-(2 ^ 62) ≤ i ∧ i < 2 ^ 62 ∧ -(2 ^ 62) ≤ j ∧ j < 2 ^ 62) ∧ QI (.rng i 1 (j - i).toNat) S) := by
  show Wp (if -(hid (2 ^ 62)) ≤ i ∧ i < hid (2 ^ 62) ∧ -(hid (2 ^ 62)) ≤ j ∧ j < hid (2 ^ 62) then .ok (.rng i 1 (j - i).toNat) S else .bad) QI X = _
  rw [hid_eq]
  split <;> rename_i h <;> simp only [h, wp_ok, wp_bad, true_and, false_and]
variable {l : Nat} {xs ys : List D}
theorem src_lst (h : S[l]? = some (.lst xs)) : srcLen (.loc l) S = some (.dyn l, xs.length) := by
  show (lstAt S l).map _ = _
  rw [lstAt_eq h]; rfl
theorem wp_val (h : S[l]? = some (.lst xs)) : Wp (valIt (.loc l) n S) QI X = QI (.one (.dyn l)) S := by
  unfold valIt
  simp only [src_lst h, wp_ok]
@[simp] theorem wp_valT : Wp (valIt (.tup xs) n S) QI X = QI (.one (.fix true xs)) S := rfl
@[simp] theorem wp_valS : Wp (valIt (.scr xs) n S) QI X = QI (.one (.fix false xs)) S := rfl
theorem wp_rev (h : S[l]? = some (.lst xs)) : Wp (revIt (.loc l) n S) QI X = QI (.rev (.dyn l) xs.length) S := by
  unfold revIt
  simp only [src_lst h, wp_ok]
theorem next_rng {lo c : Int} {k i : Nat} : (Itn.rng lo c k).next i S = if i < k then some (some (.int (lo + (i : Nat) * c))) else some none := rfl
theorem next_dyn {i : Nat} (h : S[l]? = some (.lst xs)) : (Itn.one (.dyn l)).next i S = some xs[i]? := by
  show (lstAt S l).map _ = _
  rw [lstAt_eq h]; rfl
theorem next_fix {i : Nat} {b : Bool} : (Itn.one (.fix b xs)).next i S = some xs[i]? := rfl
theorem next_rev {i : Nat} (h : S[l]? = some (.lst xs)) : (Itn.rev (.dyn l) xs.length).next i S = some (if i < xs.length then xs[xs.length - 1 - i]? else none) := by
  show (if i < xs.length then (match lstAt S l with
    | some ys => (match ys[xs.length - 1 - i]? with
      | some d => some (some d)
      | none => none)
    | none => none) else some none) = _
  rw [lstAt_eq h]
  by_cases c : i < xs.length
  · rw [if_pos c, if_pos c]
    have : xs.length - 1 - i < xs.length := by omega
    simp [List.getElem?_eq_getElem this]
  · rw [if_neg c, if_neg c]
/-- over a range, the body by the int -/
theorem wp_rngLoop {lo : Int} {k : Nat} (I : Nat → En → Sto → Prop) (h0 : I 0 n S) (hk : k < FUEL) (hs : ∀ i n S, i < k → I i n S → Wp (g (.int (lo + (i : Nat))) n S) (fun n1 S1 => Wp (body n1 S1) (turnQ (I (i + 1)) Q) X) (fun c fs S1 => Q (.er c fs n) S1))
    (he : ∀ n S, I k n S → Q (.nx n) S) : Wp (loopF (.rng lo 1 k) g body FUEL 0 n S) Q X :=
  wp_loop k (fun i => .int (lo + (i : Nat))) I h0 hk (fun i n S hi _ => by rw [next_rng, if_pos hi, Int.mul_one]) (fun n S _ => by rw [next_rng, if_neg (Nat.lt_irrefl _)]) hs he
theorem wp_rngLc {lo : Int} {k : Nat} {t : E Bool} {elt : E D} (I : Nat → List D → Sto → Prop) (h0 : I 0 [] S) (hk : k < FUEL) (hs : ∀ i a S, i < k → I i a S → Wp (g (.int (lo + (i : Nat))) n S) (fun n1 S1 => Wp (t n1 S1) (fun b S2 => (b = true → Wp (elt n1 S2) (fun y S3 => a.length < LINE ∧ I (i + 1) (a ++ [y]) S3) X) ∧ (b = false → I (i + 1) a S2)) X) X)
    (he : ∀ a S, I k a S → QL a S) : Wp (lcF (.rng lo 1 k) g t elt n FUEL 0 [] S) QL X :=
  wp_lc k (fun i => .int (lo + (i : Nat))) I h0 hk (fun i n S hi _ => by rw [next_rng, if_pos hi, Int.mul_one]) (fun n S _ => by rw [next_rng, if_neg (Nat.lt_irrefl _)]) hs he
theorem fuel_of {k : Nat} (h : k < 100000000) : k < FUEL := by rw [FUEL_eq]; omega
theorem line_of {k : Nat} (h : k < 16777216) : k < LINE := by unfold LINE; omega
theorem line_le {k : Nat} (h : k < 16777216) : k ≤ LINE := by unfold LINE; omega
theorem take_snoc {A B : Type} {xs : List A} {f : A → B} {i : Nat} {a : A} (h : xs[i]? = some a) : (xs.take i).map f ++ [f a] = (xs.take (i + 1)).map f := by
  rw [List.take_add_one, h, List.map_append]; rfl
/-- over the items of a list that stays, of a tuple; backwards -/
theorem wp_lstLoop {l : Nat} {xs : List D} (I : Nat → En → Sto → Prop) (h0 : I 0 n S) (hk : xs.length < FUEL) (hst : ∀ i n S, I i n S → S[l]? = some (.lst xs))
    (hs : ∀ i x n S, xs[i]? = some x → I i n S → Wp (g x n S) (fun n1 S1 => Wp (body n1 S1) (turnQ (I (i + 1)) Q) X) (fun c fs S1 => Q (.er c fs n) S1)) (he : ∀ n S, I xs.length n S → Q (.nx n) S) : Wp (loopF (.one (.dyn l)) g body FUEL 0 n S) Q X :=
  wp_loop xs.length (fun i => xs[i]?.getD .non) I h0 hk (fun i n S hi hI => by rw [next_dyn (hst i n S hI), List.getElem?_eq_getElem hi]; rfl) (fun n S hI => by rw [next_dyn (hst _ n S hI), List.getElem?_eq_none (Nat.le_refl _)])
    (fun i n S hi hI => by rw [List.getElem?_eq_getElem hi]; exact hs i _ n S (List.getElem?_eq_getElem hi) hI) he
theorem wp_fixLoop {b : Bool} {xs : List D} (I : Nat → En → Sto → Prop) (h0 : I 0 n S) (hk : xs.length < FUEL)
    (hs : ∀ i x n S, xs[i]? = some x → I i n S → Wp (g x n S) (fun n1 S1 => Wp (body n1 S1) (turnQ (I (i + 1)) Q) X) (fun c fs S1 => Q (.er c fs n) S1)) (he : ∀ n S, I xs.length n S → Q (.nx n) S) : Wp (loopF (.one (.fix b xs)) g body FUEL 0 n S) Q X :=
  wp_loop xs.length (fun i => xs[i]?.getD .non) I h0 hk (fun i n S hi hI => by rw [next_fix, List.getElem?_eq_getElem hi]; rfl) (fun n S hI => by rw [next_fix, List.getElem?_eq_none (Nat.le_refl _)])
    (fun i n S hi hI => by rw [List.getElem?_eq_getElem hi]; exact hs i _ n S (List.getElem?_eq_getElem hi) hI) he
theorem rev_get {A : Type} {xs : List A} {i : Nat} (h : i < xs.length) : xs[xs.length - 1 - i]? = xs.reverse[i]? := by
  rw [List.getElem?_reverse h]
theorem wp_revLoop {l : Nat} {xs : List D} (I : Nat → En → Sto → Prop) (h0 : I 0 n S) (hk : xs.length < FUEL) (hst : ∀ i n S, I i n S → S[l]? = some (.lst xs))
    (hs : ∀ i x n S, xs.reverse[i]? = some x → I i n S → Wp (g x n S) (fun n1 S1 => Wp (body n1 S1) (turnQ (I (i + 1)) Q) X) (fun c fs S1 => Q (.er c fs n) S1)) (he : ∀ n S, I xs.length n S → Q (.nx n) S) : Wp (loopF (.rev (.dyn l) xs.length) g body FUEL 0 n S) Q X := by
  have hr : ∀ i, i < xs.length → xs.reverse[i]? = some (xs.reverse[i]?.getD .non) := fun i hi => by rw [List.getElem?_eq_getElem (by simpa using hi)]; rfl
  refine wp_loop xs.length (fun i => xs.reverse[i]?.getD .non) I h0 hk (fun i n S hi hI => ?_) (fun n S hI => ?_) (fun i n S hi hI => hs i _ n S (hr i hi) hI) he
  · rw [next_rev (hst i n S hI), if_pos hi, rev_get hi]
    exact congrArg some (hr i hi)
  · rw [next_rev (hst _ n S hI), if_neg (Nat.lt_irrefl _)]
variable {t : E Bool} {elt : E D}
theorem wp_lstLc {l : Nat} {xs : List D} (I : Nat → List D → Sto → Prop) (h0 : I 0 [] S) (hk : xs.length < FUEL) (hst : ∀ i a S, I i a S → S[l]? = some (.lst xs))
    (hs : ∀ i x a S, xs[i]? = some x → I i a S → Wp (g x n S) (fun n1 S1 => Wp (t n1 S1) (fun b S2 => (b = true → Wp (elt n1 S2) (fun y S3 => a.length < LINE ∧ I (i + 1) (a ++ [y]) S3) X) ∧ (b = false → I (i + 1) a S2)) X) X)
    (he : ∀ a S, I xs.length a S → QL a S) : Wp (lcF (.one (.dyn l)) g t elt n FUEL 0 [] S) QL X :=
  wp_lc xs.length (fun i => xs[i]?.getD .non) I h0 hk (fun i n S hi hI => by rw [next_dyn (hst i n S hI), List.getElem?_eq_getElem hi]; rfl) (fun n S hI => by rw [next_dyn (hst _ n S hI), List.getElem?_eq_none (Nat.le_refl _)])
    (fun i n S hi hI => by rw [List.getElem?_eq_getElem hi]; exact hs i _ n S (List.getElem?_eq_getElem hi) hI) he
theorem wp_fixLc {b : Bool} {xs : List D} (I : Nat → List D → Sto → Prop) (h0 : I 0 [] S) (hk : xs.length < FUEL)
    (hs : ∀ i x a S, xs[i]? = some x → I i a S → Wp (g x n S) (fun n1 S1 => Wp (t n1 S1) (fun b S2 => (b = true → Wp (elt n1 S2) (fun y S3 => a.length < LINE ∧ I (i + 1) (a ++ [y]) S3) X) ∧ (b = false → I (i + 1) a S2)) X) X)
    (he : ∀ a S, I xs.length a S → QL a S) : Wp (lcF (.one (.fix b xs)) g t elt n FUEL 0 [] S) QL X :=
  wp_lc xs.length (fun i => xs[i]?.getD .non) I h0 hk (fun i n S hi hI => by rw [next_fix, List.getElem?_eq_getElem hi]; rfl) (fun n S hI => by rw [next_fix, List.getElem?_eq_none (Nat.le_refl _)])
    (fun i n S hi hI => by rw [List.getElem?_eq_getElem hi]; exact hs i _ n S (List.getElem?_eq_getElem hi) hI) he
end
end Jm

set_option Elab.async false
set_option linter.all false
set_option maxRecDepth 100000
set_option maxHeartbeats 4000000
/-! Jm, part U: more of the plain part. -/
noncomputable section
namespace Jm
open PySem PySem.Spec PyProof.Rows L2
section
variable {S : Sto} {l : Nat} {xs : List D} {ns : List Int} {bs : List Bool} {QD : D → Sto → Prop} {X : PX}
theorem wp_cut {R Q : Out → Sto → Prop} {f g : E Out} {n : En} (h1 : Wp (f n S) R nX) (h2 : ∀ o S', R o S' → Wp (sThen o g S') Q X) : Wp (sSeq f g n S) Q X := by
  rw [wp_sSeq]
  exact h1.of h2
theorem rev_lst (h : S[l]? = some (.lst xs)) : revD (.loc l) S = mkLst xs.reverse S := by
  show (match lstAt S l with
    | some xs => mkLst xs.reverse S
    | none => none) = _
  rw [lstAt_eq h]
theorem allSome_map {A B : Type} (f : A → B) : ∀ xs : List A, allSome (xs.map fun x => some (f x)) = some (xs.map f)
  | [] => rfl
  | x :: xs => by simp [allSome, allSome_map f xs]
theorem asInts_map (ns : List Int) : asInts (ns.map D.int) = some ns := by
  unfold asInts
  rw [List.map_map]
  exact (allSome_map (fun i => i) ns).trans (by rw [List.map_id'])
theorem asBls_map (bs : List Bool) : asBls (bs.map D.bl) = some bs := by
  unfold asBls
  rw [List.map_map]
  exact (allSome_map (fun i => i) bs).trans (by rw [List.map_id'])
theorem sum_lst (h : S[l]? = some (.lst (ns.map D.int))) : sumD [.loc l] S = some (.int ns.sum, S) := by
  unfold sumD
  simp only [lstAt_eq h, asInts_map, Option.map_some]
theorem quan_lst {f : List Bool → Bool} (h : S[l]? = some (.lst (bs.map D.bl))) : quanD f [.loc l] S = some (.bl (f bs), S) := by
  unfold quanD
  simp only [lstAt_eq h, asBls_map, Option.map_some]
@[simp] theorem agg_ii {f : List Int → Int} {a b : Int} : aggD f [.int a, .int b] S = some (.int (f [a, b]), S) := rfl
@[simp] theorem range_snoc {A : Type} (f : Nat → A) (i : Nat) : (List.range (i + 1)).map f = (List.range i).map f ++ [f i] := by
  rw [List.range_succ, List.map_append]; rfl
@[simp] theorem slc_scr {lo hi : Option Int} : slcD (.scr xs) lo hi S = mkLst (cutD xs lo hi) S := rfl
@[simp] theorem slc_tup {lo hi : Option Int} : slcD (.tup xs) lo hi S = mkTup (cutD xs lo hi) S := rfl
theorem slc_lst {lo hi : Option Int} (h : S[l]? = some (.lst xs)) : slcD (.loc l) lo hi S = mkLst (cutD xs lo hi) S := by
  show (match lstAt S l with
    | some xs => mkLst (cutD xs lo hi) S
    | none => none) = _
  rw [lstAt_eq h]
theorem cutD_map {A : Type} (f : A → D) (ys : List A) (lo hi : Option Int) : ∃ zs : List A, cutD (ys.map f) lo hi = zs.map f ∧ zs.length ≤ ys.length := by
  unfold cutD
  refine ⟨(ys.drop (HT.sIx (ys.map f).length 0 lo)).take (HT.sIx (ys.map f).length (ys.map f).length hi - HT.sIx (ys.map f).length 0 lo), ?_, ?_⟩
  · rw [List.map_take, List.map_drop]
  · rw [List.length_take, List.length_drop]; omega
end
end Jm

set_option Elab.async false
set_option linter.all false
set_option maxRecDepth 100000
set_option maxHeartbeats 4000000
/-! Jm, part Ta: while, try, raise, frames, things of any kind in the plain part. -/
noncomputable section
namespace Jm
open PySem PySem.Spec PyProof.Rows L2
section
variable {A B : Type} {Q : Out → Sto → Prop} {QD : D → Sto → Prop} {X : PX} {S S' : Sto} {n : En}
theorem wp_whileI {t : E Bool} {body : E Out} (I : Nat → En → Sto → Prop) (j : Nat) (hj : j < FUEL) (h0 : I j n S)
    (hs : ∀ j n S (T : Out → Sto → Prop), (∀ o S', T o S' = turnQ (fun n' S' => ∃ j', j' < j ∧ I j' n' S') Q o S') → I j n S → Wp (t n S) (fun b S1 => (b = true → Wp (body n S1) T X) ∧ (b = false → Q (.nx n) S1)) (fun c fs S1 => Q (.er c fs n) S1)) : Wp (sWhile t body n S) Q X := by
  have core : ∀ m j n S, j < m → I j n S → Wp (whileF t body m n S) Q X := by
    intro m
    induction m with
    | zero => intro j n S h; omega
    | succ m ih =>
      intro j n S hm hI
      unfold whileF
      rw [wp_sBnd]
      refine (hs j n S _ (fun _ _ => rfl) hI).imp (fun b S1 hb => ?_) fun _ _ _ z => z
      cases b with
      | false => exact hb.2 rfl
      | true =>
        have hb := hb.1 rfl
        rw [if_pos rfl, wp_rbind]
        refine hb.q fun o S2 ho => ?_
        cases o with
        | nx n2 => obtain ⟨j', h1, h2⟩ := ho; exact ih j' n2 S2 (by omega) h2
        | ct n2 => obtain ⟨j', h1, h2⟩ := ho; exact ih j' n2 S2 (by omega) h2
        | bk n2 => exact ho
        | rt d => exact ho
        | er c fs n2 => exact ho
  exact core FUEL j n S hj h0
/-- one statement at a time, what follows unseen -/
theorem wp_sq {f g : E Out} (h : ∀ K : Out → Sto → Prop, (∀ o S', K o S' = Wp (sThen o g S') Q X) → Wp (f n S) K X) : Wp (sSeq f g n S) Q X := by
  rw [wp_sSeq]
  exact h _ fun _ _ => rfl
theorem wp_let {r : Res A} {Q : A → Sto → Prop} (h : ∀ K : A → Sto → Prop, (∀ o S', K o S' = Q o S') → Wp r K X) : Wp r Q X := h _ fun _ _ => rfl
section
variable {it : Itn} {g : G} {body : E Out}
theorem wp_rngL {lo : Int} {k : Nat} (I : Nat → En → Sto → Prop) (h0 : I 0 n S) (hk : k < FUEL)
    (hs : ∀ i n S (T : Out → Sto → Prop), (∀ o S', T o S' = turnQ (I (i + 1)) Q o S') → i < k → I i n S → Wp (g (.int (lo + (i : Nat))) n S) (fun n1 S1 => Wp (body n1 S1) T X) (fun c fs S1 => Q (.er c fs n) S1))
    (he : ∀ n S, I k n S → Q (.nx n) S) : Wp (loopF (.rng lo 1 k) g body FUEL 0 n S) Q X := wp_rngLoop I h0 hk (fun i n S hi hI => hs i n S _ (fun _ _ => rfl) hi hI) he
theorem wp_lstL {l : Nat} {xs : List D} (I : Nat → En → Sto → Prop) (h0 : I 0 n S) (hk : xs.length < FUEL) (hst : ∀ i n S, I i n S → S[l]? = some (.lst xs))
    (hs : ∀ i x n S (T : Out → Sto → Prop), (∀ o S', T o S' = turnQ (I (i + 1)) Q o S') → xs[i]? = some x → I i n S → Wp (g x n S) (fun n1 S1 => Wp (body n1 S1) T X) (fun c fs S1 => Q (.er c fs n) S1)) (he : ∀ n S, I xs.length n S → Q (.nx n) S) :
    Wp (loopF (.one (.dyn l)) g body FUEL 0 n S) Q X := wp_lstLoop I h0 hk hst (fun i x n S hi hI => hs i x n S _ (fun _ _ => rfl) hi hI) he
theorem wp_fixL {b : Bool} {xs : List D} (I : Nat → En → Sto → Prop) (h0 : I 0 n S) (hk : xs.length < FUEL)
    (hs : ∀ i x n S (T : Out → Sto → Prop), (∀ o S', T o S' = turnQ (I (i + 1)) Q o S') → xs[i]? = some x → I i n S → Wp (g x n S) (fun n1 S1 => Wp (body n1 S1) T X) (fun c fs S1 => Q (.er c fs n) S1)) (he : ∀ n S, I xs.length n S → Q (.nx n) S) :
    Wp (loopF (.one (.fix b xs)) g body FUEL 0 n S) Q X := wp_fixLoop I h0 hk (fun i x n S hi hI => hs i x n S _ (fun _ _ => rfl) hi hI) he
end
section
variable {it : Itn} {g : G} {t : E Bool} {elt : E D} {QL : List D → Sto → Prop}
theorem wp_rngC {lo : Int} {k : Nat} (I : Nat → List D → Sto → Prop) (h0 : I 0 [] S) (hk : k < FUEL)
    (hs : ∀ i a S (K : D → Sto → Prop), (∀ y S3, K y S3 = (a.length < LINE ∧ I (i + 1) (a ++ [y]) S3)) → i < k → I i a S → Wp (g (.int (lo + (i : Nat))) n S) (fun n1 S1 => Wp (t n1 S1) (fun b S2 => (b = true → Wp (elt n1 S2) K X) ∧ (b = false → I (i + 1) a S2)) X) X)
    (he : ∀ a S, I k a S → QL a S) : Wp (lcF (.rng lo 1 k) g t elt n FUEL 0 [] S) QL X := wp_rngLc I h0 hk (fun i a S hi hI => hs i a S _ (fun _ _ => rfl) hi hI) he
theorem wp_lstC {l : Nat} {xs : List D} (I : Nat → List D → Sto → Prop) (h0 : I 0 [] S) (hk : xs.length < FUEL) (hst : ∀ i a S, I i a S → S[l]? = some (.lst xs))
    (hs : ∀ i x a S (K : D → Sto → Prop), (∀ y S3, K y S3 = (a.length < LINE ∧ I (i + 1) (a ++ [y]) S3)) → xs[i]? = some x → I i a S → Wp (g x n S) (fun n1 S1 => Wp (t n1 S1) (fun b S2 => (b = true → Wp (elt n1 S2) K X) ∧ (b = false → I (i + 1) a S2)) X) X)
    (he : ∀ a S, I xs.length a S → QL a S) : Wp (lcF (.one (.dyn l)) g t elt n FUEL 0 [] S) QL X := wp_lstLc I h0 hk hst (fun i x a S hi hI => hs i x a S _ (fun _ _ => rfl) hi hI) he
theorem wp_fixC {b : Bool} {xs : List D} (I : Nat → List D → Sto → Prop) (h0 : I 0 [] S) (hk : xs.length < FUEL)
    (hs : ∀ i x a S (K : D → Sto → Prop), (∀ y S3, K y S3 = (a.length < LINE ∧ I (i + 1) (a ++ [y]) S3)) → xs[i]? = some x → I i a S → Wp (g x n S) (fun n1 S1 => Wp (t n1 S1) (fun b S2 => (b = true → Wp (elt n1 S2) K X) ∧ (b = false → I (i + 1) a S2)) X) X)
    (he : ∀ a S, I xs.length a S → QL a S) : Wp (lcF (.one (.fix b xs)) g t elt n FUEL 0 [] S) QL X := wp_fixLc I h0 hk (fun i x a S hi hI => hs i x a S _ (fun _ _ => rfl) hi hI) he
end
/-- a comprehension over a tuple, its items by a function of pure data -/
theorem wp_fixMap {b : Bool} {xs ys : List D} {g : G} {elt : E D} {QL : List D → Sto → Prop} (hl : xs.length = ys.length) (hk : xs.length < 1000000)
    (hs : ∀ (i : Nat) (x y : D), xs[i]? = some x → ys[i]? = some y → ∀ K : D → Sto → Prop, K y S → Wp (g x n S) (fun n1 S1 => Wp (elt n1 S1) K X) X) (he : QL ys S) : Wp (lcF (.one (.fix b xs)) g tTru elt n FUEL 0 [] S) QL X := by
  refine wp_fixLc (fun i a S' => S' = S ∧ a = ys.take i) ⟨rfl, rfl⟩ (fuel_of (by omega)) ?_ ?_
  · rintro i x a S' hx ⟨rfl, rfl⟩
    have hi := (List.getElem?_eq_some_iff.mp hx).1
    have hy : ys[i]? = some (ys[i]'(by omega)) := List.getElem?_eq_getElem (by omega)
    have q := hs i x _ hx hy (fun y S3 => (ys.take i).length < LINE ∧ S3 = S' ∧ (ys.take i) ++ [y] = ys.take (i + 1)) ⟨by rw [List.length_take]; unfold LINE; omega, rfl, by rw [List.take_add_one, hy]; rfl⟩
    exact q.q fun n1 S1 h => by
      simp only [wp_tTru]
      exact ⟨fun _ => h, fun z => nomatch z⟩
  · rintro a S' ⟨rfl, rfl⟩
    rw [hl, List.take_length]
    exact he
@[simp] theorem wp_sTry {fb : E Out} {l : List HC} : Wp (sTry fb l n S) Q X = Wp (fb n S) (fun o S' => match o with
  | .er c fs n' => Wp (runCl l c fs n' S') Q X
  | o => Q o S') X := by
  unfold sTry
  rw [wp_rbind]
  congr 1
  funext o S'
  cases o <;> rfl
@[simp] theorem wp_sRaise {i : Nat} {fs : List (E D)} : Wp (sRaise i fs n S) Q X = Wp (eAll fs n S) (fun ds S1 => ds.length = 1 ∧ Q (.er i ds n) S1) (fun c fs S1 => Q (.er c fs n) S1) := by
  unfold sRaise
  rw [wp_sBnd]
  congr 1
  funext ds S1
  by_cases h : ds.length = 1
  · rw [if_pos h, wp_ok]; simp [h]
  · rw [if_neg h, wp_bad]; simp [h]
@[simp] theorem wp_eFld {f : Str} {fe : E D} : Wp (eFld f fe n S) QD X = Wp (fe n S) (fun d S1 => match d with
  | .exc c [x] => fldName c = f ∧ QD x S1
  | _ => False) X := by
  unfold eFld
  rw [wp_bnd]
  congr 1
  funext d S1
  cases d with
  | exc c fs =>
    cases fs with
    | nil => rfl
    | cons x xs =>
      cases xs with
      | nil =>
        show Wp (if fldName c = f then .ok x S1 else .bad) QD X = _
        by_cases h : fldName c = f
        · rw [if_pos h]; simp [h]
        · rw [if_neg h]; simp [h]
      | cons _ _ => rfl
  | _ => rfl
@[simp] theorem int_b {b : Bool} : intD [.bl b] S = some (.int (if b = true then 1 else 0), S) := by cases b <;> rfl
@[simp] theorem line_lit {k : Nat} : (k ≤ LINE) = (k ≤ 16777216) := rfl
@[simp] theorem line_lit' {k : Nat} : (k < LINE) = (k < 16777216) := rfl
theorem wp_lstRg {a : Int} (h : a.natAbs ≤ 1000000) : Wp (lft (lstRg (.int a) S)) QD X = QD (.loc S.length) (S ++ [.lst (rgD a.toNat)]) := by
  show Wp (lft (if decide (a.natAbs ≤ LINE) = true then mkLst (rgD a.toNat) S else none)) _ _ = _
  rw [if_pos (by rw [decide_eq_true_eq]; unfold LINE; omega), wp_mkLst]
  have : (rgD a.toNat).length ≤ LINE := by unfold rgD LINE; rw [List.length_map, List.length_range]; omega
  simp [this]
variable {l : Nat} {xs ys : List D} {ns : List Int}
theorem sorted_lst (h : S[l]? = some (.lst (ns.map D.int))) : sortedD [.loc l] S = mkLst ((sortI ns).map .int) S := by
  unfold sortedD
  simp only [lstAt_eq h, asInts_map]
theorem pop_lst {x : D} (h : S[l]? = some (.lst (xs ++ [x]))) : popXD (.loc l) [] S = some (x, S.set l (.lst xs)) := by
  show (match lstAt S l with
    | some xs => (xs[xs.length - 1]?).map fun y => (y, S.set l (.lst xs.dropLast))
    | none => none) = _
  rw [lstAt_eq h]
  simp
theorem popI_lst {x : D} {i : Nat} (h : S[l]? = some (.lst xs)) (hx : xs[i]? = some x) (hi : i ≤ 1000000) : popXD (.loc l) [.int i] S = some (x, S.set l (.lst (xs.eraseIdx i))) := by
  have hl : i < xs.length := (List.getElem?_eq_some_iff.mp hx).1
  show popA l i S = _
  unfold popA
  rw [lstAt_eq h]
  dsimp only
  rw [if_pos (by rw [decide_eq_true_eq]; unfold LINE; omega)]
  have e : ixN xs.length (i : Int) = some i := by
    unfold ixN
    rw [if_pos (by omega), if_pos (by omega)]; simp
  rw [e]
  simp [hx]
theorem extend_lst {k : Nat} (h : S[l]? = some (.lst xs)) (h2 : S[k]? = some (.lst ys)) : Wp (lft (extendD (.loc l) [.loc k] S)) QD X = (xs.length + ys.length ≤ LINE ∧ QD .non (S.set l (.lst (xs ++ ys)))) := by
  show Wp (lft (match lstAt S l, lstAt S k with
    | some xs, some ys => if xs.length + ys.length ≤ LINE then some (D.non, S.set l (.lst (xs ++ ys))) else none
    | _, _ => none)) _ _ = _
  rw [lstAt_eq h, lstAt_eq h2]
  show Wp (lft (if xs.length + ys.length ≤ LINE then some (D.non, S.set l (.lst (xs ++ ys))) else none)) _ _ = _
  by_cases c : xs.length + ys.length ≤ LINE <;> simp [c]
@[simp] theorem rev_tup : revD (.tup xs) S = mkTup xs.reverse S := rfl
@[simp] theorem tuple_t : tupleD [.tup xs] S = some (.tup xs, S) := rfl
theorem tuple_lst (h : S[l]? = some (.lst xs)) : tupleD [.loc l] S = mkTup xs S := by
  show (match lstAt S l with
    | some xs => mkTup xs S
    | none => none) = _
  rw [lstAt_eq h]
theorem list_lst (h : S[l]? = some (.lst xs)) : listD [.loc l] S = mkLst xs S := by
  show (match lstAt S l with
    | some xs => mkLst xs S
    | none => none) = _
  rw [lstAt_eq h]
end
/-! ### data -/
@[simp] theorem eqvAll_nil {xs : List PyData} : PyData.eqvAll xs [] = xs.isEmpty := by cases xs <;> rfl
theorem allSome_all {A B : Type} {f : A → Option B} : ∀ {xs : List A}, (∀ x ∈ xs, ∃ y, f x = some y) → ∃ ys, allSome (xs.map f) = some ys ∧ ys.length = xs.length
  | [], _ => ⟨[], rfl, rfl⟩
  | x :: xs, h => by
    obtain ⟨y, e⟩ := h x List.mem_cons_self
    obtain ⟨ys, e2, e3⟩ := allSome_all (xs := xs) fun z hz => h z (List.mem_cons_of_mem _ hz)
    exact ⟨y :: ys, by simp [allSome, e, e2], by simp [e3]⟩
/-- it is a thing of data, the store's lists but p's -/
def gd (S : Sto) (p : Nat) : Nat → D → Prop
  | 0, _ => False
  | n + 1, d => match d with
    | .non => True
    | .bl _ => True
    | .int _ => True
    | .str x => PyData.strOk x = true
    | .tup xs => xs.length ≤ 200 ∧ ∀ x ∈ xs, gd S p n x
    | .loc l => l ≠ p ∧ ∃ xs, S[l]? = some (.lst xs) ∧ xs.length ≤ 200 ∧ ∀ x ∈ xs, gd S p n x
    | _ => False
/-- all lists but p stand as they stood -/
def Mod (p : Nat) (S S' : Sto) : Prop := S.length ≤ S'.length ∧ ∀ k o, k ≠ p → S[k]? = some o → S'[k]? = some o
section
variable {S S' S'' : Sto} {p l : Nat}
theorem Mod.rfl' : Mod p S S := ⟨Nat.le_refl _, fun _ _ _ h => h⟩
theorem Mod.trans (a : Mod p S S') (b : Mod p S' S'') : Mod p S S'' := ⟨Nat.le_trans a.1 b.1, fun k o n h => b.2 k o n (a.2 k o n h)⟩
theorem Mod.of (h : Ext S S') : Mod p S S' := ⟨h.length_le, fun k o _ e => h.get e⟩
theorem Mod.ext (a : Mod p S S') (b : Ext S' S'') : Mod p S S'' := a.trans (.of b)
theorem Mod.app {G : Sto} (a : Mod p S S') : Mod p S (S' ++ G) := a.trans (.of (List.prefix_append ..))
theorem Mod.setp {o : O} (a : Mod p S S') : Mod p S (S'.set p o) := ⟨by rw [List.length_set]; exact a.1, fun k o n h => by
  rw [List.getElem?_set_ne (Ne.symm n)]; exact a.2 k o n h⟩
theorem Mod.setn {o : O} (a : Mod p S S') (h : S.length ≤ l) : Mod p S (S'.set l o) := ⟨by rw [List.length_set]; exact a.1, fun k o n e => by
  have := (List.getElem?_eq_some_iff.mp e).1
  rw [List.getElem?_set_ne (by omega)]; exact a.2 k o n e⟩
theorem gd_mono : ∀ {n m : Nat} {d : D}, gd S p n d → n ≤ m → gd S p m d
  | 0, _, _, h, _ => h.elim
  | n + 1, 0, _, _, h => absurd h (by omega)
  | n + 1, m + 1, d, h, hm => by
    cases d with
    | tup xs => exact ⟨h.1, fun x hx => gd_mono (h.2 x hx) (by omega)⟩
    | loc l => obtain ⟨h1, xs, h2, h3, h4⟩ := h; exact ⟨h1, xs, h2, h3, fun x hx => gd_mono (h4 x hx) (by omega)⟩
    | _ => exact h
theorem gd_mod (a : Mod p S S') : ∀ {n : Nat} {d : D}, gd S p n d → gd S' p n d
  | 0, _, h => h.elim
  | n + 1, d, h => by
    cases d with
    | tup xs => exact ⟨h.1, fun x hx => gd_mod a (h.2 x hx)⟩
    | loc l => obtain ⟨h1, xs, h2, h3, h4⟩ := h; exact ⟨h1, xs, a.2 l _ h1 h2, h3, fun x hx => gd_mod a (h4 x hx)⟩
    | _ => exact h
theorem gd_py : ∀ {n k : Nat} {d : D}, gd S p n d → n ≤ k → ∃ y, pyV S k d = some y
  | 0, _, _, h, _ => h.elim
  | n + 1, 0, _, _, h => absurd h (by omega)
  | n + 1, k + 1, d, h, hk => by
    cases d with
    | non => exact ⟨_, rfl⟩
    | bl b => exact ⟨_, rfl⟩
    | int b => exact ⟨_, rfl⟩
    | str x =>
      have h : PyData.strOk x = true := h
      exact ⟨.str x, by simp [pyV, h]⟩
    | tup xs =>
      obtain ⟨ys, e, _⟩ := allSome_all fun x hx => gd_py (h.2 x hx) (k := k) (by omega)
      exact ⟨.tuple ys, by simp [pyV, e]⟩
    | loc l =>
      obtain ⟨h1, xs, h2, h3, h4⟩ := h
      obtain ⟨ys, e, _⟩ := allSome_all fun x hx => gd_py (h4 x hx) (k := k) (by omega)
      exact ⟨.list ys, by simp [pyV, lstAt_eq h2, e]⟩
    | _ => exact h.elim
theorem gd_clean : ∀ {n : Nat} {d : D}, gd S p n d → Clean d
  | 0, _, h => h.elim
  | n + 1, d, h => by
    cases d with
    | non => exact .non
    | bl b => exact .bl b
    | int b => exact .int b
    | str x => exact .str x
    | tup xs => exact .tup fun x hx => gd_clean (h.2 x hx)
    | loc l => exact .loc l
    | _ => exact h.elim
/-- xs != [] -/
theorem ne_nil {k : Nat} {xs : List D} (h : S[l]? = some (.lst xs)) (h2 : S[k]? = some (.lst [])) (hp : ∀ x ∈ xs, ∃ y, pyV S 63 x = some y) : neD (.loc l) (.loc k) S = some (.bl (!xs.isEmpty), S) := by
  obtain ⟨ys, e1, e2⟩ := allSome_all hp
  have e3 : pyV S 64 (.loc l) = some (.list ys) := by
    show (match lstAt S l with
      | some xs => (allSome (xs.map (pyV S 63))).map PyData.list
      | none => none) = _
    rw [lstAt_eq h]
    simp [e1]
  have e4 : pyV S 64 (.loc k) = some (.list []) := by
    show (match lstAt S k with
      | some xs => (allSome (xs.map (pyV S 63))).map PyData.list
      | none => none) = _
    rw [lstAt_eq h2]
    rfl
  unfold neD
  rw [e3, e4]
  have e5 : ys.isEmpty = xs.isEmpty := by cases ys <;> cases xs <;> first | rfl | simp at e2
  show some (D.bl (!PyData.eqvAll ys []), S) = _
  rw [eqvAll_nil, e5]
theorem pyV_ints' (k : Nat) (ns : List Int) : allSome ((ns.map D.int).map (pyV S (k + 1))) = some (ns.map PyData.int) := by
  rw [List.map_map]
  have : (pyV S (k + 1)) ∘ D.int = fun n => some (PyData.int n) := funext fun _ => rfl
  rw [this]
  exact allSome_map PyData.int ns
theorem eqvAll_ints : ∀ {as bs : List Int}, PyData.eqvAll (as.map PyData.int) (bs.map PyData.int) = decide (as = bs)
  | [], [] => rfl
  | [], _ :: _ => rfl
  | _ :: _, [] => rfl
  | a :: as, b :: bs => by
    show ((a == b) && PyData.eqvAll (as.map PyData.int) (bs.map PyData.int)) = _
    rw [eqvAll_ints]
    by_cases h : a = b
    · by_cases h2 : as = bs <;> simp [h, h2]
    · simp [h]
theorem py_intL {k l : Nat} {ns : List Int} (h : S[l]? = some (.lst (ns.map D.int))) : pyV S (k + 2) (.loc l) = some (.list (ns.map PyData.int)) := by
  show (match lstAt S l with
    | some xs => (allSome (xs.map (pyV S (k + 1)))).map PyData.list
    | none => none) = _
  rw [lstAt_eq h]
  show (allSome ((ns.map D.int).map (pyV S (k + 1)))).map PyData.list = _
  rw [pyV_ints']; rfl
theorem eq_ints {k l : Nat} {as bs : List Int} (h : S[l]? = some (.lst (as.map D.int))) (h2 : S[k]? = some (.lst (bs.map D.int))) : eqD (.loc l) (.loc k) S = some (.bl (decide (as = bs)), S) := by
  unfold eqD
  rw [py_intL h, py_intL h2]
  show some (D.bl (PyData.eqvAll _ _), S) = _
  rw [eqvAll_ints]
theorem ne_ints {k l : Nat} {as bs : List Int} (h : S[l]? = some (.lst (as.map D.int))) (h2 : S[k]? = some (.lst (bs.map D.int))) : neD (.loc l) (.loc k) S = some (.bl (!decide (as = bs)), S) := by
  unfold neD
  rw [py_intL h, py_intL h2]
  show some (D.bl (!PyData.eqvAll _ _), S) = _
  rw [eqvAll_ints]
theorem any_ints {a : Int} : ∀ ns : List Int, ((ns.map PyData.int).any fun z => PyData.eqv z (.int a)) = decide (a ∈ ns)
  | [] => rfl
  | b :: bs => by
    have : PyData.eqv (.int b) (.int a) = decide (b = a) := rfl
    rw [List.map_cons, List.any_cons, this, any_ints bs]
    by_cases hb : b = a
    · simp [hb]
    · have hb' : ¬ a = b := fun z => hb z.symm
      simp [hb, hb']
theorem in_ints {l : Nat} {a : Int} {ns : List Int} (h : S[l]? = some (.lst (ns.map D.int))) : inD (.int a) (.loc l) S = some (.bl (decide (a ∈ ns)), S) := by
  have e : memD (.int a) (.loc l) S = some (decide (a ∈ ns)) := by
    show (match pyV S 64 (.int a), pyV S 64 (.loc l) with
      | some a, some (.tuple bs) => some (bs.any fun z => PyData.eqv z a)
      | some a, some (.list bs) => some (bs.any fun z => PyData.eqv z a)
      | _, _ => memK (.loc l) (keyD (.int a)) S) = _
    rw [py_intL h]
    show some ((ns.map PyData.int).any fun z => PyData.eqv z (.int a)) = _
    rw [any_ints]
  unfold inD
  rw [e]
end
end Jm

set_option Elab.async false
set_option linter.all false
set_option maxRecDepth 100000
set_option maxHeartbeats 4000000
noncomputable section
namespace K48
open PySem PySem.Spec PyProof.Rows L2 Jm
def top (i : Nat) : Stmt := PySem.Challenge.pw_jointmaps_k48_whole_trees_of_anything.main.body.getD i (.Pass ⟨0, 0, 0, 0⟩)
def r_is_whole : DRow := ⟨763, "is_whole", top 4, ["value"], ["value"], []⟩
theorem b_is_whole : DRowB r_is_whole := ⟨by decide +kernel, fun _ _ _ _ _ _ us hl => match us, hl with | [_], _ => rfl, fun q hq => nomatch hq⟩
def r_is_between : DRow := ⟨700, "is_between", top 5, ["value", "low", "high"], ["value", "low", "high"], []⟩
theorem b_is_between : DRowB r_is_between := ⟨by decide +kernel, fun _ _ _ _ _ _ us hl => match us, hl with | [_, _, _], _ => rfl, fun q hq => nomatch hq⟩
def r_is_up_to : DRow := ⟨761, "is_up_to", top 6, ["value", "most"], ["value", "most"], []⟩
theorem b_is_up_to : DRowB r_is_up_to := ⟨by decide +kernel, fun _ _ _ _ _ _ us hl => match us, hl with | [_, _], _ => rfl, fun q hq => nomatch hq⟩
def r_is_tuple_up_to : DRow := ⟨758, "is_tuple_up_to", top 7, ["value", "low", "high"], ["value", "low", "high"], []⟩
theorem b_is_tuple_up_to : DRowB r_is_tuple_up_to := ⟨by decide +kernel, fun _ _ _ _ _ _ us hl => match us, hl with | [_, _, _], _ => rfl, fun q hq => nomatch hq⟩
def r_is_tree_by : DRow := ⟨756, "is_tree_by", top 13, ["value"], ["value", "indexes", "waiting", "part", "around", "each"], []⟩
theorem b_is_tree_by : DRowB r_is_tree_by := ⟨by decide +kernel, fun _ _ _ _ _ _ us hl => match us, hl with | [_], _ => rfl, fun q hq => nomatch hq⟩
def r_nodes_of : DRow := ⟨862, "nodes_of", top 14, ["tree"], ["tree", "found", "waiting", "above", "part", "each"], []⟩
theorem b_nodes_of : DRowB r_nodes_of := ⟨by decide +kernel, fun _ _ _ _ _ _ us hl => match us, hl with | [_], _ => rfl, fun q hq => nomatch hq⟩
def r_is_fork : DRow := ⟨713, "is_fork", top 15, ["node"], ["node"], []⟩
theorem b_is_fork : DRowB r_is_fork := ⟨by decide +kernel, fun _ _ _ _ _ _ us hl => match us, hl with | [_], _ => rfl, fun q hq => nomatch hq⟩
def r_fork_count_of : DRow := ⟨678, "fork_count_of", top 16, ["tree"], ["tree", "node"], []⟩
theorem b_fork_count_of : DRowB r_fork_count_of := ⟨by decide +kernel, fun _ _ _ _ _ _ us hl => match us, hl with | [_], _ => rfl, fun q hq => nomatch hq⟩
def r_check_tree : DRow := ⟨603, "check_tree", top 18, ["tree"], ["tree"], []⟩
theorem b_check_tree : DRowB r_check_tree := ⟨by decide +kernel, fun _ _ _ _ _ _ us hl => match us, hl with | [_], _ => rfl, fun q hq => nomatch hq⟩
def r_is_tree : DRow := ⟨755, "is_tree", top 20, ["value"], ["value"], [(0, ["value"], [0])]⟩
theorem b_is_tree : DRowB r_is_tree := ⟨by decide +kernel, fun _ _ _ _ _ _ us hl => match us, hl with | [_], _ => rfl, mem_cons_all (fun _ _ _ _ _ _ us ws h1 h2 => match us, ws, h1, h2 with | [], [_], _, _ => rfl) (fun q hq => nomatch hq)⟩
def r_fork_count : DRow := ⟨677, "fork_count", top 21, ["tree"], ["tree"], [(0, ["tree"], [0])]⟩
theorem b_fork_count : DRowB r_fork_count := ⟨by decide +kernel, fun _ _ _ _ _ _ us hl => match us, hl with | [_], _ => rfl, mem_cons_all (fun _ _ _ _ _ _ us ws h1 h2 => match us, ws, h1, h2 with | [], [_], _, _ => rfl) (fun q hq => nomatch hq)⟩
def r__law_pool : DRow := ⟨356, "_law_pool", top 23, ["script", "k"], ["script", "k", "cell", "size", "stir"], []⟩
theorem b__law_pool : DRowB r__law_pool := ⟨by decide +kernel, fun _ _ _ _ _ _ us hl => match us, hl with | [_, _], _ => rfl, fun q hq => nomatch hq⟩
def r__law_take : DRow := ⟨431, "_law_take", top 24, ["pool", "many"], ["pool", "many", "told", "reach"], []⟩
theorem b__law_take : DRowB r__law_take := ⟨by decide +kernel, fun _ _ _ _ _ _ us hl => match us, hl with | [_, _], _ => rfl, fun q hq => nomatch hq⟩
def r__law_alike : DRow := ⟨35, "_law_alike", top 25, ["one", "two"], ["one", "two", "k"], []⟩
theorem b__law_alike : DRowB r__law_alike := ⟨by decide +kernel, fun _ _ _ _ _ _ us hl => match us, hl with | [_, _], _ => rfl, fun q hq => nomatch hq⟩
def r__law_whole : DRow := ⟨467, "_law_whole", top 26, ["value"], ["value"], []⟩
theorem b__law_whole : DRowB r__law_whole := ⟨by decide +kernel, fun _ _ _ _ _ _ us hl => match us, hl with | [_], _ => rfl, fun q hq => nomatch hq⟩
def r__law_says : DRow := ⟨396, "_law_says", top 27, ["told", "due"], ["told", "due"], []⟩
theorem b__law_says : DRowB r__law_says := ⟨by decide +kernel, fun _ _ _ _ _ _ us hl => match us, hl with | [_, _], _ => rfl, fun q hq => nomatch hq⟩
def r__law_tree : DRow := ⟨447, "_law_tree", top 28, ["pool", "many"], ["pool", "many", "items", "at", "tree", "item", "more", "left", "size", "group", "k"], []⟩
theorem b__law_tree : DRowB r__law_tree := ⟨by decide +kernel, fun _ _ _ _ _ _ us hl => match us, hl with | [_, _], _ => rfl, fun q hq => nomatch hq⟩
def r__law_forks : DRow := ⟨179, "_law_forks", top 29, ["value"], ["value", "seen", "forks", "left", "part", "deep", "each"], []⟩
theorem b__law_forks : DRowB r__law_forks := ⟨by decide +kernel, fun _ _ _ _ _ _ us hl => match us, hl with | [_], _ => rfl, fun q hq => nomatch hq⟩
def r__law_changed : DRow := ⟨120, "_law_changed", top 30, ["pool", "tree", "value"], ["pool", "tree", "value", "way", "part", "found", "at", "whole"], []⟩
theorem b__law_changed : DRowB r__law_changed := ⟨by decide +kernel, fun _ _ _ _ _ _ us hl => match us, hl with | [_, _, _], _ => rfl, fun q hq => nomatch hq⟩
def r__law_deep : DRow := ⟨145, "_law_deep", top 31, ["many"], ["many", "tree", "k"], []⟩
theorem b__law_deep : DRowB r__law_deep := ⟨by decide +kernel, fun _ _ _ _ _ _ us hl => match us, hl with | [_], _ => rfl, fun q hq => nomatch hq⟩
def r__law_said : DRow := ⟨393, "_law_said", top 32, ["tree", "named"], ["tree", "named", "e"], []⟩
theorem b__law_said : DRowB r__law_said := ⟨by decide +kernel, fun _ _ _ _ _ _ us hl => match us, hl with | [_, _], _ => rfl, fun q hq => nomatch hq⟩
def r_law : DRow := ⟨788, "law", top 33, ["script"], ["script", "turn", "pool", "many", "tree", "rows", "value", "due", "told"], []⟩
theorem b_law : DRowB r_law := ⟨by decide +kernel, fun _ _ _ _ _ _ us hl => match us, hl with | [_], _ => rfl, fun q hq => nomatch hq⟩
def k_JointError : CRow := ⟨100088, "JointError", none⟩
theorem kb_JointError : CRowB k_JointError := (by decide : 100088 % 4 = 0)
def q_InvalidTree : Stmt := (match top 2 with | .ClassDef _ _ _ b _ _ _ _ _ _ _ => b | _ => []).getD 0 (.Pass ⟨0, 0, 0, 0⟩)
def k_InvalidTree : CRow := ⟨100077, "InvalidTree", some (q_InvalidTree, "given")⟩
theorem kb_InvalidTree : CRowB k_InvalidTree := ⟨by decide, by decide +kernel, by decide +kernel, by decide +kernel, fun _ _ _ _ _ _ us hl => match us, hl with | [_, _], _ => rfl⟩
def T : List DRow := [r_is_whole, r_is_between, r_is_up_to, r_is_tuple_up_to, r_is_tree_by, r_nodes_of, r_is_fork, r_fork_count_of, r_check_tree, r_is_tree, r_fork_count, r__law_pool, r__law_take, r__law_alike, r__law_whole, r__law_says, r__law_tree, r__law_forks, r__law_changed, r__law_deep, r__law_said, r_law]
def cs : List (Str × Cn) := [("MOST_LEAVES", .int (12)), ("LEAST_PARTS", .int (2)), ("MOST_PARTS", .int (4)), ("MOST_WITHIN", .int (6))]
def fs : List Str := ["isinstance", "int", "bool", "tuple", "len", "sorted", "list", "range", "abs", "all", "str", "dict", "min", "max"]
def CT : List CRow := [k_JointError, k_InvalidTree]
def Z : Tab := ⟨T, cs, fs, CT, 100088⟩
abbrev md : Md := Z.md
theorem rB : AllR DRowB T := .cons b_is_whole (.cons b_is_between (.cons b_is_up_to (.cons b_is_tuple_up_to (.cons b_is_tree_by (.cons b_nodes_of (.cons b_is_fork (.cons b_fork_count_of (.cons b_check_tree (.cons b_is_tree (.cons b_fork_count (.cons b__law_pool (.cons b__law_take (.cons b__law_alike (.cons b__law_whole (.cons b__law_says (.cons b__law_tree (.cons b__law_forks (.cons b__law_changed (.cons b__law_deep (.cons b__law_said (.cons b_law .nil)))))))))))))))))))))
theorem zB : TabB Z := ⟨by decide +kernel, by decide +kernel, by decide +kernel, rB, .cons kb_JointError (.cons kb_InvalidTree .nil)⟩
def F_is_whole (cf : CF) : E Out :=
  (sSeq (sRet (eAnd (eOpN instD [(eVar 0), (eCst (.ty .int))]) (eNot (eOpN instD [(eVar 0), (eCst (.ty .bool))]))))
    sNil)
abbrev I_is_whole (C : Nat → CF) : Prop := ∀ d, C (d + 1) 763 = runD 1 1 (F_is_whole (C d))
def F_is_between (cf : CF) : E Out :=
  (sSeq (sRet (eAnd (eCall (cf 763) [(eVar 0)]) (eChain (cmpD .LtE) (cmpD .LtE) (eVar 1) (eVar 0) (eVar 2))))
    sNil)
abbrev I_is_between (C : Nat → CF) : Prop := ∀ d, C (d + 1) 700 = runD 3 3 (F_is_between (C d))
def F_is_up_to (cf : CF) : E Out :=
  (sSeq (sRet (eCall (cf 700) [(eVar 0), (eCst (.int 0)), (eVar 1)]))
    sNil)
abbrev I_is_up_to (C : Nat → CF) : Prop := ∀ d, C (d + 1) 761 = runD 2 2 (F_is_up_to (C d))
def F_is_tuple_up_to (cf : CF) : E Out :=
  (sSeq (sRet (eAnd (eOpN instD [(eVar 0), (eCst (.ty .tuple))]) (eChain (cmpD .LtE) (cmpD .LtE) (eVar 1) (eOpN lenD [(eVar 0)]) (eVar 2))))
    sNil)
abbrev I_is_tuple_up_to (C : Nat → CF) : Prop := ∀ d, C (d + 1) 758 = runD 3 3 (F_is_tuple_up_to (C d))
def F_is_tree_by (cf : CF) : E Out :=
  (sSeq (sPar 1 2 (eOpN mkLst []) (eOpN mkLst [(eOpN mkTup [(eVar 0), (eCst (.int 0))])]))
    (sSeq (sWhile (eBl (eOp2 (cmpD .NotEq) (eVar 2) (eOpN mkLst [])))
    (sSeq (sAsgn (eMeth .list popXD (eVar 2) []) (gTupl [(gNam 3), (gNam 4)]))
    (sSeq (sIf (eTru (eCall (cf 761) [(eVar 3), (eOp2 subD (eCst (.int (12))) (eCst (.int 1)))]))
    (sSeq (sExp (eMeth .list appendD (eVar 1) [(eVar 3)]))
    sNil)
    (sSeq (sIf (eAndT (eTru (eCall (cf 758) [(eVar 3), (eCst (.int (2))), (eCst (.int (4)))])) (eBl (eOp2 (cmpD .Lt) (eVar 4) (eCst (.int (6))))))
    (sSeq (sExp (eMeth .list extendD (eVar 2) [(eLc (iVal (eVar 3)) [5] (gNam 5) tTru (eOpN mkTup [(eVar 5), (eOp2 addD (eVar 4) (eCst (.int 1)))]))]))
    sNil)
    (sSeq (sRet (eCst (.bl false)))
    sNil))
    sNil))
    sNil)))
    (sSeq (sRet (eOp2 (cmpD .Eq) (eOpN sortedD [(eVar 1)]) (eOp1 lstRg (eOpN lenD [(eVar 1)]))))
    sNil)))
abbrev I_is_tree_by (C : Nat → CF) : Prop := ∀ d, C (d + 1) 756 = runD 1 6 (F_is_tree_by (C d))
def F_nodes_of (cf : CF) : E Out :=
  (sSeq (sAsgn (eOpN mkTup [(eOpN mkLst []), (eOpN mkLst [(eOpN mkTup [(eCst .non), (eVar 0)])])]) (gTupl [(gNam 1), (gNam 2)]))
    (sSeq (sWhile (eBl (eOp2 (cmpD .NotEq) (eVar 2) (eOpN mkLst [])))
    (sSeq (sAsgn (eMeth .list popXD (eVar 2) []) (gTupl [(gNam 3), (gNam 4)]))
    (sSeq (sIf (eTru (eOpN instD [(eVar 4), (eCst (.ty .tuple))]))
    (sSeq (sExp (eMeth .list extendD (eVar 2) [(eLc (iVal (eOp1 revD (eVar 4))) [5] (gNam 5) tTru (eOpN mkTup [(eOpN lenD [(eVar 1)]), (eVar 5)]))]))
    sNil)
    sNil)
    (sSeq (sExp (eMeth .list appendD (eVar 1) [(eOpN mkTup [(eVar 3), (eVar 4)])]))
    sNil))))
    (sSeq (sRet (eVar 1))
    sNil)))
abbrev I_nodes_of (C : Nat → CF) : Prop := ∀ d, C (d + 1) 862 = runD 1 6 (F_nodes_of (C d))
def F_is_fork (cf : CF) : E Out :=
  (sSeq (sRet (eOpN instD [(eOp2 idxD (eVar 0) (eCst (.int 1))), (eCst (.ty .tuple))]))
    sNil)
abbrev I_is_fork (C : Nat → CF) : Prop := ∀ d, C (d + 1) 713 = runD 1 1 (F_is_fork (C d))
def F_fork_count_of (cf : CF) : E Out :=
  (sSeq (sRet (eOpN lenD [(eLc (iVal (eCall (cf 862) [(eVar 0)])) [1] (gNam 1) (eTru (eCall (cf 713) [(eVar 1)])) (eVar 1))]))
    sNil)
abbrev I_fork_count_of (C : Nat → CF) : Prop := ∀ d, C (d + 1) 678 = runD 1 2 (F_fork_count_of (C d))
def F_check_tree (cf : CF) : E Out :=
  (sSeq (sIf (eNotT (eTru (eCall (cf 756) [(eVar 0)])))
    (sSeq (sRaise 100077 [(eVar 0)])
    sNil)
    sNil)
    sNil)
abbrev I_check_tree (C : Nat → CF) : Prop := ∀ d, C (d + 1) 603 = runD 1 1 (F_check_tree (C d))
def F_is_tree (cf : CF) : E Out :=
  (sSeq (sRet (eCall (cf 756) [(eVar 0)]))
    sNil)
abbrev I_is_tree (C : Nat → CF) : Prop := ∀ d, C (d + 1) 755 = runD 1 1 (F_is_tree (C d))
def F_fork_count (cf : CF) : E Out :=
  (sSeq (sExp (eCall (cf 603) [(eVar 0)]))
    (sSeq (sRet (eCall (cf 678) [(eVar 0)]))
    sNil))
abbrev I_fork_count (C : Nat → CF) : Prop := ∀ d, C (d + 1) 677 = runD 1 1 (F_fork_count (C d))
def F__law_pool (cf : CF) : E Out :=
  (sSeq (sAsgn (eOp2 addD (eOp2 mulD (eCst (.int 7)) (eVar 1)) (eOp2 mulD (eCst (.int 3)) (eOpN lenD [(eVar 0)]))) (gNam 2))
    (sSeq (sIf (eBl (eOp2 (cmpD .Lt) (eVar 1) (eOpN lenD [(eVar 0)])))
    (sSeq (sAsgn (eOp2 idxD (eVar 0) (eVar 1)) (gNam 2))
    sNil)
    sNil)
    (sSeq (sAsgn (eOpN absD [(eVar 2)]) (gNam 3))
    (sSeq (sAsgn (eOp2 modD (eOpN intD [(eOp2 addD (eOp2 addD (eOp2 addD (eOp2 mulD (eVar 3) (eCst (.int 48271))) (eOp2 mulD (eCst (.int 16807)) (eVar 1))) (eOp2 mulD (eCst (.int 11)) (eOpN intD [(eOp2 (cmpD .Lt) (eVar 2) (eCst (.int 0)))]))) (eCst (.int 1)))]) (eCst (.int 2305843009213693951))) (gNam 4))
    (sSeq (sIf (eBl (eOp2 (cmpD .GtE) (eVar 3) (eCst (.int 1000000000000000000))))
    (sSeq (sRet (eOpN mkLst [(eOp2 addD (eOp2 mulD (eCst (.int 2)) (eOp2 subD (eVar 3) (eCst (.int 1000000000000000000)))) (eOpN intD [(eOp2 (cmpD .Lt) (eVar 2) (eCst (.int 0)))])), (eVar 4)]))
    sNil)
    sNil)
    (sSeq (sRet (eOpN mkLst [(eCst (.int 0)), (eVar 4)]))
    sNil))))))
abbrev I__law_pool (C : Nat → CF) : Prop := ∀ d, C (d + 1) 356 = runD 2 5 (F__law_pool (C d))
def F__law_take (cf : CF) : E Out :=
  (sSeq (sIf (eBl (eOp2 (cmpD .Gt) (eOp2 idxD (eVar 0) (eCst (.int 0))) (eCst (.int 1))))
    (sSeq (sAsgn (eOp2 modD (eOpN intD [(eOp2 idxD (eVar 0) (eCst (.int 0)))]) (eVar 1)) (gNam 2))
    (sSeq (sAsgn (eOp2 fdivD (eOp2 idxD (eVar 0) (eCst (.int 0))) (eVar 1)) (gSubs (eVar 0) (eCst (.int 0))))
    (sSeq (sRet (eVar 2))
    sNil)))
    sNil)
    (sSeq (sAsgn (eCst (.int 0)) (gNam 2))
    (sSeq (sAsgn (eCst (.int 1)) (gNam 3))
    (sSeq (sWhile (eBl (eOp2 (cmpD .Lt) (eVar 3) (eOp2 mulD (eCst (.int 16777216)) (eVar 1))))
    (sSeq (sAsgn (eOp2 modD (eOpN intD [(eOp2 addD (eOp2 mulD (eOp2 idxD (eVar 0) (eCst (.int 1))) (eCst (.int 6364136223846793005))) (eCst (.int 1442695040888963407)))]) (eCst (.int 18446744073709551616))) (gSubs (eVar 0) (eCst (.int 1))))
    (sSeq (sAsgn (eOp2 addD (eOp2 mulD (eVar 2) (eCst (.int 16777216))) (eOp2 fdivD (eOp2 idxD (eVar 0) (eCst (.int 1))) (eCst (.int 1099511627776)))) (gNam 2))
    (sSeq (sAsgn (eOp2 mulD (eVar 3) (eCst (.int 16777216))) (gNam 3))
    sNil))))
    (sSeq (sRet (eOp2 modD (eOpN intD [(eVar 2)]) (eVar 1)))
    sNil)))))
abbrev I__law_take (C : Nat → CF) : Prop := ∀ d, C (d + 1) 431 = runD 2 4 (F__law_take (C d))
def F__law_alike (cf : CF) : E Out :=
  (sSeq (sIf (eOrT (eTru (eOpN instD [(eVar 0), (eCst (.ty .bool))])) (eTru (eOpN instD [(eVar 1), (eCst (.ty .bool))])))
    (sSeq (sRet (eAnd (eOpN instD [(eVar 0), (eCst (.ty .bool))]) (eAnd (eOpN instD [(eVar 1), (eCst (.ty .bool))]) (eOp2 (cmpD .Eq) (eVar 0) (eVar 1)))))
    sNil)
    sNil)
    (sSeq (sIf (eOrT (eTru (eOpN instD [(eVar 0), (eCst (.ty .int))])) (eTru (eOpN instD [(eVar 1), (eCst (.ty .int))])))
    (sSeq (sRet (eAnd (eOpN instD [(eVar 0), (eCst (.ty .int))]) (eAnd (eOpN instD [(eVar 1), (eCst (.ty .int))]) (eOp2 (cmpD .Eq) (eVar 0) (eVar 1)))))
    sNil)
    sNil)
    (sSeq (sIf (eOrT (eTru (eOpN instD [(eVar 0), (eCst (.ty .str))])) (eTru (eOpN instD [(eVar 1), (eCst (.ty .str))])))
    (sSeq (sRet (eAnd (eOpN instD [(eVar 0), (eCst (.ty .str))]) (eAnd (eOpN instD [(eVar 1), (eCst (.ty .str))]) (eOp2 (cmpD .Eq) (eVar 0) (eVar 1)))))
    sNil)
    sNil)
    (sSeq (sIf (eOrT (eBl (eOp2 (cmpD .Is) (eVar 0) (eCst .non))) (eBl (eOp2 (cmpD .Is) (eVar 1) (eCst .non))))
    (sSeq (sRet (eAnd (eOp2 (cmpD .Is) (eVar 0) (eCst .non)) (eOp2 (cmpD .Is) (eVar 1) (eCst .non))))
    sNil)
    sNil)
    (sSeq (sIf (eOrT (eTru (eOpN instD [(eVar 0), (eCst (.ty .dict))])) (eTru (eOpN instD [(eVar 1), (eCst (.ty .dict))])))
    (sSeq (sRet (eAnd (eOpN instD [(eVar 0), (eCst (.ty .dict))]) (eAnd (eOpN instD [(eVar 1), (eCst (.ty .dict))]) (eChain (cmpD .Eq) (cmpD .Eq) (eOpN lenD [(eVar 0)]) (eOpN lenD [(eVar 1)]) (eCst (.int 0))))))
    sNil)
    sNil)
    (sSeq (sIf (eOrT (eBl (eOp2 (cmpD .NotEq) (eOpN instD [(eVar 0), (eCst (.ty .tuple))]) (eOpN instD [(eVar 1), (eCst (.ty .tuple))]))) (eBl (eOp2 (cmpD .NotEq) (eOpN instD [(eVar 0), (eCst (.ty .list))]) (eOpN instD [(eVar 1), (eCst (.ty .list))]))))
    (sSeq (sRet (eCst (.bl false)))
    sNil)
    sNil)
    (sSeq (sIf (eOrT (eNotT (eTru (eOpN instD [(eVar 0), (eOpN mkTup [(eCst (.ty .tuple)), (eCst (.ty .list))])]))) (eBl (eOp2 (cmpD .NotEq) (eOpN lenD [(eVar 0)]) (eOpN lenD [(eVar 1)]))))
    (sSeq (sRet (eCst (.bl false)))
    sNil)
    sNil)
    (sSeq (sRet (eOpN (quanD fun bs => bs.all id) [(eLc (iRng rng1 [(eOpN lenD [(eVar 0)])]) [2] (gNam 2) tTru (eCall (cf 35) [(eOp2 idxD (eVar 0) (eVar 2)), (eOp2 idxD (eVar 1) (eVar 2))]))]))
    sNil))))))))
abbrev I__law_alike (C : Nat → CF) : Prop := ∀ d, C (d + 1) 35 = runD 2 3 (F__law_alike (C d))
def F__law_whole (cf : CF) : E Out :=
  (sSeq (sRet (eAnd (eOpN instD [(eVar 0), (eCst (.ty .int))]) (eNot (eOpN instD [(eVar 0), (eCst (.ty .bool))]))))
    sNil)
abbrev I__law_whole (C : Nat → CF) : Prop := ∀ d, C (d + 1) 467 = runD 1 1 (F__law_whole (C d))
def F__law_says (cf : CF) : E Out :=
  (sSeq (sRet (eAnd (eOpN instD [(eVar 0), (eCst (.ty .bool))]) (eOp2 (cmpD .Eq) (eVar 0) (eVar 1))))
    sNil)
abbrev I__law_says (C : Nat → CF) : Prop := ∀ d, C (d + 1) 396 = runD 2 2 (F__law_says (C d))
def F__law_tree (cf : CF) : E Out :=
  (sSeq (sAsgn (eOp1 lstRg (eVar 1)) (gNam 2))
    (sSeq (sAsgn (eCall (cf 431) [(eVar 0), (eVar 1)]) (gNam 3))
    (sSeq (sAsgn (eOp2 addD (eSlc (eVar 2) (some (eVar 3)) none) (eOp1 revD (eSlc (eVar 2) none (some (eVar 3))))) (gNam 2))
    (sSeq (sIf (eAndT (eBl (eOp2 (cmpD .Lt) (eVar 1) (eCst (.int 8)))) (eAndT (eBl (eOp2 (cmpD .Gt) (eVar 1) (eCst (.int 1)))) (eBl (eOp2 (cmpD .Eq) (eCall (cf 431) [(eVar 0), (eCst (.int 4))]) (eCst (.int 0))))))
    (sSeq (sAsgn (eOpN mkTup [(eOp2 idxD (eVar 2) (eCst (.int 0))), (eOp2 idxD (eVar 2) (eCst (.int 1)))]) (gNam 4))
    (sSeq (sFor (iVal (eSlc (eVar 2) (some (eCst (.int 2))) none)) (gNam 5)
    (sSeq (sAsgn (eOp2 idxD (eOpN mkTup [(eOpN mkTup [(eVar 4), (eVar 5)]), (eOpN mkTup [(eVar 5), (eVar 4)])]) (eCall (cf 431) [(eVar 0), (eCst (.int 2))])) (gNam 4))
    sNil))
    (sSeq (sRet (eVar 4))
    sNil)))
    sNil)
    (sSeq (sWhile (eBl (eOp2 (cmpD .Gt) (eOpN lenD [(eVar 2)]) (eCst (.int 1))))
    (sSeq (sAsgn (eOpN mkLst []) (gNam 6))
    (sSeq (sAsgn (eOpN listD [(eVar 2)]) (gNam 7))
    (sSeq (sWhile (eBl (eOp2 (cmpD .NotEq) (eVar 7) (eOpN mkLst [])))
    (sSeq (sAsgn (eOpN (aggD minI) [(eOpN lenD [(eVar 7)]), (eOp2 addD (eCst (.int 2)) (eCall (cf 431) [(eVar 0), (eCst (.int 3))]))]) (gNam 8))
    (sSeq (sAsgn (eOpN tupleD [(eLc (iRng rng1 [(eVar 8)]) [10] (gNam 10) tTru (eMeth .list popXD (eVar 7) [(eCall (cf 431) [(eVar 0), (eOpN lenD [(eVar 7)])])]))]) (gNam 9))
    (sSeq (sIf (eBl (eOp2 (cmpD .Eq) (eVar 8) (eCst (.int 1))))
    (sSeq (sExp (eMeth .list appendD (eVar 6) [(eOp2 idxD (eVar 9) (eCst (.int 0)))]))
    sNil)
    (sSeq (sExp (eMeth .list appendD (eVar 6) [(eVar 9)]))
    sNil))
    sNil))))
    (sSeq (sAsgn (eVar 6) (gNam 2))
    sNil)))))
    (sSeq (sRet (eOp2 idxD (eVar 2) (eCst (.int 0))))
    sNil))))))
abbrev I__law_tree (C : Nat → CF) : Prop := ∀ d, C (d + 1) 447 = runD 2 11 (F__law_tree (C d))
def F__law_forks (cf : CF) : E Out :=
  (sSeq (sAsgn (eOpN mkLst []) (gNam 1))
    (sSeq (sAsgn (eCst (.int 0)) (gNam 2))
    (sSeq (sAsgn (eOpN mkLst [(eOpN mkTup [(eVar 0), (eCst (.int 0))])]) (gNam 3))
    (sSeq (sWhile (eBl (eOp2 (cmpD .NotEq) (eVar 3) (eOpN mkLst [])))
    (sSeq (sAsgn (eMeth .list popXD (eVar 3) []) (gTupl [(gNam 4), (gNam 5)]))
    (sSeq (sIf (eTru (eOpN instD [(eVar 4), (eCst (.ty .tuple))]))
    (sSeq (sIf (eOrT (eNotT (eBl (eChain (cmpD .LtE) (cmpD .LtE) (eCst (.int 2)) (eOpN lenD [(eVar 4)]) (eCst (.int 4))))) (eBl (eOp2 (cmpD .Gt) (eVar 5) (eCst (.int 5)))))
    (sSeq (sRet (eCst .non))
    sNil)
    sNil)
    (sSeq (sAsgn (eOp2 addD (eVar 2) (eCst (.int 1))) (gNam 2))
    (sSeq (sAsgn (eOp2 addD (eVar 3) (eLc (iVal (eVar 4)) [6] (gNam 6) tTru (eOpN mkTup [(eVar 6), (eOp2 addD (eVar 5) (eCst (.int 1)))]))) (gNam 3))
    sNil)))
    (sSeq (sIf (eOrT (eNotT (eTru (eCall (cf 467) [(eVar 4)]))) (eOrT (eBl (eOp2 (cmpD .Lt) (eVar 4) (eCst (.int 0)))) (eBl (eOp2 (cmpD .In) (eVar 4) (eVar 1)))))
    (sSeq (sRet (eCst .non))
    sNil)
    (sSeq (sExp (eMeth .list appendD (eVar 1) [(eVar 4)]))
    sNil))
    sNil))
    sNil)))
    (sSeq (sIf (eOrT (eBl (eOp2 (cmpD .Gt) (eOpN lenD [(eVar 1)]) (eCst (.int 12)))) (eBl (eOp2 (cmpD .NotEq) (eOpN sortedD [(eVar 1)]) (eOp1 lstRg (eOpN lenD [(eVar 1)])))))
    (sSeq (sRet (eCst .non))
    sNil)
    sNil)
    (sSeq (sRet (eVar 2))
    sNil))))))
abbrev I__law_forks (C : Nat → CF) : Prop := ∀ d, C (d + 1) 179 = runD 1 7 (F__law_forks (C d))
def F__law_changed (cf : CF) : E Out :=
  (sSeq (sAsgn (eOpN mkLst []) (gNam 3))
    (sSeq (sAsgn (eVar 1) (gNam 4))
    (sSeq (sWhile (eAndT (eTru (eOpN instD [(eVar 4), (eCst (.ty .tuple))])) (eBl (eOp2 (cmpD .Gt) (eCall (cf 431) [(eVar 0), (eCst (.int 3))]) (eCst (.int 0)))))
    (sSeq (sAsgn (eCall (cf 431) [(eVar 0), (eOpN lenD [(eVar 4)])]) (gNam 6))
    (sSeq (sExp (eMeth .list appendD (eVar 3) [(eOpN mkTup [(eVar 4), (eVar 6)])]))
    (sSeq (sAsgn (eOp2 idxD (eVar 4) (eVar 6)) (gNam 4))
    sNil))))
    (sSeq (sAsgn (eVar 2) (gNam 5))
    (sSeq (sIf (eBl (eOp2 (cmpD .Eq) (eVar 2) (eCst (.str "twice"))))
    (sSeq (sAsgn (eOpN mkTup [(eVar 4), (eVar 4)]) (gNam 5))
    sNil)
    sNil)
    (sSeq (sIf (eBl (eOp2 (cmpD .Eq) (eVar 2) (eCst (.str "list"))))
    (sSeq (sAsgn (eOpN mkLst [(eVar 4), (eVar 4)]) (gNam 5))
    sNil)
    sNil)
    (sSeq (sIf (eBl (eOp2 (cmpD .Eq) (eVar 2) (eCst (.str "alone"))))
    (sSeq (sAsgn (eOpN mkTup [(eVar 4)]) (gNam 5))
    sNil)
    sNil)
    (sSeq (sWhile (eBl (eOp2 (cmpD .NotEq) (eVar 3) (eOpN mkLst [])))
    (sSeq (sAsgn (eMeth .list popXD (eVar 3) []) (gTupl [(gNam 7), (gNam 6)]))
    (sSeq (sAsgn (eOp2 addD (eOp2 addD (eSlc (eVar 7) none (some (eVar 6))) (eOpN mkTup [(eVar 5)])) (eSlc (eVar 7) (some (eOp2 addD (eVar 6) (eCst (.int 1)))) none)) (gNam 5))
    sNil)))
    (sSeq (sRet (eVar 5))
    sNil)))))))))
abbrev I__law_changed (C : Nat → CF) : Prop := ∀ d, C (d + 1) 120 = runD 3 8 (F__law_changed (C d))
def F__law_deep (cf : CF) : E Out :=
  (sSeq (sAsgn (eCst (.int 0)) (gNam 1))
    (sSeq (sFor (iRng rng1 [(eVar 0)]) (gNam 2)
    (sSeq (sAsgn (eOpN mkTup [(eVar 1), (eOp2 addD (eVar 2) (eCst (.int 1)))]) (gNam 1))
    sNil))
    (sSeq (sRet (eVar 1))
    sNil)))
abbrev I__law_deep (C : Nat → CF) : Prop := ∀ d, C (d + 1) 145 = runD 1 3 (F__law_deep (C d))
def F__law_said (cf : CF) : E Out :=
  (sSeq (sTry (sSeq (sIf (eTru (eVar 1))
    (sSeq (sRet (eOpN mkTup [(eCst (.str "value")), (eCallK (cf 677) 0 1 [0] [] [(eVar 0)])]))
    sNil)
    sNil)
    (sSeq (sRet (eOpN mkTup [(eCst (.str "value")), (eCall (cf 677) [(eVar 0)])]))
    sNil))
    [⟨fun i => if i ∈ md.cl then md.sub.lookup (i, 100077) else none, some 2, (sSeq (sRet (eOpN mkTup [(eCst (.str "tree")), (eFld "given" (eVar 2))]))
    sNil)⟩,
    ⟨fun i => if i ∈ md.cl then md.sub.lookup (i, 100088) else none, none, (sSeq (sRet (eOpN mkTup [(eCst (.str "other")), (eCst .non)]))
    sNil)⟩])
    sNil)
abbrev I__law_said (C : Nat → CF) : Prop := ∀ d, C (d + 1) 393 = runD 2 3 (F__law_said (C d))
def F_law (cf : CF) : E Out :=
  (sSeq (sFor (iRng rng1 [(eOpN (aggD minI) [(eCst (.int 24)), (eOpN (aggD maxI) [(eCst (.int 5)), (eOpN lenD [(eVar 0)])])])]) (gNam 1)
    (sSeq (sAsgn (eCall (cf 356) [(eVar 0), (eVar 1)]) (gNam 2))
    (sSeq (sAsgn (eOp2 addD (eCst (.int 1)) (eCall (cf 431) [(eVar 2), (eCst (.int 12))])) (gNam 3))
    (sSeq (sAsgn (eCall (cf 447) [(eVar 2), (eVar 3)]) (gNam 4))
    (sSeq (sAsgn (eOpN mkLst [(eVar 4), (eCst .non), (eOpN mkTup []), (eOpN mkTup [(eCst (.int 0))]), (eOpN mkLst [(eCst (.int 0)), (eCst (.int 1))]), (eOpN mkTup [(eVar 4), (eVar 3)]), (eOpN mkTup [(eVar 4), (eCst (.int 0))]), (eOpN mkTup [(eVar 4), (eOp2 addD (eVar 3) (eCst (.int 1)))]), (eOpN mkTup [(eVar 3), (eVar 4)]), (eCst (.bl true))]) (gNam 5))
    (sSeq (sAsgn (eOp2 addD (eVar 5) (eOpN mkLst [(eOp1 negD (eCst (.int 1))), (eCst (.int 0)), (eCst (.int 1)), (eCst (.str "0")), (eOpN mkTup [(eCst (.int 0)), (eCst (.int 1)), (eCst (.int 2)), (eCst (.int 3)), (eCst (.int 4))]), (eOpN mkTup [(eOpN mkTup [(eCst (.int 0)), (eCst (.int 1))]), (eOpN mkTup [(eCst (.int 2)), (eCst (.int 3))]), (eOpN mkTup [(eCst (.int 4)), (eCst (.int 5))]), (eOpN mkTup [(eCst (.int 6)), (eCst (.int 7))])]), (eOpN mkTup [(eCst (.int 0)), (eOpN mkTup [(eCst (.int 1)), (eOpN mkTup [(eCst (.int 2)), (eCst (.bl true))])])]), (eOpN mkTup [(eCst (.int 1)), (eCst (.int 0))])])) (gNam 5))
    (sSeq (sAsgn (eOp2 addD (eVar 5) (eOpN mkLst [(eCall (cf 145) [(eCst (.int 6))]), (eCall (cf 145) [(eCst (.int 7))]), (eCall (cf 145) [(eCst (.int 2))]), (eOpN mkTup [(eOpN tupleD [(eOpN mkLst [(eCst (.int 0)), (eCst (.int 1)), (eCst (.int 2)), (eCst (.int 3))])]), (eOpN tupleD [(eOpN mkLst [(eCst (.int 4)), (eCst (.int 5)), (eCst (.int 6)), (eCst (.int 7))])]), (eOpN tupleD [(eOpN mkLst [(eCst (.int 8)), (eCst (.int 9)), (eCst (.int 10)), (eCst (.int 11))])]), (eCst (.int 12))])])) (gNam 5))
    (sSeq (sAsgn (eOp2 addD (eVar 5) (eOpN mkLst [(eOpN mkTup [(eOpN tupleD [(eOpN mkLst [(eCst (.int 0)), (eCst (.int 1)), (eCst (.int 2)), (eCst (.int 3))])]), (eOpN tupleD [(eOpN mkLst [(eCst (.int 4)), (eCst (.int 5)), (eCst (.int 6)), (eCst (.int 7))])]), (eOpN tupleD [(eOpN mkLst [(eCst (.int 8)), (eCst (.int 9)), (eCst (.int 10)), (eCst (.int 11))])])])])) (gNam 5))
    (sSeq (sFor (iVal (eOpN mkTup [(eVar 3), (eCst (.int 0)), (eOp1 negD (eCst (.int 1))), (eCst .non), (eCst (.bl true)), (eCst (.str "0")), (eOpN mkTup []), (eCst (.str "twice")), (eCst (.str "list")), (eCst (.str "alone")), (eOpN mkTup [(eVar 3), (eOp2 addD (eVar 3) (eCst (.int 1)))]), (eOp2 powD (eCst (.int 10)) (eCst (.int 29)))])) (gNam 6)
    (sSeq (sExp (eMeth .list appendD (eVar 5) [(eCall (cf 120) [(eVar 2), (eVar 4), (eVar 6)])]))
    sNil))
    (sSeq (sFor (iVal (eVar 5)) (gNam 6)
    (sSeq (sAsgn (eCall (cf 179) [(eVar 6)]) (gNam 7))
    (sSeq (sIf (eOrT (eNotT (eTru (eCall (cf 396) [(eCall (cf 755) [(eVar 6)]), (eOp2 (cmpD .IsNot) (eVar 7) (eCst .non))]))) (eNotT (eTru (eCall (cf 396) [(eCallK (cf 755) 0 1 [0] [] [(eVar 6)]), (eOp2 (cmpD .IsNot) (eVar 7) (eCst .non))]))))
    (sSeq (sRet (eCst (.bl false)))
    sNil)
    sNil)
    (sSeq (sAsgn (eCall (cf 393) [(eVar 6), (eOp2 (cmpD .Eq) (eCall (cf 431) [(eVar 2), (eCst (.int 2))]) (eCst (.int 0)))]) (gNam 8))
    (sSeq (sIf (eOrT (eAndT (eBl (eOp2 (cmpD .Is) (eVar 7) (eCst .non))) (eNotT (eTru (eCall (cf 35) [(eVar 8), (eOpN mkTup [(eCst (.str "tree")), (eVar 6)])])))) (eAndT (eBl (eOp2 (cmpD .IsNot) (eVar 7) (eCst .non))) (eNotT (eTru (eCall (cf 35) [(eVar 8), (eOpN mkTup [(eCst (.str "value")), (eVar 7)])])))))
    (sSeq (sRet (eCst (.bl false)))
    sNil)
    sNil)
    sNil)))))
    sNil))))))))))
    (sSeq (sRet (eCst (.bl true)))
    sNil))
abbrev I_law (C : Nat → CF) : Prop := ∀ d, C (d + 1) 788 = runD 1 9 (F_law (C d))
theorem t_is_whole : rowAt T 763 = some r_is_whole := find_self zB.nd (List.mem_of_getElem? (i := 0) rfl)
theorem d_is_whole (cf : CF) : r_is_whole.fd.run md cf = runD 1 1 (F_is_whole cf) := by kernel_rfl
theorem c_is_whole : I_is_whole (callF T md) := fun d => callF_at t_is_whole d_is_whole d
theorem t_is_between : rowAt T 700 = some r_is_between := find_self zB.nd (List.mem_of_getElem? (i := 1) rfl)
theorem d_is_between (cf : CF) : r_is_between.fd.run md cf = runD 3 3 (F_is_between cf) := by kernel_rfl
theorem c_is_between : I_is_between (callF T md) := fun d => callF_at t_is_between d_is_between d
theorem t_is_up_to : rowAt T 761 = some r_is_up_to := find_self zB.nd (List.mem_of_getElem? (i := 2) rfl)
theorem d_is_up_to (cf : CF) : r_is_up_to.fd.run md cf = runD 2 2 (F_is_up_to cf) := by kernel_rfl
theorem c_is_up_to : I_is_up_to (callF T md) := fun d => callF_at t_is_up_to d_is_up_to d
theorem t_is_tuple_up_to : rowAt T 758 = some r_is_tuple_up_to := find_self zB.nd (List.mem_of_getElem? (i := 3) rfl)
theorem d_is_tuple_up_to (cf : CF) : r_is_tuple_up_to.fd.run md cf = runD 3 3 (F_is_tuple_up_to cf) := by kernel_rfl
theorem c_is_tuple_up_to : I_is_tuple_up_to (callF T md) := fun d => callF_at t_is_tuple_up_to d_is_tuple_up_to d
theorem t_is_tree_by : rowAt T 756 = some r_is_tree_by := find_self zB.nd (List.mem_of_getElem? (i := 4) rfl)
theorem d_is_tree_by (cf : CF) : r_is_tree_by.fd.run md cf = runD 1 6 (F_is_tree_by cf) := by kernel_rfl
theorem c_is_tree_by : I_is_tree_by (callF T md) := fun d => callF_at t_is_tree_by d_is_tree_by d
theorem t_nodes_of : rowAt T 862 = some r_nodes_of := find_self zB.nd (List.mem_of_getElem? (i := 5) rfl)
theorem d_nodes_of (cf : CF) : r_nodes_of.fd.run md cf = runD 1 6 (F_nodes_of cf) := by kernel_rfl
theorem c_nodes_of : I_nodes_of (callF T md) := fun d => callF_at t_nodes_of d_nodes_of d
theorem t_is_fork : rowAt T 713 = some r_is_fork := find_self zB.nd (List.mem_of_getElem? (i := 6) rfl)
theorem d_is_fork (cf : CF) : r_is_fork.fd.run md cf = runD 1 1 (F_is_fork cf) := by kernel_rfl
theorem c_is_fork : I_is_fork (callF T md) := fun d => callF_at t_is_fork d_is_fork d
theorem t_fork_count_of : rowAt T 678 = some r_fork_count_of := find_self zB.nd (List.mem_of_getElem? (i := 7) rfl)
theorem d_fork_count_of (cf : CF) : r_fork_count_of.fd.run md cf = runD 1 2 (F_fork_count_of cf) := by kernel_rfl
theorem c_fork_count_of : I_fork_count_of (callF T md) := fun d => callF_at t_fork_count_of d_fork_count_of d
theorem t_check_tree : rowAt T 603 = some r_check_tree := find_self zB.nd (List.mem_of_getElem? (i := 8) rfl)
theorem d_check_tree (cf : CF) : r_check_tree.fd.run md cf = runD 1 1 (F_check_tree cf) := by kernel_rfl
theorem c_check_tree : I_check_tree (callF T md) := fun d => callF_at t_check_tree d_check_tree d
theorem t_is_tree : rowAt T 755 = some r_is_tree := find_self zB.nd (List.mem_of_getElem? (i := 9) rfl)
theorem d_is_tree (cf : CF) : r_is_tree.fd.run md cf = runD 1 1 (F_is_tree cf) := by kernel_rfl
theorem c_is_tree : I_is_tree (callF T md) := fun d => callF_at t_is_tree d_is_tree d
theorem t_fork_count : rowAt T 677 = some r_fork_count := find_self zB.nd (List.mem_of_getElem? (i := 10) rfl)
theorem d_fork_count (cf : CF) : r_fork_count.fd.run md cf = runD 1 1 (F_fork_count cf) := by kernel_rfl
theorem c_fork_count : I_fork_count (callF T md) := fun d => callF_at t_fork_count d_fork_count d
theorem t__law_pool : rowAt T 356 = some r__law_pool := find_self zB.nd (List.mem_of_getElem? (i := 11) rfl)
theorem d__law_pool (cf : CF) : r__law_pool.fd.run md cf = runD 2 5 (F__law_pool cf) := by kernel_rfl
theorem c__law_pool : I__law_pool (callF T md) := fun d => callF_at t__law_pool d__law_pool d
theorem t__law_take : rowAt T 431 = some r__law_take := find_self zB.nd (List.mem_of_getElem? (i := 12) rfl)
theorem d__law_take (cf : CF) : r__law_take.fd.run md cf = runD 2 4 (F__law_take cf) := by kernel_rfl
theorem c__law_take : I__law_take (callF T md) := fun d => callF_at t__law_take d__law_take d
theorem t__law_alike : rowAt T 35 = some r__law_alike := find_self zB.nd (List.mem_of_getElem? (i := 13) rfl)
theorem d__law_alike (cf : CF) : r__law_alike.fd.run md cf = runD 2 3 (F__law_alike cf) := by kernel_rfl
theorem c__law_alike : I__law_alike (callF T md) := fun d => callF_at t__law_alike d__law_alike d
theorem t__law_whole : rowAt T 467 = some r__law_whole := find_self zB.nd (List.mem_of_getElem? (i := 14) rfl)
theorem d__law_whole (cf : CF) : r__law_whole.fd.run md cf = runD 1 1 (F__law_whole cf) := by kernel_rfl
theorem c__law_whole : I__law_whole (callF T md) := fun d => callF_at t__law_whole d__law_whole d
theorem t__law_says : rowAt T 396 = some r__law_says := find_self zB.nd (List.mem_of_getElem? (i := 15) rfl)
theorem d__law_says (cf : CF) : r__law_says.fd.run md cf = runD 2 2 (F__law_says cf) := by kernel_rfl
theorem c__law_says : I__law_says (callF T md) := fun d => callF_at t__law_says d__law_says d
theorem t__law_tree : rowAt T 447 = some r__law_tree := find_self zB.nd (List.mem_of_getElem? (i := 16) rfl)
theorem d__law_tree (cf : CF) : r__law_tree.fd.run md cf = runD 2 11 (F__law_tree cf) := by kernel_rfl
theorem c__law_tree : I__law_tree (callF T md) := fun d => callF_at t__law_tree d__law_tree d
theorem t__law_forks : rowAt T 179 = some r__law_forks := find_self zB.nd (List.mem_of_getElem? (i := 17) rfl)
theorem d__law_forks (cf : CF) : r__law_forks.fd.run md cf = runD 1 7 (F__law_forks cf) := by kernel_rfl
theorem c__law_forks : I__law_forks (callF T md) := fun d => callF_at t__law_forks d__law_forks d
theorem t__law_changed : rowAt T 120 = some r__law_changed := find_self zB.nd (List.mem_of_getElem? (i := 18) rfl)
theorem d__law_changed (cf : CF) : r__law_changed.fd.run md cf = runD 3 8 (F__law_changed cf) := by kernel_rfl
theorem c__law_changed : I__law_changed (callF T md) := fun d => callF_at t__law_changed d__law_changed d
theorem t__law_deep : rowAt T 145 = some r__law_deep := find_self zB.nd (List.mem_of_getElem? (i := 19) rfl)
theorem d__law_deep (cf : CF) : r__law_deep.fd.run md cf = runD 1 3 (F__law_deep cf) := by kernel_rfl
theorem c__law_deep : I__law_deep (callF T md) := fun d => callF_at t__law_deep d__law_deep d
theorem t__law_said : rowAt T 393 = some r__law_said := find_self zB.nd (List.mem_of_getElem? (i := 20) rfl)
theorem d__law_said (cf : CF) : r__law_said.fd.run md cf = runD 2 3 (F__law_said cf) := by kernel_rfl
theorem c__law_said : I__law_said (callF T md) := fun d => callF_at t__law_said d__law_said d
theorem t_law : rowAt T 788 = some r_law := find_self zB.nd (List.mem_of_getElem? (i := 21) rfl)
theorem d_law (cf : CF) : r_law.fd.run md cf = runD 1 9 (F_law cf) := by kernel_rfl
theorem c_law : I_law (callF T md) := fun d => callF_at t_law d_law d
structure Us (C : Nat → CF) : Prop where
  u_is_whole : I_is_whole C
  u_is_between : I_is_between C
  u_is_up_to : I_is_up_to C
  u_is_tuple_up_to : I_is_tuple_up_to C
  u_is_tree_by : I_is_tree_by C
  u_nodes_of : I_nodes_of C
  u_is_fork : I_is_fork C
  u_fork_count_of : I_fork_count_of C
  u_check_tree : I_check_tree C
  u_is_tree : I_is_tree C
  u_fork_count : I_fork_count C
  u__law_pool : I__law_pool C
  u__law_take : I__law_take C
  u__law_alike : I__law_alike C
  u__law_whole : I__law_whole C
  u__law_says : I__law_says C
  u__law_tree : I__law_tree C
  u__law_forks : I__law_forks C
  u__law_changed : I__law_changed C
  u__law_deep : I__law_deep C
  u__law_said : I__law_said C
  u_law : I_law C
theorem us_ok : Us (callF T md) := ⟨c_is_whole, c_is_between, c_is_up_to, c_is_tuple_up_to, c_is_tree_by, c_nodes_of, c_is_fork, c_fork_count_of, c_check_tree, c_is_tree, c_fork_count, c__law_pool, c__law_take, c__law_alike, c__law_whole, c__law_says, c__law_tree, c__law_forks, c__law_changed, c__law_deep, c__law_said, c_law⟩
end K48

set_option Elab.async false
set_option linter.all false
set_option maxRecDepth 100000
set_option maxHeartbeats 4000000
noncomputable section
namespace K48
open PySem PySem.Spec PyProof.Rows L2 Jm
/-! ### leaves, forks, by the tree -/
def cat : List (Option (List Int)) → Option (List Int)
  | [] => some []
  | o :: os => match o, cat os with
    | some a, some b => some (a ++ b)
    | _, _ => none
def lv : Nat → D → Option (List Int)
  | 0, d => match d with
    | .int i => some [i]
    | _ => none
  | r + 1, d => match d with
    | .int i => some [i]
    | .tup xs => if 2 ≤ xs.length ∧ xs.length ≤ 4 then cat (xs.reverse.map (lv r)) else none
    | _ => none
def fk : Nat → D → Nat
  | 0, _ => 0
  | r + 1, d => match d with
    | .tup xs => 1 + (xs.map (fk r)).sum
    | _ => 0
def wt : Nat → Nat
  | 0 => 1
  | r + 1 => 1 + 4 * wt r
abbrev Stk := List (Nat × D)
def lvs (st : Stk) : Option (List Int) := cat (st.map fun q => lv q.1 q.2)
def fks (st : Stk) : Nat := (st.map fun q => fk q.1 q.2).sum
def ms (st : Stk) : Nat := (st.map fun q => wt q.1).sum
theorem cat_app : ∀ {a b : List (Option (List Int))}, cat (a ++ b) = match cat a, cat b with
    | some x, some y => some (x ++ y)
    | _, _ => none
  | [], b => by cases h : cat b <;> simp [cat, h]
  | o :: a, b => by
    show (match o, cat (a ++ b) with | some a, some b => some (a ++ b) | _, _ => none) = _
    rw [cat_app]
    cases o <;> cases h1 : cat a <;> cases h2 : cat b <;> simp [cat, h1]
theorem lvs_int {r : Nat} {i : Int} {st : Stk} : lvs ((r, .int i) :: st) = (lvs st).map (i :: ·) := by
  have : lv r (.int i) = some [i] := by cases r <;> rfl
  show (match lv r (.int i), cat (st.map fun q => lv q.1 q.2) with | some a, some b => some (a ++ b) | _, _ => none) = _
  rw [this]
  unfold lvs
  cases cat (st.map fun q => lv q.1 q.2) <;> rfl
theorem lvs_none {q : Nat × D} {st : Stk} (h : lv q.1 q.2 = none) : lvs (q :: st) = none := by
  show (match lv q.1 q.2, cat (st.map fun q => lv q.1 q.2) with | some a, some b => some (a ++ b) | _, _ => none) = _
  rw [h]
theorem lvs_tup {r : Nat} {xs : List D} {st : Stk} (h : 2 ≤ xs.length ∧ xs.length ≤ 4) : lvs ((r + 1, .tup xs) :: st) = lvs (xs.reverse.map (fun x => (r, x)) ++ st) := by
  show (match lv (r + 1) (.tup xs), cat (st.map fun q => lv q.1 q.2) with | some a, some b => some (a ++ b) | _, _ => none) = _
  have : lv (r + 1) (.tup xs) = cat (xs.reverse.map (lv r)) := if_pos h
  rw [this]
  unfold lvs
  rw [List.map_append, cat_app, List.map_map]
  rfl
theorem fks_cons {q : Nat × D} {st : Stk} : fks (q :: st) = fk q.1 q.2 + fks st := by unfold fks; simp
theorem fks_app {a b : Stk} : fks (a ++ b) = fks a + fks b := by unfold fks; simp
theorem fks_rev {r : Nat} {xs : List D} : fks (xs.reverse.map (fun x => (r, x))) = (xs.map (fk r)).sum := by
  unfold fks
  rw [List.map_map, List.map_reverse, List.sum_reverse]; rfl
theorem fks_map {r : Nat} {xs : List D} : fks (xs.map (fun x => (r, x))) = (xs.map (fk r)).sum := by
  unfold fks
  rw [List.map_map]; rfl
theorem ms_cons {q : Nat × D} {st : Stk} : ms (q :: st) = wt q.1 + ms st := by unfold ms; simp
theorem ms_app {a b : Stk} : ms (a ++ b) = ms a + ms b := by unfold ms; simp
theorem ms_map {r : Nat} : ∀ {xs : List D}, ms (xs.map (fun x => (r, x))) = xs.length * wt r
  | [] => by simp [ms]
  | x :: xs => by rw [List.map_cons, ms_cons, ms_map]; simp [Nat.add_mul]; omega
theorem wt_pos : ∀ r, 1 ≤ wt r
  | 0 => Nat.le_refl _
  | r + 1 => by unfold wt; omega
theorem ms_len : ∀ {st : Stk}, st.length ≤ ms st
  | [] => Nat.zero_le _
  | q :: st => by
    rw [ms_cons]
    have := wt_pos q.1
    have := ms_len (st := st)
    simp; omega
def rgI (k : Nat) : List Int := (List.range k).map fun i : Nat => (i : Int)
theorem rgD_eq (k : Nat) : rgD k = (rgI k).map D.int := by unfold rgD rgI; rw [List.map_map]; rfl
def fin (o : Option (List Int)) : Bool := match o with
  | some ls => decide (ls.length ≤ 12 ∧ sortI ls = rgI ls.length)
  | none => false
theorem rg_mem {k : Nat} {i : Int} : i ∈ rgI k ↔ 0 ≤ i ∧ i < k := by
  unfold rgI
  rw [List.mem_map]
  constructor
  · rintro ⟨j, h, rfl⟩
    have := List.mem_range.mp h
    omega
  · rintro ⟨h1, h2⟩
    exact ⟨i.toNat, List.mem_range.mpr (by omega), by omega⟩
theorem sort_mem {ls : List Int} {k : Nat} (h : sortI ls = rgI k) (i : Int) : i ∈ ls ↔ 0 ≤ i ∧ i < k := by
  rw [← rg_mem, ← h]
  exact (sortI_perm ls).mem_iff.symm
theorem fin_mem {ls : List Int} (h : fin (some ls) = true) : ∀ i ∈ ls, 0 ≤ i ∧ i ≤ 11 := by
  intro i hi
  obtain ⟨h1, h2⟩ := of_decide_eq_true h
  have := (sort_mem h2 i).mp hi
  omega
theorem fin_of {ls : List Int} (h : ∀ i ∈ ls, 0 ≤ i ∧ i ≤ 11) : fin (some ls) = decide (sortI ls = rgI ls.length) := by
  show decide (ls.length ≤ 12 ∧ sortI ls = rgI ls.length) = _
  by_cases c : sortI ls = rgI ls.length
  · have : ls.length ≤ 12 := by
      by_cases h0 : ls.length = 0
      · omega
      · have := (sort_mem c ((ls.length - 1 : Nat) : Int)).mpr ⟨by omega, by omega⟩
        have := h _ this
        omega
    simp [c, this]
  · simp [c]
theorem rg_nodup (k : Nat) : (rgI k).Nodup := by
  unfold rgI
  refine List.Pairwise.map _ (fun a b h => ?_) (List.nodup_range (n := k))
  omega
theorem fin_nodup {ls : List Int} (h : fin (some ls) = true) : ls.Nodup := by
  obtain ⟨h1, h2⟩ := of_decide_eq_true h
  exact (sortI_perm ls).nodup_iff.mp (by rw [h2]; exact rg_nodup _)
/-! ### tests of anything -/
def upT (d : D) (m : Int) : Bool := match d with
  | .int i => decide (0 ≤ i ∧ i ≤ m)
  | _ => false
def tupT (d : D) : Bool := match d with
  | .tup xs => decide (2 ≤ xs.length ∧ xs.length ≤ 4)
  | _ => false
section
variable {C : Nat → CF} {S : Sto} {p n : Nat} {v : D} {X : PX} {Q : D → Sto → Prop} {d : Nat}
theorem whole_any (U : Us C) (h : gd S p n v) : Wp (C (d + 1) 763 [v] S) Q X = Q (.bl (match v with | .int _ => true | _ => false)) S := by
  rw [U.u_is_whole]
  cases n with
  | zero => exact h.elim
  | succ n =>
    cases v with
    | loc l =>
      obtain ⟨h1, xs, h2, h3, h4⟩ := h
      simp [F_is_whole, instD, okT, tyOf, subT, h2]
    | non => simp [F_is_whole, instD, okT, tyOf, subT]
    | bl b => simp [F_is_whole, instD, okT, tyOf, subT]
    | int b => simp [F_is_whole, instD, okT, tyOf, subT]
    | str b => simp [F_is_whole, instD, okT, tyOf, subT]
    | tup b => simp [F_is_whole, instD, okT, tyOf, subT]
    | _ => exact h.elim
theorem lwhole_any (U : Us C) (h : gd S p n v) : Wp (C (d + 1) 467 [v] S) Q X = Q (.bl (match v with | .int _ => true | _ => false)) S := by
  rw [U.u__law_whole]
  cases n with
  | zero => exact h.elim
  | succ n =>
    cases v with
    | loc l =>
      obtain ⟨h1, xs, h2, h3, h4⟩ := h
      simp [F__law_whole, instD, okT, tyOf, subT, h2]
    | non => simp [F__law_whole, instD, okT, tyOf, subT]
    | bl b => simp [F__law_whole, instD, okT, tyOf, subT]
    | int b => simp [F__law_whole, instD, okT, tyOf, subT]
    | str b => simp [F__law_whole, instD, okT, tyOf, subT]
    | tup b => simp [F__law_whole, instD, okT, tyOf, subT]
    | _ => exact h.elim
theorem up_any (U : Us C) {m : Int} (h : gd S p n v) : Wp (C (d + 3) 761 [v, .int m] S) Q X = Q (.bl (upT v m)) S := by
  rw [U.u_is_up_to]
  simp [F_is_up_to]
  rw [U.u_is_between]
  simp [F_is_between, whole_any U h]
  cases v with
  | int i => by_cases c : 0 ≤ i <;> simp [upT, c]
  | _ => simp [upT]
theorem tup_any (U : Us C) (h : gd S p n v) : Wp (C (d + 1) 758 [v, .int 2, .int 4] S) Q X = Q (.bl (tupT v)) S := by
  rw [U.u_is_tuple_up_to]
  cases n with
  | zero => exact h.elim
  | succ n =>
    cases v with
    | loc l =>
      obtain ⟨h1, xs, h2, h3, h4⟩ := h
      simp [F_is_tuple_up_to, instD, okT, tyOf, subT, h2, tupT]
    | non => simp [F_is_tuple_up_to, instD, okT, tyOf, subT, tupT]
    | bl b => simp [F_is_tuple_up_to, instD, okT, tyOf, subT, tupT]
    | int b => simp [F_is_tuple_up_to, instD, okT, tyOf, subT, tupT]
    | str b => simp [F_is_tuple_up_to, instD, okT, tyOf, subT, tupT]
    | tup b =>
      simp [F_is_tuple_up_to, instD, okT, tyOf, subT, tupT]
      by_cases c : (2 : Int) ≤ b.length
      · have : 2 ≤ b.length := by omega
        simp [c, this]
        have e : ((b.length : Int) ≤ 4) = (b.length ≤ 4) := by simp; omega
        simp [e]
        exact fun _ h => absurd h (by omega)
      · have : ¬ 2 ≤ b.length := by omega
        simp [c, this]
        exact .inl (by omega)
    | _ => exact h.elim
end
end K48

set_option Elab.async false
set_option linter.all false
set_option maxRecDepth 100000
set_option maxHeartbeats 4000000
noncomputable section
namespace K48
open PySem PySem.Spec PyProof.Rows L2 Jm
def itm (q : Nat × D) : D := .tup [q.2, .int ((6 : Int) - q.1)]
def pyS (st : Stk) : List D := (st.map itm).reverse
theorem pyS_cons {q : Nat × D} {st : Stk} : pyS (q :: st) = pyS st ++ [itm q] := by unfold pyS; simp
theorem pyS_len {st : Stk} : (pyS st).length = st.length := by unfold pyS; simp
theorem pyS_push {r : Nat} {xs : List D} {st : Stk} : pyS (xs.reverse.map (fun x => (r, x)) ++ st) = pyS st ++ xs.map (fun x => itm (r, x)) := by
  unfold pyS
  rw [List.map_append, List.reverse_append, List.map_map, List.map_reverse, List.reverse_reverse]; rfl
theorem pyS_py {S S' : Sto} {p N : Nat} {st : Stk} (hN : N ≤ 60) (hE : Ext S S') (h : ∀ q ∈ st, gd S p N q.2) : ∀ x ∈ pyS st, ∃ y, pyV S' 63 x = some y := by
  intro x hx
  unfold pyS at hx
  rw [List.mem_reverse, List.mem_map] at hx
  obtain ⟨q, hq, rfl⟩ := hx
  have g : gd S' p (N + 1) (itm q) := ⟨by show 2 ≤ 200; decide, fun y hy => by
    rcases List.mem_cons.mp hy with e | hy
    · rw [e]; exact gd_mod (.of hE) (h q hq)
    · rcases List.mem_cons.mp hy with e | hy
      · rw [e]
        have : gd S' p N q.2 := gd_mod (.of hE) (h q hq)
        cases N with
        | zero => exact this.elim
        | succ N => trivial
      · cases hy⟩
  exact gd_py g (by omega)
theorem pyS_empty {st : Stk} : (pyS st).isEmpty = st.isEmpty := by cases st <;> simp [pyS]
section
variable {C : Nat → CF} {S : Sto} {p N : Nat} {v : D} {X : PX} {d : Nat}
theorem gd_sub {xs : List D} (h : gd S p N (.tup xs)) : ∀ x ∈ xs, gd S p N x := by
  cases N with
  | zero => exact h.elim
  | succ N => exact fun x hx => gd_mono (h.2 x hx) (by omega)
theorem tree_by_ok (U : Us C) (hN : N ≤ 60) (h : gd S p N v) : Wp (C (d + 4) 756 [v] S) (fun r S' => Ext S S' ∧ r = .bl (fin (lv 6 v))) X := by
  rw [U.u_is_tree_by]
  simp only [wp_runD, F_is_tree_by]
  refine ⟨rfl, ?_⟩
  refine wp_sq fun K hK => ?_
  simp
  rw [hK, then_nx]
  clear hK K
  refine wp_sq fun K hK => ?_
  refine wp_whileI (fun j n S' => ∃ (st : Stk) (idx : List Int) (o3 o4 o5 : Option D), j = ms st ∧ n = [some v, some (.loc S.length), some (.loc (S.length + 1)), o3, o4, o5] ∧ Ext S S' ∧ S'[S.length]? = some (.lst (idx.map .int)) ∧ S'[S.length + 1]? = some (.lst (pyS st)) ∧
    idx.length + ms st ≤ wt 6 ∧ (∀ q ∈ st, gd S p N q.2 ∧ q.1 ≤ 6) ∧ (∀ i ∈ idx, 0 ≤ i ∧ i ≤ 11) ∧ fin ((lvs st).map (idx ++ ·)) = fin (lv 6 v)) (wt 6) (fuel_of (by decide)) ?_ ?_
  · refine ⟨[(6, v)], [], none, none, none, ?_, rfl, ⟨_, rfl⟩, ?_, ?_, ?_, ?_, ?_, ?_⟩
    · rfl
    · simp
    · simp [pyS, itm]
    · show 0 + (wt 6 + 0) ≤ wt 6
      omega
    · intro q hq
      simp at hq
      subst hq
      exact ⟨h, Nat.le_refl _⟩
    · simp
    · have : (lvs [(6, v)]).map (([] : List Int) ++ ·) = lv 6 v := by
        show (match lv 6 v, some [] with | some a, some b => some (a ++ b) | _, _ => none).map _ = _
        cases lv 6 v <;> simp
      rw [this]
  · rintro j n S1 T hT ⟨st, idx, o3, o4, o5, rfl, rfl, hE, hi, hw, hm, hst, hidx, hfin⟩
    simp only [wp_eBl, wp_op2, wp_var, List.getElem?_cons_zero, List.getElem?_cons_succ, wp_opN, wp_all0, wp_mkLst, cmp_ne]
    refine ⟨by decide, ?_⟩
    have hl0 := get_lt hi
    have hl1 := get_lt hw
    rw [ne_nil (xs := pyS st) (Ext.rfl'.app.get hw) get_new (pyS_py hN hE.app fun q hq => (hst q hq).1)]
    simp only [wp_some]
    rw [pyS_empty]
    cases st with
    | nil =>
      refine ⟨fun z => (nomatch z), fun _ => ?_⟩
      rw [hK, then_nx]
      have hi2 := (Ext.rfl'.app (G := [O.lst []])).get hi
      simp
      rw [sorted_lst hi2]
      have hsl : (sortI idx).length = idx.length := (sortI_perm idx).length_eq
      have hil : idx.length ≤ 5461 := by
        have : wt 6 = 5461 := by decide
        omega
      simp only [wp_mkLst, List.length_map]
      refine ⟨by unfold LINE; omega, ?_⟩
      rw [len_lst (Ext.rfl'.app.get hi2)]
      simp only [wp_some, List.length_map]
      rw [wp_lstRg (by omega)]
      rw [rgD_eq]
      rw [eq_ints (as := sortI idx) (bs := rgI (idx.length : Int).toNat) (by simp) (by simp)]
      simp only [wp_some]
      refine ⟨hE.app.app.app, ?_⟩
      rw [← hfin]
      have : (lvs []).map (idx ++ ·) = some idx := by simp [lvs, cat]
      rw [this, fin_of hidx]; simp
    | cons q st =>
      refine ⟨fun _ => ?_, fun z => nomatch z⟩
      rw [pyS_cons] at hw
      obtain ⟨r, e⟩ := q
      have hq := hst (r, e) List.mem_cons_self
      refine wp_sq fun K2 hK2 => ?_
      have hw1 := (Ext.rfl'.app (G := [O.lst []])).get hw
      simp [hw1]
      rw [pop_lst hw1]
      simp [itm]
      rw [hK2, then_nx]
      clear hK2 K2
      have hE2 : Ext S ((S1 ++ [O.lst []]).set (S.length + 1) (O.lst (pyS st))) := hE.app.set (by omega)
      have hw2 : ((S1 ++ [O.lst []]).set (S.length + 1) (O.lst (pyS st)))[S.length + 1]? = some (.lst (pyS st)) := get_set hw1
      have hi2 : ((S1 ++ [O.lst []]).set (S.length + 1) (O.lst (pyS st)))[S.length]? = some (.lst (idx.map .int)) := get_ne ((Ext.rfl'.app (G := [O.lst []])).get hi) (by omega)
      generalize (S1 ++ [O.lst []]).set (S.length + 1) (O.lst (pyS st)) = S2 at hE2 hw2 hi2
      clear hE hw hi hl0 hl1 hw1
      have hg : gd S2 p N e := gd_mod (.of hE2) hq.1
      have hms : ms ((r, e) :: st) = wt r + ms st := ms_cons
      have hwp := wt_pos r
      refine wp_sq fun K3 hK3 => ?_
      have done : ∀ n' S', K3 (.nx n') S' = ∃ j', j' < ms ((r, e) :: st) ∧ ∃ (st : Stk) (idx : List Int) (o3 o4 o5 : Option D), j' = ms st ∧ n' = [some v, some (.loc S.length), some (.loc (S.length + 1)), o3, o4, o5] ∧ Ext S S' ∧ S'[S.length]? = some (.lst (idx.map .int)) ∧ S'[S.length + 1]? = some (.lst (pyS st)) ∧
          idx.length + ms st ≤ wt 6 ∧ (∀ q ∈ st, gd S p N q.2 ∧ q.1 ≤ 6) ∧ (∀ i ∈ idx, 0 ≤ i ∧ i ≤ 11) ∧ fin ((lvs st).map (idx ++ ·)) = fin (lv 6 v) := fun n' S' => by
        rw [hK3, then_nx, wp_sNil, hT, turn_nx]
      have stop : ∀ S', Ext S S' → fin (lv 6 v) = false → K3 (.rt (.bl false)) S' := fun S' h1 h2 => by
        rw [hK3, then_rt, wp_ok, hT, turn_rt, hK, then_rt, wp_ok]
        exact ⟨h1, by rw [h2]⟩
      have bad : lv r e = none → fin (lv 6 v) = false := fun h => by
        rw [← hfin, lvs_none h]; rfl
      simp
      rw [up_any U hg]
      simp
      refine ⟨fun hup => ?_, fun hup => ?_⟩
      · cases e with
        | int i =>
          have hb : 0 ≤ i ∧ i ≤ 11 := of_decide_eq_true hup
          simp [hi2]
          rw [app_lst hi2]
          have hm2 : idx.length < 6000 := by
            have : wt 6 = 5461 := by decide
            omega
          refine ⟨line_of (by simp; omega), ?_⟩
          rw [done]
          refine ⟨_, ?_, st, idx ++ [i], _, _, _, rfl, rfl, hE2.set (Nat.le_refl _), ?_, ?_, ?_, ?_, ?_, ?_⟩
          · omega
          · rw [get_set hi2]; simp
          · exact get_ne hw2 (by omega)
          · simp; omega
          · exact fun q hq => hst q (List.mem_cons_of_mem _ hq)
          · intro j hj
            rcases List.mem_append.mp hj with hj | hj
            · exact hidx j hj
            · simp at hj; subst hj; exact hb
          · rw [← hfin, lvs_int]
            congr 1
            cases lvs st <;> simp
        | _ => cases hup
      · rw [tup_any U hg]
        simp
        refine ⟨fun htp => ?_, fun htp => ?_⟩
        · cases e with
          | tup xs =>
            have hl : 2 ≤ xs.length ∧ xs.length ≤ 4 := of_decide_eq_true htp
            refine ⟨fun hr => ?_, fun hr => ?_⟩
            · simp [hw2, wipeD]
              obtain ⟨r, rfl⟩ : ∃ r', r = r' + 1 := ⟨r - 1, by omega⟩
              refine wp_fixMap (ys := xs.map fun x => itm (r, x)) (by simp) (by omega) ?_ ?_
              · intro i x y hx hy K hK4
                rw [List.getElem?_map, hx] at hy
                cases hy
                simp
                have : (6 : Int) - ((r + 1 : Nat) : Int) + 1 = 6 - (r : Int) := by omega
                simp [itm] at hK4
                rw [show (6 : Int) - ((r : Int) + 1) + 1 = 6 - r by omega]
                exact hK4
              · rw [extend_lst (xs := pyS st) (ys := xs.map fun x => itm (r, x)) (Ext.rfl'.app.get hw2) get_new]
                have hsl := ms_len (st := st)
                have : wt 6 = 5461 := by decide
                refine ⟨line_le (by rw [pyS_len]; simp; omega), ?_⟩
                rw [done]
                have e1 : ms (xs.reverse.map (fun x => (r, x)) ++ st) = xs.length * wt r + ms st := by rw [ms_app, ms_map]; simp
                have e2 : xs.length * wt r ≤ 4 * wt r := Nat.mul_le_mul_right _ hl.2
                have e3 : wt (r + 1) = 1 + 4 * wt r := rfl
                refine ⟨_, ?_, xs.reverse.map (fun x => (r, x)) ++ st, idx, _, _, _, rfl, rfl, (hE2.app).set (by omega), ?_, ?_, ?_, ?_, hidx, ?_⟩
                · omega
                · exact get_ne (Ext.rfl'.app.get hi2) (by omega)
                · rw [get_set (Ext.rfl'.app.get hw2), pyS_push]
                · omega
                · intro q hq2
                  rcases List.mem_append.mp hq2 with h2 | h2
                  · obtain ⟨x, hx, rfl⟩ := List.mem_map.mp h2
                    exact ⟨gd_sub hq.1 x (List.mem_reverse.mp hx), by have := hq.2; simp at this; omega⟩
                  · exact hst q (List.mem_cons_of_mem _ h2)
                · rw [← lvs_tup hl]; exact hfin
            · refine stop _ hE2 (bad ?_)
              have : r = 0 := by omega
              subst this
              rfl
          | _ => cases htp
        · refine stop _ hE2 ?_
          cases e with
          | int i =>
            have hb : ¬ (0 ≤ i ∧ i ≤ 11) := of_decide_eq_false hup
            rw [← hfin, lvs_int]
            cases hl : lvs st with
            | none => rfl
            | some ls =>
              cases hf : fin ((Option.map (fun x => i :: x) (some ls)).map (idx ++ ·)) with
              | false => rfl
              | true =>
                have := fin_mem (ls := idx ++ i :: ls) hf i (by simp)
                exact absurd this hb
          | tup xs =>
            refine bad ?_
            have hl : ¬ (2 ≤ xs.length ∧ xs.length ≤ 4) := of_decide_eq_false htp
            cases r with
            | zero => rfl
            | succ r => exact if_neg hl
          | _ => exact bad (by cases r <;> rfl)
end
end K48

set_option Elab.async false
set_option linter.all false
set_option maxRecDepth 100000
set_option maxHeartbeats 4000000
noncomputable section
namespace K48
open PySem PySem.Spec PyProof.Rows L2 Jm
def due (v : D) : D := if fin (lv 6 v) = true then .int (fk 6 v) else .non
section
variable {C : Nat → CF} {S : Sto} {p N : Nat} {v : D} {X : PX} {d : Nat}
theorem forks_ok (U : Us C) (hN : N ≤ 60) (h : gd S p N v) : Wp (C (d + 2) 179 [v] S) (fun r S' => Ext S S' ∧ r = due v) X := by
  rw [U.u__law_forks]
  simp only [wp_runD, F__law_forks]
  refine ⟨rfl, ?_⟩
  refine wp_sq fun K hK => ?_
  simp
  rw [hK, then_nx]
  clear hK K
  refine wp_sq fun K hK => ?_
  simp
  rw [hK, then_nx]
  clear hK K
  refine wp_sq fun K hK => ?_
  simp
  rw [hK, then_nx]
  clear hK K
  refine wp_sq fun K hK => ?_
  refine wp_whileI (fun j n S' => ∃ (st : Stk) (idx : List Int) (f w : Nat) (o3 o4 o5 : Option D), j = ms st ∧ n = [some v, some (.loc S.length), some (.int f), some (.loc w), o3, o4, o5] ∧ Ext S S' ∧ S'[S.length]? = some (.lst (idx.map .int)) ∧ S'[w]? = some (.lst (pyS st)) ∧ S.length < w ∧
    idx.length + ms st ≤ wt 6 ∧ (∀ q ∈ st, gd S p N q.2 ∧ q.1 ≤ 6) ∧ (∀ i ∈ idx, 0 ≤ i) ∧ idx.Nodup ∧ fin ((lvs st).map (idx ++ ·)) = fin (lv 6 v) ∧ f + fks st = fk 6 v) (wt 6) (fuel_of (by decide)) ?_ ?_
  · refine ⟨[(6, v)], [], 0, S.length + 1, none, none, none, ?_, rfl, ⟨_, rfl⟩, ?_, ?_, by omega, ?_, ?_, ?_, List.nodup_nil, ?_, ?_⟩
    · rfl
    · simp
    · simp [pyS, itm]
    · show 0 + (wt 6 + 0) ≤ wt 6
      omega
    · intro q hq
      simp at hq
      subst hq
      exact ⟨h, Nat.le_refl _⟩
    · simp
    · have : (lvs [(6, v)]).map (([] : List Int) ++ ·) = lv 6 v := by
        show (match lv 6 v, some [] with | some a, some b => some (a ++ b) | _, _ => none).map _ = _
        cases lv 6 v <;> simp
      rw [this]
    · simp [fks]
  · rintro j n S1 T hT ⟨st, idx, f, w, o3, o4, o5, rfl, rfl, hE, hi, hw, hlw, hm, hst, hidx, hnd, hfin, hfk⟩
    simp only [wp_eBl, wp_op2, wp_var, List.getElem?_cons_zero, List.getElem?_cons_succ, wp_opN, wp_all0, wp_mkLst, cmp_ne]
    refine ⟨by decide, ?_⟩
    have hl0 := get_lt hi
    have hl1 := get_lt hw
    rw [ne_nil (xs := pyS st) (Ext.rfl'.app.get hw) get_new (pyS_py hN hE.app fun q hq => (hst q hq).1)]
    simp only [wp_some]
    rw [pyS_empty]
    have hdue : fin (lv 6 v) = false → due v = .non := fun e => by unfold due; rw [e]; rfl
    cases st with
    | nil =>
      refine ⟨fun z => (nomatch z), fun _ => ?_⟩
      rw [hK, then_nx]
      have hi2 := (Ext.rfl'.app (G := [O.lst []])).get hi
      have hil : idx.length ≤ 5461 := by
        have : wt 6 = 5461 := by decide
        omega
      have hsl : (sortI idx).length = idx.length := (sortI_perm idx).length_eq
      have e1 : (lvs []).map (idx ++ ·) = some idx := by simp [lvs, cat]
      rw [e1] at hfin
      have hfk' : f = fk 6 v := by simpa [fks] using hfk
      refine wp_sq fun K3 hK3 => ?_
      simp
      rw [len_lst hi2]
      simp
      refine ⟨fun hgt => ?_, fun hle => ?_⟩
      · rw [hK3, then_rt, wp_ok]
        refine ⟨hE.app, (hdue ?_).symm⟩
        rw [← hfin]
        show decide _ = false
        rw [decide_eq_false_iff_not]
        omega
      · rw [sorted_lst hi2]
        simp only [wp_mkLst, List.length_map]
        refine ⟨by unfold LINE; omega, ?_⟩
        rw [len_lst (Ext.rfl'.app.get hi2)]
        simp only [wp_some, List.length_map]
        rw [wp_lstRg (by omega)]
        rw [rgD_eq]
        rw [ne_ints (as := sortI idx) (bs := rgI (idx.length : Int).toNat) (by simp) (by simp)]
        simp
        have e2 : fin (some idx) = decide (sortI idx = rgI idx.length) := by
          show decide (idx.length ≤ 12 ∧ sortI idx = rgI idx.length) = _
          have : idx.length ≤ 12 := by omega
          simp [this]
        refine ⟨fun hne => ?_, fun heq => ?_⟩
        · rw [hK3, then_rt, wp_ok]
          refine ⟨hE.app, (hdue ?_).symm⟩
          rw [← hfin, e2]; simpa using hne
        · rw [hK3, then_nx]
          simp
          refine ⟨hE.app, ?_⟩
          unfold due
          rw [← hfin, e2, hfk']; simp [heq]
    | cons q st =>
      refine ⟨fun _ => ?_, fun z => (nomatch z)⟩
      rw [pyS_cons] at hw
      obtain ⟨r, e⟩ := q
      have hq := hst (r, e) List.mem_cons_self
      refine wp_sq fun K2 hK2 => ?_
      have hw1 := (Ext.rfl'.app (G := [O.lst []])).get hw
      simp [hw1]
      rw [pop_lst hw1]
      simp [itm]
      rw [hK2, then_nx]
      clear hK2 K2
      have hE2 : Ext S ((S1 ++ [O.lst []]).set w (O.lst (pyS st))) := hE.app.set (by omega)
      have hw2 : ((S1 ++ [O.lst []]).set w (O.lst (pyS st)))[w]? = some (.lst (pyS st)) := get_set hw1
      have hi2 : ((S1 ++ [O.lst []]).set w (O.lst (pyS st)))[S.length]? = some (.lst (idx.map .int)) := get_ne ((Ext.rfl'.app (G := [O.lst []])).get hi) (by omega)
      generalize (S1 ++ [O.lst []]).set w (O.lst (pyS st)) = S2 at hE2 hw2 hi2
      clear hE hw hi hl0 hl1 hw1
      have hg : gd S2 p N e := gd_mod (.of hE2) hq.1
      have hms : ms ((r, e) :: st) = wt r + ms st := ms_cons
      have hwp := wt_pos r
      have hfk2 : f + (fk r e + fks st) = fk 6 v := by rw [← hfk, fks_cons]
      refine wp_sq fun K3 hK3 => ?_
      have done : ∀ n' S', K3 (.nx n') S' = ∃ j', j' < ms ((r, e) :: st) ∧ ∃ (st : Stk) (idx : List Int) (f w : Nat) (o3 o4 o5 : Option D), j' = ms st ∧ n' = [some v, some (.loc S.length), some (.int f), some (.loc w), o3, o4, o5] ∧ Ext S S' ∧ S'[S.length]? = some (.lst (idx.map .int)) ∧ S'[w]? = some (.lst (pyS st)) ∧ S.length < w ∧
          idx.length + ms st ≤ wt 6 ∧ (∀ q ∈ st, gd S p N q.2 ∧ q.1 ≤ 6) ∧ (∀ i ∈ idx, 0 ≤ i) ∧ idx.Nodup ∧ fin ((lvs st).map (idx ++ ·)) = fin (lv 6 v) ∧ f + fks st = fk 6 v := fun n' S' => by
        rw [hK3, then_nx, wp_sNil, hT, turn_nx]
      have stop : ∀ S', Ext S S' → fin (lv 6 v) = false → K3 (.rt .non) S' := fun S' h1 h2 => by
        rw [hK3, then_rt, wp_ok, hT, turn_rt, hK, then_rt, wp_ok]
        exact ⟨h1, (hdue h2).symm⟩
      have bad : lv r e = none → fin (lv 6 v) = false := fun h => by
        rw [← hfin, lvs_none h]; rfl
      have sure : ∀ i, e = .int i → (i < 0 ∨ i ∈ idx) → fin (lv 6 v) = false := by
        rintro i rfl hb
        rw [← hfin, lvs_int]
        cases hl : lvs st with
        | none => rfl
        | some ls =>
          cases hf : fin ((Option.map (fun x => i :: x) (some ls)).map (idx ++ ·)) with
          | false => rfl
          | true =>
            have h1 := fin_mem (ls := idx ++ i :: ls) hf i (by simp)
            have h2 := fin_nodup (ls := idx ++ i :: ls) hf
            rcases hb with hb | hb
            · omega
            · exact absurd rfl ((List.nodup_append.mp h2).2.2 i hb i List.mem_cons_self)
      cases N with
      | zero => exact hq.1.elim
      | succ N =>
        cases e with
        | tup xs =>
          simp [instD, okT, tyOf, subT]
          have no : (((xs.length : Int) < 2 ∨ 4 < (xs.length : Int)) ∨ (5 : Int) < 6 - r) → K3 (.rt .non) S2 := fun hc => by
            refine stop _ hE2 (bad ?_)
            cases r with
            | zero => rfl
            | succ r =>
              refine if_neg fun z => ?_
              omega
          refine ⟨fun c1 => ⟨fun c2 => no (by omega), fun c2 => ⟨fun c3 => no (by omega), fun c3 => ?_⟩⟩, fun c1 => no (by omega)⟩
          have hl : 2 ≤ xs.length ∧ xs.length ≤ 4 := by omega
          obtain ⟨r, rfl⟩ : ∃ r', r = r' + 1 := ⟨r - 1, by omega⟩
          simp only [wipeD]
          refine wp_fixMap (ys := xs.map fun x => itm (r, x)) (by simp) (by omega) ?_ ?_
          · intro i x y hx hy K hK4
            rw [List.getElem?_map, hx] at hy
            cases hy
            simp
            simp [itm] at hK4
            rw [show (6 : Int) - ((r : Int) + 1) + 1 = 6 - r by omega]
            exact hK4
          · rw [add_lst (xs := pyS st) (ys := xs.map fun x => itm (r, x)) (Ext.rfl'.app.get hw2) get_new]
            have hsl := ms_len (st := st)
            have : wt 6 = 5461 := by decide
            simp only [wp_mkLst]
            refine ⟨line_le (by simp [pyS_len]; omega), ?_⟩
            rw [done]
            have e1 : ms (xs.reverse.map (fun x => (r, x)) ++ st) = xs.length * wt r + ms st := by rw [ms_app, ms_map]; simp
            have e2 : xs.length * wt r ≤ 4 * wt r := Nat.mul_le_mul_right _ hl.2
            have e3 : wt (r + 1) = 1 + 4 * wt r := rfl
            refine ⟨_, ?_, xs.reverse.map (fun x => (r, x)) ++ st, idx, f + 1, _, _, _, _, rfl, rfl, hE2.app.app, ?_, ?_, ?_, ?_, ?_, hidx, hnd, ?_, ?_⟩
            · omega
            · exact Ext.rfl'.app.get (Ext.rfl'.app.get hi2)
            · rw [get_new, pyS_push]
            · have := get_lt hi2
              simp; omega
            · omega
            · intro q hq2
              rcases List.mem_append.mp hq2 with h2 | h2
              · obtain ⟨x, hx, rfl⟩ := List.mem_map.mp h2
                exact ⟨gd_sub hq.1 x (List.mem_reverse.mp hx), by have := hq.2; simp at this; omega⟩
              · exact hst q (List.mem_cons_of_mem _ h2)
            · rw [← lvs_tup hl]; exact hfin
            · rw [fks_app, fks_rev, ← hfk2]
              show _ = f + ((1 + (xs.map (fk r)).sum) + fks st)
              omega
        | int i =>
          simp [instD, okT, tyOf, subT, lwhole_any U hg]
          refine ⟨fun hb => stop _ hE2 (sure i rfl (.inl hb)), fun hb => ?_⟩
          rw [in_ints hi2]
          simp [hi2]
          refine ⟨fun hb => stop _ hE2 (sure i rfl (.inr hb)), fun hnb => ?_⟩
          rw [app_lst hi2]
          have hm2 : idx.length < 6000 := by
            have : wt 6 = 5461 := by decide
            omega
          refine ⟨line_of (by simp; omega), ?_⟩
          rw [done]
          refine ⟨_, ?_, st, idx ++ [i], f, w, _, _, _, rfl, rfl, hE2.set (Nat.le_refl _), ?_, ?_, hlw, ?_, ?_, ?_, ?_, ?_, ?_⟩
          · omega
          · rw [get_set hi2]; simp
          · exact get_ne hw2 (by omega)
          · simp; omega
          · exact fun q hq => hst q (List.mem_cons_of_mem _ hq)
          · intro j hj
            rcases List.mem_append.mp hj with hj | hj
            · exact hidx j hj
            · simp at hj; omega
          · rw [List.nodup_append]
            refine ⟨hnd, by simp, fun a ha b hb => ?_⟩
            simp at hb
            subst hb
            intro z
            subst z
            exact hnb ha
          · rw [← hfin, lvs_int]
            congr 1
            cases lvs st <;> simp
          · rw [← hfk2]
            have : fk r (.int i) = 0 := by cases r <;> rfl
            omega
        | loc l =>
          have hlv : lv r (.loc l) = none := by cases r <;> rfl
          have hg' := hg
          obtain ⟨h1, xs, h2, h3, h4⟩ := hg'
          simp [instD, okT, tyOf, subT, h2, lwhole_any U hg]
          exact stop _ hE2 (bad hlv)
        | fn i => exact hg.elim
        | ty t => exact hg.elim
        | exc c fs => exact hg.elim
        | rng a b => exact hg.elim
        | scr xs => exact hg.elim
        | non =>
          have hlv : lv r .non = none := by cases r <;> rfl
          simp [instD, okT, tyOf, subT, lwhole_any U hg]
          exact stop _ hE2 (bad hlv)
        | bl b =>
          have hlv : lv r (.bl b) = none := by cases r <;> rfl
          simp [instD, okT, tyOf, subT, lwhole_any U hg]
          exact stop _ hE2 (bad hlv)
        | str b =>
          have hlv : lv r (.str b) = none := by cases r <;> rfl
          simp [instD, okT, tyOf, subT, lwhole_any U hg]
          exact stop _ hE2 (bad hlv)
end
end K48

set_option Elab.async false
set_option linter.all false
set_option maxRecDepth 100000
set_option maxHeartbeats 4000000
noncomputable section
namespace K48
open PySem PySem.Spec PyProof.Rows L2 Jm
abbrev Nst := List (D × Nat × D)
def gh (st : Nst) : Stk := st.map fun q => q.2
def nI (q : D × Nat × D) : D := .tup [q.1, q.2.2]
def pyN (st : Nst) : List D := (st.map nI).reverse
theorem pyN_cons {q : D × Nat × D} {st : Nst} : pyN (q :: st) = pyN st ++ [nI q] := by unfold pyN; simp
theorem pyN_len {st : Nst} : (pyN st).length = st.length := by unfold pyN; simp
theorem pyN_push {a : D} {r : Nat} {xs : List D} {st : Nst} : pyN (xs.map (fun x => (a, r, x)) ++ st) = pyN st ++ xs.reverse.map (fun x => nI (a, r, x)) := by
  unfold pyN
  rw [List.map_append, List.reverse_append, List.map_map, List.map_reverse (l := xs)]; rfl
theorem pyN_py {S S' : Sto} {p N : Nat} {st : Nst} (hN : N ≤ 60) (hE : Ext S S') (h : ∀ q ∈ st, gd S p N q.1 ∧ gd S p N q.2.2) : ∀ x ∈ pyN st, ∃ y, pyV S' 63 x = some y := by
  intro x hx
  unfold pyN at hx
  rw [List.mem_reverse, List.mem_map] at hx
  obtain ⟨q, hq, rfl⟩ := hx
  have g : gd S' p (N + 1) (nI q) := ⟨by show 2 ≤ 200; decide, fun y hy => by
    rcases List.mem_cons.mp hy with e | hy
    · rw [e]; exact gd_mod (.of hE) (h q hq).1
    · rcases List.mem_cons.mp hy with e | hy
      · rw [e]; exact gd_mod (.of hE) (h q hq).2
      · cases hy⟩
  exact gd_py g (by omega)
theorem pyN_empty {st : Nst} : (pyN st).isEmpty = st.isEmpty := by cases st <;> simp [pyN]
/-- a tree by its shape -/
def sh (q : Nat × D) : Prop := lv q.1 q.2 ≠ none
def isT (d : D) : Bool := match d with
  | .tup _ => true
  | _ => false
def isF (q : D × D) : Bool := isT q.2
theorem cat_mem : ∀ {l : List (Option (List Int))}, cat l ≠ none → ∀ o ∈ l, o ≠ none
  | [], _, o, h => nomatch h
  | x :: l, h, o, ho => by
    have h : (match x, cat l with | some a, some b => some (a ++ b) | _, _ => none) ≠ none := h
    cases x with
    | none => exact absurd rfl h
    | some a =>
      cases hc : cat l with
      | none => rw [hc] at h; exact absurd rfl h
      | some b =>
        rcases List.mem_cons.mp ho with e | ho
        · rw [e]; exact fun z => nomatch z
        · exact cat_mem (by rw [hc]; exact fun z => nomatch z) o ho
theorem sh_tup {r : Nat} {xs : List D} (h : sh (r, .tup xs)) : ∃ r', r = r' + 1 ∧ (2 ≤ xs.length ∧ xs.length ≤ 4) ∧ ∀ x ∈ xs, sh (r', x) := by
  cases r with
  | zero => exact absurd rfl h
  | succ r =>
    refine ⟨r, rfl, ?_⟩
    by_cases hl : 2 ≤ xs.length ∧ xs.length ≤ 4
    · refine ⟨hl, fun x hx => ?_⟩
      have e : lv (r + 1) (.tup xs) = cat (xs.reverse.map (lv r)) := if_pos hl
      have h : lv (r + 1) (.tup xs) ≠ none := h
      rw [e] at h
      exact cat_mem h _ (List.mem_map.mpr ⟨x, List.mem_reverse.mpr hx, rfl⟩)
    · exact absurd (show lv (r + 1) (.tup xs) = none from if_neg hl) h
section
variable {C : Nat → CF} {S : Sto} {p N : Nat} {v : D} {X : PX} {d : Nat}
theorem nodes_ok (U : Us C) (hN : N ≤ 50) (h : gd S p (N + 1) v) (hs : lv 6 v ≠ none) : Wp (C (d + 1) 862 [v] S) (fun r S' => Ext S S' ∧ ∃ (k : Nat) (fs : List (D × D)), r = .loc k ∧ S'[k]? = some (.lst (fs.map fun q => .tup [q.1, q.2])) ∧ fs.length ≤ 5461 ∧ (fs.filter isF).length = fk 6 v ∧ ∀ q ∈ fs, gd S p (N + 1) q.2) X := by
  rw [U.u_nodes_of]
  simp only [wp_runD, F_nodes_of]
  refine ⟨rfl, ?_⟩
  refine wp_sq fun K hK => ?_
  simp
  rw [hK, then_nx]
  clear hK K
  refine wp_sq fun K hK => ?_
  refine wp_whileI (fun j n S' => ∃ (st : Nst) (fs : List (D × D)) (o3 o4 o5 : Option D), j = ms (gh st) ∧ n = [some v, some (.loc S.length), some (.loc (S.length + 1)), o3, o4, o5] ∧ Ext S S' ∧ S'[S.length]? = some (.lst (fs.map fun q => .tup [q.1, q.2])) ∧ S'[S.length + 1]? = some (.lst (pyN st)) ∧
    fs.length + ms (gh st) ≤ wt 6 ∧ (∀ q ∈ st, (gd S p (N + 1) q.1 ∧ gd S p (N + 1) q.2.2) ∧ sh q.2) ∧ (∀ q ∈ fs, gd S p (N + 1) q.2) ∧ (fs.filter isF).length + fks (gh st) = fk 6 v) (wt 6) (fuel_of (by decide)) ?_ ?_
  · refine ⟨[(.non, 6, v)], [], none, none, none, ?_, rfl, ⟨_, rfl⟩, ?_, ?_, ?_, ?_, ?_, ?_⟩
    · rfl
    · simp
    · simp [pyN, nI]
    · show 0 + (wt 6 + 0) ≤ wt 6
      omega
    · intro q hq
      simp at hq
      subst hq
      exact ⟨⟨trivial, h⟩, hs⟩
    · simp
    · simp [fks, gh]
  · rintro j n S1 T hT ⟨st, fs, o3, o4, o5, rfl, rfl, hE, hi, hw, hm, hst, hfs, hfk⟩
    simp only [wp_eBl, wp_op2, wp_var, List.getElem?_cons_zero, List.getElem?_cons_succ, wp_opN, wp_all0, wp_mkLst, cmp_ne]
    refine ⟨by decide, ?_⟩
    have hl0 := get_lt hi
    have hl1 := get_lt hw
    rw [ne_nil (xs := pyN st) (Ext.rfl'.app.get hw) get_new (pyN_py (N := N + 1) (by omega) hE.app fun q hq => (hst q hq).1)]
    simp only [wp_some]
    rw [pyN_empty]
    have hw6 : wt 6 = 5461 := by decide
    cases st with
    | nil =>
      refine ⟨fun z => (nomatch z), fun _ => ?_⟩
      rw [hK, then_nx]
      simp
      refine ⟨hE.app, fs, ?_, by omega, ?_, fun a b hab => hfs (a, b) hab⟩
      · exact (Ext.rfl'.app (G := [O.lst []])).get hi
      · simpa [fks, gh] using hfk
    | cons q st =>
      refine ⟨fun _ => ?_, fun z => (nomatch z)⟩
      rw [pyN_cons] at hw
      obtain ⟨a, r, e⟩ := q
      have hq := hst (a, r, e) List.mem_cons_self
      refine wp_sq fun K2 hK2 => ?_
      have hw1 := (Ext.rfl'.app (G := [O.lst []])).get hw
      simp [hw1]
      rw [pop_lst hw1]
      simp [nI]
      rw [hK2, then_nx]
      clear hK2 K2
      have hE2 : Ext S ((S1 ++ [O.lst []]).set (S.length + 1) (O.lst (pyN st))) := hE.app.set (by omega)
      have hw2 : ((S1 ++ [O.lst []]).set (S.length + 1) (O.lst (pyN st)))[S.length + 1]? = some (.lst (pyN st)) := get_set hw1
      have hi2 : ((S1 ++ [O.lst []]).set (S.length + 1) (O.lst (pyN st)))[S.length]? = some (.lst (fs.map fun q => .tup [q.1, q.2])) := get_ne ((Ext.rfl'.app (G := [O.lst []])).get hi) (by omega)
      generalize (S1 ++ [O.lst []]).set (S.length + 1) (O.lst (pyN st)) = S2 at hE2 hw2 hi2
      clear hE hw hi hl0 hl1 hw1
      have hg : gd S2 p (N + 1) e := gd_mod (.of hE2) hq.1.2
      have hms : ms (gh ((a, r, e) :: st)) = wt r + ms (gh st) := ms_cons
      have hwp := wt_pos r
      have hfk2 : (fs.filter isF).length + (fk r e + fks (gh st)) = fk 6 v := by
        rw [← hfk]
        show _ = _ + fks ((r, e) :: gh st)
        rw [fks_cons]
      have hsn : ((fs ++ [(a, e)]).filter isF).length = (fs.filter isF).length + (if isT e = true then 1 else 0) := by
        rw [List.filter_append]
        by_cases c : isT e = true
        · simp [isF, c]
        · simp [isF, c]
      have hfs2 : ∀ q ∈ fs ++ [(a, e)], gd S p (N + 1) q.2 := fun q hq2 => by
        rcases List.mem_append.mp hq2 with h2 | h2
        · exact hfs q h2
        · simp at h2; subst h2; exact hq.1.2
      have hlen := ms_len (st := gh st)
      have hgl : (gh st).length = st.length := by unfold gh; simp
      refine wp_sq fun K3 hK3 => ?_
      have app : ∀ S', Ext S S' → S'[S.length]? = some (.lst (fs.map fun q => .tup [q.1, q.2])) → ∀ o5 Q X', Q (.nx [some v, some (.loc S.length), some (.loc (S.length + 1)), some a, some e, o5]) (S'.set S.length (.lst ((fs ++ [(a, e)]).map fun q => .tup [q.1, q.2]))) →
          Wp (sSeq (sExp (eMeth .list appendD (eVar 1) [(eOpN mkTup [(eVar 3), (eVar 4)])])) sNil [some v, some (.loc S.length), some (.loc (S.length + 1)), some a, some e, o5] S') Q X' := fun S' hE' hi' o5 Q X' hq => by
        simp [hi']
        rw [app_lst hi']
        refine ⟨line_of (by simp; omega), ?_⟩
        simpa using hq
      cases e with
      | tup xs =>
        obtain ⟨r, rfl, hl, hxs⟩ := sh_tup hq.2
        simp [instD, okT, tyOf, subT, hw2, wipeD]
        refine ⟨by omega, ?_⟩
        refine wp_fixMap (ys := xs.reverse.map fun x => nI (.int (fs.length : Nat), r, x)) (by simp) (by simp; omega) ?_ ?_
        · intro i x y hx hy K hK4
          rw [List.getElem?_map, hx] at hy
          cases hy
          simp
          rw [len_lst hi2]
          simpa [nI] using hK4
        · rw [extend_lst (xs := pyN st) (ys := xs.reverse.map fun x => nI (.int (fs.length : Nat), r, x)) (Ext.rfl'.app.get hw2) get_new]
          refine ⟨line_le (by rw [pyN_len]; simp; omega), ?_⟩
          rw [hK3, then_nx]
          clear hK3 K3
          have hE3 : Ext S ((S2 ++ [O.lst (xs.reverse.map fun x => nI (.int (fs.length : Nat), r, x))]).set (S.length + 1) (O.lst (pyN st ++ xs.reverse.map fun x => nI (.int (fs.length : Nat), r, x)))) := hE2.app.set (by omega)
          have hw3 := get_set (o := O.lst (pyN st ++ xs.reverse.map fun x => nI (.int (fs.length : Nat), r, x))) (Ext.get (Ext.rfl'.app (G := [O.lst (xs.reverse.map fun x => nI (.int (fs.length : Nat), r, x))])) hw2)
          have hi3 := get_ne (o := O.lst (pyN st ++ xs.reverse.map fun x => nI (.int (fs.length : Nat), r, x))) (l := S.length + 1) (Ext.get (Ext.rfl'.app (G := [O.lst (xs.reverse.map fun x => nI (.int (fs.length : Nat), r, x))])) hi2) (by omega)
          refine app _ hE3 hi3 _ _ _ ?_
          rw [hT, turn_nx]
          have e1 : ms (gh (xs.map (fun x => ((.int (fs.length : Nat) : D), r, x)) ++ st)) = xs.length * wt r + ms (gh st) := by
            unfold gh
            rw [List.map_append, ms_app, List.map_map]
            exact congrArg (· + _) (ms_map (xs := xs))
          have e2 : xs.length * wt r ≤ 4 * wt r := Nat.mul_le_mul_right _ hl.2
          have e3 : wt (r + 1) = 1 + 4 * wt r := rfl
          refine ⟨_, ?_, xs.map (fun x => (.int (fs.length : Nat), r, x)) ++ st, fs ++ [(a, .tup xs)], _, _, _, rfl, rfl, hE3.set (Nat.le_refl _), get_set hi3, ?_, ?_, ?_, hfs2, ?_⟩
          · omega
          · rw [get_ne hw3 (by omega), pyN_push]
          · simp; omega
          · intro q hq2
            rcases List.mem_append.mp hq2 with h2 | h2
            · obtain ⟨x, hx, rfl⟩ := List.mem_map.mp h2
              exact ⟨⟨trivial, gd_sub hq.1.2 x hx⟩, hxs x hx⟩
            · exact hst q (List.mem_cons_of_mem _ h2)
          · rw [hsn, ← hfk2]
            have e4 : fks (gh (xs.map (fun x => ((.int (fs.length : Nat) : D), r, x)) ++ st)) = (xs.map (fk r)).sum + fks (gh st) := by
              unfold gh
              rw [List.map_append, fks_app, List.map_map]
              exact congrArg (· + _) (fks_map (xs := xs))
            rw [e4]
            show _ + 1 + _ = _ + ((1 + (xs.map (fk r)).sum) + _)
            omega
      | int i =>
        simp [instD, okT, tyOf, subT]
        rw [hK3, then_nx]
        clear hK3 K3
        refine app _ hE2 hi2 _ _ _ ?_
        rw [hT, turn_nx]
        refine ⟨_, ?_, st, fs ++ [(a, .int i)], _, _, _, rfl, rfl, hE2.set (Nat.le_refl _), get_set hi2, ?_, ?_, fun q hq => hst q (List.mem_cons_of_mem _ hq), hfs2, ?_⟩
        · omega
        · rw [get_ne hw2 (by omega)]
        · simp; omega
        · rw [hsn, ← hfk2]
          have : fk r (.int i) = 0 := by cases r <;> rfl
          rw [this]
          simp [isT]
      | _ => exact absurd (by cases r <;> rfl) hq.2
theorem fork_count_of_ok (U : Us C) (hN : N ≤ 50) (h : gd S p (N + 1) v) (hs : lv 6 v ≠ none) : Wp (C (d + 2) 678 [v] S) (fun r S' => Ext S S' ∧ r = .int (fk 6 v)) X := by
  rw [U.u_fork_count_of]
  simp only [wp_runD, F_fork_count_of]
  refine ⟨rfl, ?_⟩
  refine wp_sq fun K hK => ?_
  simp
  refine (nodes_ok U (d := d) hN h hs).of ?_
  rintro r S1 ⟨hE, k, fs, rfl, hk, hl, hf, hfs⟩
  rw [wp_val hk]
  refine wp_lstLc (xs := fs.map fun q => .tup [q.1, q.2]) (fun j a S' => S' = S1 ∧ a = ((fs.take j).filter isF).map fun q => .tup [q.1, q.2]) ⟨rfl, rfl⟩ (fuel_of (by simp; omega)) (fun j a S' h => by rw [h.1]; exact hk) ?_ ?_
  · rintro j x a S' hx ⟨rfl, rfl⟩
    rw [List.getElem?_map] at hx
    cases hy : fs[j]? with
    | none => rw [hy] at hx; cases hx
    | some q =>
      rw [hy] at hx
      cases hx
      have hg : gd S' p (N + 1) q.2 := gd_mod (.of hE) (hfs q (List.mem_of_getElem? hy))
      simp
      rw [U.u_is_fork]
      have e1 : Wp (F_is_fork (C d) [some (.tup [q.1, q.2])] S') (fun o S1 => o = .rt (.bl (isF q)) ∧ S1 = S') nX := by
        simp [F_is_fork]
        rw [idx_tup (y := q.2) (by rfl)]
        simp
        cases hq : q.2 with
        | loc l =>
          rw [hq] at hg
          obtain ⟨h1, xs, h2, h3, h4⟩ := hg
          simp [instD, okT, tyOf, subT, h2, isF, isT, hq]
        | non => simp [instD, okT, tyOf, subT, isF, isT, hq]
        | bl b => simp [instD, okT, tyOf, subT, isF, isT, hq]
        | int b => simp [instD, okT, tyOf, subT, isF, isT, hq]
        | str b => simp [instD, okT, tyOf, subT, isF, isT, hq]
        | tup b => simp [instD, okT, tyOf, subT, isF, isT, hq]
        | _ => rw [hq] at hg; exact hg.elim
      simp
      refine e1.of ?_
      rintro o S2 ⟨rfl, rfl⟩
      have hlen : ((fs.take j).filter isF).length < 16777216 := by
        have := List.length_filter_le isF (fs.take j)
        rw [List.length_take] at this
        omega
      simp
      refine ⟨fun hb => ⟨hlen, ?_⟩, fun hb => ?_⟩
      · rw [List.take_add_one, hy, List.filter_append]; simp [hb]
      · rw [List.take_add_one, hy, List.filter_append]; simp [hb]
  · rintro a S' ⟨rfl, rfl⟩
    rw [len_lst get_new]
    simp
    rw [hK, then_rt, wp_ok]
    refine ⟨hE.app, ?_⟩
    rw [hf]
theorem is_tree_ok (U : Us C) (hN : N ≤ 60) (h : gd S p N v) : Wp (C (d + 5) 755 [v] S) (fun r S' => Ext S S' ∧ r = .bl (fin (lv 6 v))) X := by
  rw [U.u_is_tree]
  simp only [wp_runD, F_is_tree]
  refine ⟨rfl, ?_⟩
  refine wp_sq fun K hK => ?_
  simp
  refine (tree_by_ok U (d := d) hN h).of ?_
  rintro r S1 ⟨hE, rfl⟩
  rw [hK, then_rt, wp_ok]
  exact ⟨hE, rfl⟩
theorem fork_count_ok (U : Us C) (hN : N ≤ 50) (h : gd S p (N + 1) v) : Wp (C (d + 6) 677 [v] S) (fun r S' => Ext S S' ∧ fin (lv 6 v) = true ∧ r = .int (fk 6 v)) (fun c fs S' => Ext S S' ∧ fin (lv 6 v) = false ∧ c = 100077 ∧ fs = [v]) := by
  rw [U.u_fork_count]
  simp only [wp_runD, F_fork_count]
  refine ⟨rfl, ?_⟩
  refine wp_sq fun K hK => ?_
  simp
  rw [U.u_check_tree]
  simp only [wp_runD, F_check_tree]
  refine ⟨rfl, ?_⟩
  refine wp_sq fun K2 hK2 => ?_
  simp
  refine (tree_by_ok U (N := N + 1) (d := d) (by omega) h).of ?_
  rintro r S1 ⟨hE, rfl⟩
  simp
  refine ⟨fun hb => ?_, fun hb => ?_⟩
  · rw [hK2, then_er, wp_ok]
    dsimp only
    rw [hK, then_er, wp_ok]
    exact ⟨hE, hb, rfl, rfl⟩
  · rw [hK2, then_nx, wp_sNil]
    dsimp only
    rw [hK, then_nx]
    simp
    refine (fork_count_of_ok U (d := d + 3) hN (gd_mod (.of hE) h) ?_).of ?_
    · intro z
      rw [z] at hb
      cases hb
    · rintro r S2 ⟨hE2, rfl⟩
      exact ⟨hE.trans hE2, hb, rfl⟩
end
end K48

set_option Elab.async false
set_option linter.all false
set_option maxRecDepth 100000
set_option maxHeartbeats 4000000
noncomputable section
namespace K48
open PySem PySem.Spec PyProof.Rows L2 Jm
theorem eq_ss {S : Sto} {x y : Str} (h : PyData.strOk x = true) (h2 : PyData.strOk y = true) : eqD (.str x) (.str y) S = some (.bl (x == y), S) := by
  unfold eqD
  have e1 : pyV S 64 (.str x) = some (.str x) := by show (if PyData.strOk x = true then _ else _) = _; rw [if_pos h]
  have e2 : pyV S 64 (.str y) = some (.str y) := by show (if PyData.strOk y = true then _ else _) = _; rw [if_pos h2]
  rw [e1, e2]; rfl
theorem ne_bb {S : Sto} {a b : Bool} : neD (.bl a) (.bl b) S = some (.bl (!(a == b)), S) := rfl
theorem put_0 {S : Sto} {l : Nat} {x y z : D} (h : S[l]? = some (.lst [x, y])) : putD (.loc l) (.int 0) z S = some (S.set l (.lst [z, y])) := put_lst (i := 0) h (by simp)
theorem put_1 {S : Sto} {l : Nat} {x y z : D} (h : S[l]? = some (.lst [x, y])) : putD (.loc l) (.int 1) z S = some (S.set l (.lst [x, z])) := put_lst (i := 1) h (by simp)
section
variable {C : Nat → CF} {S : Sto} {p N : Nat} {v : D} {X : PX} {d : Nat}
theorem alike_seq {k : Nat} {xs : List D} (hl : xs.length ≤ 200) {cf : CF} {u : D} {n : En} (hn0 : n[0]? = some (some u)) (hn1 : n[1]? = some (some u)) (hn2 : n.length = 3)
    (hidx : ∀ S', Ext S S' → ∀ (j : Nat) x, xs[j]? = some x → idxD u (.int j) S' = some (x, S'))
    (hx : ∀ x ∈ xs, ∀ S', Ext S S' → Wp (cf 35 [x, x] S') (fun r S2 => Ext S' S2 ∧ r = .bl true) nX) {QL : List D → Sto → Prop} (hq : ∀ S', Ext S S' → QL (List.replicate xs.length (.bl true)) S') :
    Wp (lcF (.rng 0 1 xs.length) (gNam 2) tTru (eCall (cf 35) [(eOp2 idxD (eVar 0) (eVar 2)), (eOp2 idxD (eVar 1) (eVar 2))]) n FUEL 0 [] S) QL X := by
  refine wp_rngLc (fun j a S' => Ext S S' ∧ a = List.replicate j (.bl true)) ⟨Ext.rfl', rfl⟩ (fuel_of (by omega)) ?_ ?_
  · rintro j a S' hj ⟨hE, rfl⟩
    have hx' := List.getElem?_eq_getElem hj
    have e := hidx S' hE j _ hx'
    have f0 : (n.set 2 (some (.int (0 + (j : Int)))))[0]? = some (some u) := by rw [List.getElem?_set_ne (by omega)]; exact hn0
    have f1 : (n.set 2 (some (.int (0 + (j : Int)))))[1]? = some (some u) := by rw [List.getElem?_set_ne (by omega)]; exact hn1
    have f2 : (n.set 2 (some (.int (0 + (j : Int)))))[2]? = some (some (.int j)) := by rw [List.getElem?_set_self (by omega), Int.zero_add]
    simp only [wp_gNam, wp_tTru, wp_call, wp_all, wp_op2, wp_var, f0, f1, f2, e, wp_some, wp_all0]
    refine ⟨fun _ => ?_, fun z => nomatch z⟩
    refine (hx _ (List.getElem_mem hj) S' hE).of ?_
    rintro r S2 ⟨hE2, rfl⟩
    refine ⟨line_of (by simp; omega), hE.trans hE2, ?_⟩
    rw [List.replicate_succ']
  · rintro a S' ⟨hE, rfl⟩
    exact hq S' hE
theorem all_true {k m : Nat} (h : S[k]? = some (.lst (List.replicate m (.bl true)))) : quanD (fun bs => bs.all id) [.loc k] S = some (.bl true, S) := by
  have : List.replicate m (D.bl true) = (List.replicate m true).map D.bl := by rw [List.map_replicate]
  rw [this] at h
  rw [quan_lst h]
  simp
theorem alike_ok (U : Us C) : ∀ {n : Nat} {v : D} {S : Sto} {X : PX}, gd S p n v → n ≤ 60 → Wp (C (d + n) 35 [v, v] S) (fun r S' => Ext S S' ∧ r = .bl true) X
  | 0, _, _, _, h, _ => h.elim
  | n + 1, v, S, X, h, hn => by
    show Wp (C ((d + n) + 1) 35 [v, v] S) _ _
    rw [U.u__law_alike]
    simp only [wp_runD, F__law_alike]
    refine ⟨rfl, ?_⟩
    cases v with
    | non => simp [instD, okT, tyOf, subT, Ext.rfl']
    | bl b => simp [instD, okT, tyOf, subT, Ext.rfl']
    | int b => simp [instD, okT, tyOf, subT, Ext.rfl']
    | str b =>
      have h : PyData.strOk b = true := h
      simp [instD, okT, tyOf, subT, Ext.rfl']
      rw [eq_ss h h]
      simp [Ext.rfl']
    | tup xs =>
      obtain ⟨h1, h2⟩ := h
      simp [instD, okT, tyOf, subT, ne_bb, tysOf, wipeD]
      refine ⟨by omega, ?_⟩
      refine alike_seq (k := 0) (n := [some (.tup xs), some (.tup xs), none]) h1 rfl rfl rfl (fun S' _ j x hx => idx_tup (atI_nat hx)) (fun x hx S' hE => alike_ok U (gd_mod (.of hE) (h2 x hx)) (by omega)) fun S' hE => ?_
      rw [all_true get_new]
      simp
      exact hE.app
    | loc l =>
      obtain ⟨h0, xs, h3, h1, h2⟩ := h
      simp [instD, okT, tyOf, subT, ne_bb, tysOf, h3, len_lst h3, wipeD]
      refine ⟨by omega, ?_⟩
      refine alike_seq (k := 0) (n := [some (.loc l), some (.loc l), none]) h1 rfl rfl rfl (fun S' hE j x hx => idx_lst (hE.get h3) (atI_nat hx)) (fun x hx S' hE => alike_ok U (gd_mod (.of hE) (h2 x hx)) (by omega)) fun S' hE => ?_
      rw [all_true get_new]
      simp
      exact hE.app
    | _ => exact h.elim
theorem says_bb (U : Us C) {a b : Bool} {Q : D → Sto → Prop} : Wp (C (d + 1) 396 [.bl a, .bl b] S) Q X = Q (.bl (a == b)) S := by
  rw [U.u__law_says]
  simp [F__law_says, instD, okT, tyOf, subT]
def told (v : D) : D := if fin (lv 6 v) = true then .tup [.str "value", .int (fk 6 v)] else .tup [.str "tree", v]
theorem said_ok (U : Us C) (hN : N ≤ 50) (h : gd S p (N + 1) v) {b : Bool} : Wp (C (d + 7) 393 [v, .bl b] S) (fun r S' => Ext S S' ∧ r = told v) X := by
  have hcm : (if (100077 : Nat) ∈ md.cl then md.sub.lookup ((100077 : Nat), (100077 : Nat)) else none) = some true := by decide +kernel
  rw [U.u__law_said]
  simp only [wp_runD, F__law_said]
  refine ⟨rfl, ?_⟩
  refine wp_sq fun K hK => ?_
  rw [wp_sTry]
  have hc := gd_clean h
  have catch_ : ∀ S' n, Ext S S' → fin (lv 6 v) = false → n = [some v, some (.bl b), none] → Wp (runCl [⟨fun i => if i ∈ md.cl then md.sub.lookup (i, 100077) else none, some 2, (sSeq (sRet (eOpN mkTup [(eCst (.str "tree")), (eFld "given" (eVar 2))])) sNil)⟩,
    ⟨fun i => if i ∈ md.cl then md.sub.lookup (i, 100088) else none, none, (sSeq (sRet (eOpN mkTup [(eCst (.str "other")), (eCst .non)])) sNil)⟩] 100077 [v] n S') K nX := by
    rintro S' n hE hf rfl
    unfold runCl
    dsimp only
    rw [hcm]
    have e : (sSeq (sRet (eOpN mkTup [(eCst (.str "tree")), (eFld "given" (eVar 2))])) sNil) (onD [some v, some (.bl b), none] (.exc 100077 [v]) (some 2)) S' = .ok (.rt (.tup [.str "tree", v])) S' := rfl
    show Wp (finCl (some 2) S' ((sSeq (sRet (eOpN mkTup [(eCst (.str "tree")), (eFld "given" (eVar 2))])) sNil) (onD [some v, some (.bl b), none] (.exc 100077 [v]) (some 2)) S')) K nX
    rw [e]
    unfold finCl
    dsimp only
    rw [if_pos ⟨rfl, .tup fun x hx => by
      simp at hx
      rcases hx with rfl | rfl
      · exact .str _
      · exact hc⟩, wp_ok, hK, then_rt, wp_ok]
    refine ⟨hE, ?_⟩
    unfold told
    rw [hf]; rfl
  have ok_ : ∀ S', Ext S S' → fin (lv 6 v) = true → K (.rt (.tup [.str "value", .int (fk 6 v)])) S' := fun S' hE hf => by
    rw [hK, then_rt, wp_ok]
    refine ⟨hE, ?_⟩
    unfold told
    rw [hf]; rfl
  cases b with
  | true =>
    simp [arr]
    refine (fork_count_ok U (d := d) hN h).imp ?_ ?_
    · rintro r S1 ⟨hE, hf, rfl⟩
      exact ok_ S1 hE hf
    · rintro c fs S1 ⟨hE, hf, rfl, rfl⟩
      exact catch_ S1 _ hE hf rfl
  | false =>
    simp
    refine (fork_count_ok U (d := d) hN h).imp ?_ ?_
    · rintro r S1 ⟨hE, hf, rfl⟩
      exact ok_ S1 hE hf
    · rintro c fs S1 ⟨hE, hf, rfl, rfl⟩
      exact catch_ S1 _ hE hf rfl
def isPool (S : Sto) (l : Nat) : Prop := ∃ a b : Int, S[l]? = some (.lst [.int a, .int b])
theorem take_ok (U : Us C) {l m : Nat} (hl : isPool S l) (h1 : 1 ≤ m) (h2 : m ≤ 1000) : Wp (C (d + 1) 431 [.loc l, .int m] S) (fun r S' => Mod l S S' ∧ isPool S' l ∧ ∃ k : Nat, r = .int k ∧ k < m) X := by
  obtain ⟨a, b, hl⟩ := hl
  have fin_ : ∀ t : Int, ∃ k : Nat, D.int (t % m) = .int k ∧ k < m := fun t => by
    have e1 := Int.emod_nonneg t (b := (m : Int)) (by omega)
    have e2 := Int.emod_lt_of_pos t (b := (m : Int)) (by omega)
    exact ⟨(t % m).toNat, by rw [Int.toNat_of_nonneg e1], by omega⟩
  rw [U.u__law_take]
  simp only [wp_runD, F__law_take]
  refine ⟨rfl, ?_⟩
  refine wp_sq fun K hK => ?_
  have e0 : idxD (.loc l) (.int 0) S = some (.int a, S) := idx_lst hl (by rfl)
  simp [e0, put_0 hl]
  refine ⟨fun hgt => ?_, fun hle => ?_⟩
  · refine ⟨by omega, divOk_of (by omega) (by omega), ?_⟩
    rw [hK, then_rt, wp_ok]
    exact ⟨Mod.rfl'.setp, ⟨_, _, get_set hl⟩, fin_ a⟩
  · rw [hK, then_nx]
    clear hK K
    refine wp_sq fun K hK => ?_
    simp
    rw [hK, then_nx]
    clear hK K
    refine wp_sq fun K hK => ?_
    simp
    rw [hK, then_nx]
    clear hK K
    refine wp_sq fun K hK => ?_
    refine wp_whileI (fun j n S' => j ≤ 2 ∧ ∃ (t : Int), n = [some (.loc l), some (.int m), some (.int t), some (.int (16777216 ^ (2 - j)))] ∧ Mod l S S' ∧ isPool S' l) 2 (fuel_of (by decide)) ⟨Nat.le_refl _, 0, rfl, Mod.rfl', ⟨_, _, hl⟩⟩ ?_
    rintro j n S1 T hT ⟨hj, t, rfl, hM, a, b, hl1⟩
    simp
    refine ⟨mulOk_l (by decide), fun hlt => ?_, fun hge => ?_⟩
    · have hl2 := get_set (o := .lst [.int a, .int ((b * 6364136223846793005 + 1442695040888963407) % 18446744073709551616)]) hl1
      have e1 : idxD (.loc l) (.int 1) S1 = some (.int b, S1) := idx_lst hl1 (by rfl)
      have e2 : idxD (.loc l) (.int 1) (S1.set l (.lst [.int a, .int ((b * 6364136223846793005 + 1442695040888963407) % 18446744073709551616)])) = some (.int ((b * 6364136223846793005 + 1442695040888963407) % 18446744073709551616), _) := idx_lst hl2 (by rfl)
      simp [e1, put_1 hl1, e2]
      refine ⟨mulOk_r (by decide), mulOk_r (by decide), divOk_of (by decide) (by decide), mulOk_r (by decide), ?_⟩
      rw [hT, turn_nx]
      obtain ⟨j, rfl⟩ : ∃ i, j = i + 1 := by
        cases j with
        | zero =>
          exfalso
          have : (16777216 : Int) ^ 2 = 281474976710656 := by decide
          simp at hlt
          omega
        | succ i => exact ⟨i, rfl⟩
      have hp : (16777216 : Int) ^ (2 - (j + 1)) * 16777216 = (16777216 : Int) ^ (2 - j) := by
        have : 2 - j = (2 - (j + 1)) + 1 := by omega
        rw [this, Int.pow_succ]
      rw [hp]
      exact ⟨j, by omega, by omega, _, rfl, hM.setp, ⟨_, _, hl2⟩⟩
    · rw [hK, then_nx]
      simp
      refine ⟨by omega, hM, ⟨_, _, hl1⟩, ?_⟩
      obtain ⟨k, e, h⟩ := fin_ t
      exact ⟨k, by simpa using e, h⟩
theorem pool_ok (U : Us C) {ns : List Int} {j : Nat} (hn : ns.length ≤ 63) : Wp (C (d + 1) 356 [.scr (ns.map .int), .int j] S) (fun r S' => Ext S S' ∧ ∃ k, r = .loc k ∧ S.length ≤ k ∧ isPool S' k) X := by
  rw [U.u__law_pool]
  simp only [wp_runD, F__law_pool]
  refine ⟨rfl, ?_⟩
  refine wp_sq fun K hK => ?_
  simp
  refine ⟨mulOk_l (by decide), mulOk_l (by decide), ?_⟩
  rw [hK, then_nx]
  clear hK K
  have hcell : ∀ c : Int, ∀ K : Out → Sto → Prop, (∀ n c, n = [some (.scr (ns.map .int)), some (.int j), some (.int c), none, none] → K (.nx n) S) → Wp (sIf (eBl (eOp2 (cmpD .Lt) (eVar 1) (eOpN lenD [(eVar 0)])))
    (sSeq (sAsgn (eOp2 idxD (eVar 0) (eVar 1)) (gNam 2))
    sNil)
    sNil [some (.scr (ns.map .int)), some (.int j), some (.int c), none, none] S) K nX := fun c K hK => by
    simp
    refine ⟨fun hlt => ?_, fun _ => hK _ c rfl⟩
    have hlt : j < ns.length := by omega
    rw [idx_scr (y := .int ns[j]) (atI_nat (by rw [List.getElem?_map, List.getElem?_eq_getElem hlt]; rfl))]
    simp
    exact hK _ _ rfl
  refine wp_sq fun K hK => ?_
  refine hcell _ K ?_
  rintro _ c rfl
  rw [hK, then_nx]
  clear hK K
  refine wp_sq fun K hK => ?_
  simp
  rw [hK, then_nx]
  clear hK K
  generalize hz : (if c < 0 then -c else c) = z
  refine wp_sq fun K hK => ?_
  simp
  refine ⟨mulOk_r (by decide), mulOk_l (by decide), mulOk_l (by decide), ?_⟩
  rw [hK, then_nx]
  clear hK K
  refine wp_sq fun K hK => ?_
  simp
  refine ⟨fun hge => ⟨mulOk_l (by decide), ?_⟩, fun hlt => ?_⟩
  · rw [hK, then_rt, wp_ok]
    exact ⟨Ext.rfl'.app, _, rfl, Nat.le_refl _, _, _, get_new⟩
  · rw [hK, then_nx]
    simp
    exact ⟨_, _, get_new⟩
end
end K48

set_option Elab.async false
set_option linter.all false
set_option maxRecDepth 100000
set_option maxHeartbeats 4000000
noncomputable section
namespace K48
open PySem PySem.Spec PyProof.Rows L2 Jm
def tr : Nat → D → Prop
  | 0, _ => False
  | n + 1, d => match d with
    | .int _ => True
    | .tup xs => 1 ≤ xs.length ∧ xs.length ≤ 4 ∧ ∀ x ∈ xs, tr n x
    | _ => False
theorem tr_mono : ∀ {n m : Nat} {d : D}, tr n d → n ≤ m → tr m d
  | 0, _, _, h, _ => h.elim
  | n + 1, 0, _, _, h => absurd h (by omega)
  | n + 1, m + 1, d, h, hm => by
    cases d with
    | tup xs => exact ⟨h.1, h.2.1, fun x hx => tr_mono (h.2.2 x hx) (by omega)⟩
    | _ => exact h
theorem tr_gd {S : Sto} {p : Nat} : ∀ {n : Nat} {d : D}, tr n d → gd S p n d
  | 0, _, h => h.elim
  | n + 1, d, h => by
    cases d with
    | tup xs => exact ⟨by have := h.2.1; omega, fun x hx => tr_gd (h.2.2 x hx)⟩
    | int i => trivial
    | _ => exact h.elim
theorem tr_pair {n : Nat} {a b : D} (ha : tr n a) (hb : tr n b) : tr (n + 1) (.tup [a, b]) := by
  refine ⟨by simp, by simp, fun x hx => ?_⟩
  simp at hx
  rcases hx with rfl | rfl
  · exact ha
  · exact hb
theorem tr_int {n : Nat} {i : Int} : tr (n + 1) (.int i) := trivial
theorem cut_lo {xs : List D} {k : Nat} : Jm.cutD xs (some (k : Int)) none = xs.drop k := by
  unfold Jm.cutD
  rw [HT.sIx_none, HT.sIx_nat]
  by_cases h : k ≤ xs.length
  · rw [Nat.min_eq_left h]
    exact List.take_of_length_le (by rw [List.length_drop]; omega)
  · rw [Nat.min_eq_right (by omega), Nat.sub_self, List.take_zero, List.drop_of_length_le (by omega)]
theorem cut_hi {xs : List D} {k : Nat} : Jm.cutD xs none (some (k : Int)) = xs.take k := by
  unfold Jm.cutD
  rw [HT.sIx_none, HT.sIx_nat, Nat.sub_zero, List.drop_zero]
  by_cases h : k ≤ xs.length
  · rw [Nat.min_eq_left h]
  · rw [Nat.min_eq_right (by omega), List.take_length, List.take_of_length_le (by omega)]
section
variable {C : Nat → CF} {S : Sto} {p N : Nat} {v : D} {X : PX} {d : Nat}
/-- what a draw leaves -/
def Dr (l : Nat) (S S' : Sto) : Prop := Mod l S S' ∧ isPool S' l
theorem Dr.get {l k : Nat} {S S' : Sto} {o : O} (h : Dr l S S') (hk : k ≠ l) (e : S[k]? = some o) : S'[k]? = some o := h.1.2 k o hk e
theorem dr_take (U : Us C) {l m : Nat} (hl : isPool S l) (h1 : 1 ≤ m) (h2 : m ≤ 1000) : Wp (C (d + 1) 431 [.loc l, .int m] S) (fun r S' => Dr l S S' ∧ ∃ k : Nat, r = .int k ∧ k < m) X :=
  (take_ok U hl h1 h2).q fun r S' h => ⟨⟨h.1, h.2.1⟩, h.2.2⟩
theorem pool_app {l : Nat} {G : Sto} (h : isPool S l) : isPool (S ++ G) l := by
  obtain ⟨a, b, h⟩ := h
  exact ⟨a, b, Ext.rfl'.app.get h⟩
theorem pool_set {l k : Nat} {o : O} (h : isPool S l) (hk : k ≠ l) : isPool (S.set k o) l := by
  obtain ⟨a, b, h⟩ := h
  exact ⟨a, b, get_ne h hk⟩
theorem pool_lt {l : Nat} (h : isPool S l) : l < S.length := by
  obtain ⟨a, b, h⟩ := h
  exact get_lt h
theorem deep_ok (U : Us C) {m : Nat} (hm : m ≤ 20) : Wp (C (d + 1) 145 [.int m] S) (fun r S' => S' = S ∧ tr (m + 1) r) X := by
  rw [U.u__law_deep]
  simp only [wp_runD, F__law_deep]
  refine ⟨rfl, ?_⟩
  refine wp_sq fun K hK => ?_
  simp
  rw [hK, then_nx]
  clear hK K
  refine wp_sq fun K hK => ?_
  simp
  refine ⟨by omega, ?_⟩
  refine wp_rngL (fun i n S' => S' = S ∧ ∃ t o, n = [some (.int m), some t, o] ∧ tr (i + 1) t) ⟨rfl, .int 0, none, rfl, tr_int⟩ (fuel_of (by omega)) ?_ ?_
  · rintro i n S' T hT hi ⟨rfl, t, o, rfl, ht⟩
    simp
    rw [hT, turn_nx]
    exact ⟨rfl, _, _, rfl, tr_pair ht tr_int⟩
  · rintro n S' ⟨rfl, t, o, rfl, ht⟩
    rw [hK, then_nx]
    simp
    exact ht
end
end K48

set_option Elab.async false
set_option linter.all false
set_option maxRecDepth 100000
set_option maxHeartbeats 4000000
noncomputable section
namespace K48
open PySem PySem.Spec PyProof.Rows L2 Jm
section
variable {C : Nat → CF} {S : Sto} {p N : Nat} {v : D} {X : PX} {d : Nat}
def body1 (cf : CF) : E Out := (sSeq (sAsgn (eOpN (aggD minI) [(eOpN lenD [(eVar 7)]), (eOp2 addD (eCst (.int 2)) (eCall (cf 431) [(eVar 0), (eCst (.int 3))]))]) (gNam 8))
    (sSeq (sAsgn (eOpN tupleD [(eLc (iRng rng1 [(eVar 8)]) [10] (gNam 10) tTru (eMeth .list popXD (eVar 7) [(eCall (cf 431) [(eVar 0), (eOpN lenD [(eVar 7)])])]))]) (gNam 9))
    (sSeq (sIf (eBl (eOp2 (cmpD .Eq) (eVar 8) (eCst (.int 1))))
    (sSeq (sExp (eMeth .list appendD (eVar 6) [(eOp2 idxD (eVar 9) (eCst (.int 0)))]))
    sNil)
    (sSeq (sExp (eMeth .list appendD (eVar 6) [(eVar 9)]))
    sNil))
    sNil)))
def loop1 (cf : CF) : E Out := sWhile (eBl (eOp2 (cmpD .NotEq) (eVar 7) (eOpN mkLst []))) (body1 cf)
/-- one round: the items are put together in groups -/
theorem round_ok (U : Us C) {l q r dp : Nat} {ys : List D} {o0 o1 o2 o3 o4 o5 o8 o9 o10 : Option D} {Q : Out → Sto → Prop} (hp : isPool S l) (hql : q ≠ l) (hrl : r ≠ l) (hqr : q ≠ r) (hq : S[q]? = some (.lst ys)) (hr : S[r]? = some (.lst [])) (hy1 : 2 ≤ ys.length) (hy2 : ys.length ≤ 12)
    (hys : ∀ x ∈ ys, tr dp x) (hdp : dp ≤ 20)
    (hQ : ∀ zs o8 o9 o10 S', isPool S' l → (∀ k o, k ≠ l → k ≠ q → k ≠ r → S[k]? = some o → S'[k]? = some o) → S.length ≤ S'.length → S'[r]? = some (.lst zs) → 1 ≤ zs.length → zs.length < ys.length → (∀ x ∈ zs, tr (dp + 1) x) → Q (.nx [some (.loc l), o1, o2, o3, o4, o5, some (.loc r), some (.loc q), o8, o9, o10]) S') :
    Wp (loop1 (C (d + 1)) [some (.loc l), o1, o2, o3, o4, o5, some (.loc r), some (.loc q), o8, o9, o10] S) Q X := by
  unfold loop1
  refine wp_whileI (fun j n S' => ∃ (ys' zs : List D) (o8 o9 o10 : Option D), j = ys'.length ∧ n = [some (.loc l), o1, o2, o3, o4, o5, some (.loc r), some (.loc q), o8, o9, o10] ∧ isPool S' l ∧ (∀ k o, k ≠ l → k ≠ q → k ≠ r → S[k]? = some o → S'[k]? = some o) ∧ S.length ≤ S'.length ∧
    S'[q]? = some (.lst ys') ∧ S'[r]? = some (.lst zs) ∧ (∀ x ∈ ys', tr dp x) ∧ (∀ x ∈ zs, tr (dp + 1) x) ∧ 1 ≤ zs.length + ys'.length ∧ (2 * zs.length + ys'.length ≤ ys.length ∨ (ys'.length = 0 ∧ 2 * zs.length ≤ ys.length + 1))) ys.length (fuel_of (by omega)) ?_ ?_
  · exact ⟨ys, [], _, _, _, rfl, rfl, hp, fun _ _ _ _ _ h => h, Nat.le_refl _, hq, hr, hys, by simp, by simp; omega, .inl (by simp)⟩
  rintro j n S1 T hT ⟨ys', zs, p8, p9, p10, rfl, rfl, hp1, hfr, hle, hq1, hr1, hys1, hzs1, hge, hbd⟩
  simp only [wp_eBl, wp_op2, wp_var, List.getElem?_cons_zero, List.getElem?_cons_succ, wp_opN, wp_all0, wp_mkLst, cmp_ne]
  refine ⟨by decide, ?_⟩
  rw [ne_nil (xs := ys') (Ext.rfl'.app.get hq1) get_new (fun x hx => gd_py (S := S1 ++ [O.lst []]) (p := l) (tr_gd (hys1 x hx)) (by omega))]
  simp only [wp_some]
  have hlt1 := get_lt hq1
  have hlt2 := get_lt hr1
  have hlt3 := pool_lt hp1
  by_cases hemp : ys' = []
  · subst hemp
    refine ⟨fun z => (nomatch z), fun _ => ?_⟩
    refine hQ zs p8 p9 p10 _ (pool_app hp1) (fun k o a b c e => Ext.rfl'.app.get (hfr k o a b c e)) (by simp; omega) (Ext.rfl'.app.get hr1) ?_ ?_ hzs1
    · simp at hge; omega
    · simp at hbd; omega
  · have hpos : 1 ≤ ys'.length := List.length_pos_iff.mpr hemp
    refine ⟨fun _ => ?_, fun z => by simp [hemp] at z⟩
    have hp2 : isPool (S1 ++ [O.lst []]) l := pool_app hp1
    have hfr2 : ∀ k o, k ≠ l → k ≠ q → k ≠ r → S[k]? = some o → (S1 ++ [O.lst []])[k]? = some o := fun k o a b c e => Ext.rfl'.app.get (hfr k o a b c e)
    have hle2 : S.length ≤ (S1 ++ [O.lst []]).length := by simp; omega
    have hq2 := (Ext.rfl'.app (G := [O.lst []])).get hq1
    have hr2 := (Ext.rfl'.app (G := [O.lst []])).get hr1
    clear hlt1 hlt2 hlt3 hp1 hfr hle hq1 hr1
    generalize S1 ++ [O.lst []] = S2 at hp2 hfr2 hle2 hq2 hr2
    unfold body1
    refine wp_sq fun K hK => ?_
    simp
    rw [len_lst hq2]
    simp
    refine (dr_take U (m := 3) hp2 (by decide) (by decide)).of ?_
    rintro rr S3 ⟨hD, t, rfl, ht⟩
    simp
    rw [hK, then_nx]
    clear hK K
    have hp3 := hD.2
    have hfr3 : ∀ k o, k ≠ l → k ≠ q → k ≠ r → S[k]? = some o → S3[k]? = some o := fun k o a b c e => hD.get a (hfr2 k o a b c e)
    have hle3 : S.length ≤ S3.length := Nat.le_trans hle2 hD.1.1
    have hq3 := hD.get hql hq2
    have hr3 := hD.get hrl hr2
    clear hD hp2 hfr2 hle2 hq2 hr2
    obtain ⟨s, hs, hs1, hs2, hs3⟩ : ∃ s : Nat, minI [(ys'.length : Int), 2 + t] = s ∧ s ≤ ys'.length ∧ 1 ≤ s ∧ s ≤ 4 ∧ (ys'.length = 1 ∨ 2 ≤ s) := by
      refine ⟨(minI [(ys'.length : Int), 2 + t]).toNat, ?_⟩
      by_cases c : (2 : Int) + t < ys'.length
      · simp only [minI, if_pos c]; omega
      · simp only [minI, if_neg c]; omega
    rw [hs]
    refine wp_sq fun K hK => ?_
    simp
    refine ⟨by omega, ?_⟩
    simp only [wipeD]
    refine wp_rngC (fun i a S' => ∃ ys2 : List D, isPool S' l ∧ (∀ k o, k ≠ l → k ≠ q → k ≠ r → S[k]? = some o → S'[k]? = some o) ∧ S.length ≤ S'.length ∧ S'[q]? = some (.lst ys2) ∧ S'[r]? = some (.lst zs) ∧ (∀ x ∈ ys2, tr dp x) ∧ (∀ x ∈ a, tr dp x) ∧ a.length = i ∧ ys2.length + i = ys'.length)
      ⟨ys', hp3, hfr3, hle3, hq3, hr3, hys1, by simp, rfl, rfl⟩ (fuel_of (by omega)) ?_ ?_
    · rintro i a S' K2 hK2 hi ⟨ys2, a1, a2, a3, a4, a5, a6, a7, a8, a9⟩
      simp [a4]
      rw [len_lst a4]
      simp
      refine (dr_take U (m := ys2.length) a1 (by omega) (by omega)).of ?_
      rintro rr S4 ⟨hD, t, rfl, ht⟩
      have hx := List.getElem?_eq_getElem ht
      have b4 := hD.get hql a4
      rw [popI_lst b4 hx (by omega), wp_some, hK2]
      refine ⟨line_of (by omega), ys2.eraseIdx t, pool_set hD.2 hql, ?_, ?_, get_set b4, get_ne (hD.get hrl a5) hqr, ?_, ?_, ?_, ?_⟩
      · exact fun k o x1 x2 x3 e => get_ne (hD.get x1 (a2 k o x1 x2 x3 e)) (Ne.symm x2)
      · rw [List.length_set]; exact Nat.le_trans a3 hD.1.1
      · exact fun x hx => a6 x (List.mem_of_mem_eraseIdx hx)
      · intro x hx2
        rcases List.mem_append.mp hx2 with hx2 | hx2
        · exact a7 x hx2
        · simp at hx2; subst hx2; exact a6 _ (List.getElem_mem ht)
      · simp; omega
      · rw [List.length_eraseIdx, if_pos ht]; omega
    · rintro a S' ⟨ys2, a1, a2, a3, a4, a5, a6, a7, a8, a9⟩
      rw [tuple_lst get_new]
      simp
      refine ⟨by omega, ?_⟩
      rw [hK, then_nx]
      clear hK K
      have c1 : isPool (S' ++ [O.lst a]) l := pool_app a1
      have c2 : ∀ k o, k ≠ l → k ≠ q → k ≠ r → S[k]? = some o → (S' ++ [O.lst a])[k]? = some o := fun k o x y z e => Ext.rfl'.app.get (a2 k o x y z e)
      have c3 : S.length ≤ (S' ++ [O.lst a]).length := by simp; omega
      have c4 := (Ext.rfl'.app (G := [O.lst a])).get a4
      have c5 := (Ext.rfl'.app (G := [O.lst a])).get a5
      clear a1 a2 a3 a4 a5
      generalize S' ++ [O.lst a] = S5 at c1 c2 c3 c4 c5
      have put : ∀ z, tr (dp + 1) z → T (.nx [some (.loc l), o1, o2, o3, o4, o5, some (.loc r), some (.loc q), some (.int s), some (.tup a), p10]) (S5.set r (.lst (zs ++ [z]))) := fun z hz => by
        rw [hT, turn_nx]
        refine ⟨ys2.length, by omega, ys2, zs ++ [z], _, _, _, rfl, rfl, pool_set c1 hrl, ?_, ?_, get_ne c4 (Ne.symm hqr), get_set c5, a6, ?_, ?_, ?_⟩
        · exact fun k o x y w e => get_ne (c2 k o x y w e) (Ne.symm w)
        · rw [List.length_set]; exact c3
        · intro x hx
          rcases List.mem_append.mp hx with hx | hx
          · exact hzs1 x hx
          · simp at hx; subst hx; exact hz
        · simp; omega
        · rw [List.length_append, List.length_singleton]; omega
      refine wp_sq fun K hK => ?_
      simp
      refine ⟨fun he => ?_, fun hne => ?_⟩
      · have he1 : s = 1 := by omega
        obtain ⟨x, rfl⟩ : ∃ x, a = [x] := by
          match a, a8, he1 with
          | [x], _, _ => exact ⟨x, rfl⟩
          | [], h, e => simp at h; omega
          | _ :: _ :: _, h, e => simp at h; omega
        simp [c5]
        rw [idx_tup (y := x) (by rfl)]
        simp
        rw [app_lst c5]
        refine ⟨line_of (by omega), ?_⟩
        rw [hK, then_nx, wp_sNil]
        exact put x (tr_mono (a7 x (by simp)) (by omega))
      · simp [c5]
        rw [app_lst c5]
        refine ⟨line_of (by omega), ?_⟩
        rw [hK, then_nx, wp_sNil]
        exact put (.tup a) ⟨by omega, by omega, a7⟩
end
end K48

set_option Elab.async false
set_option linter.all false
set_option maxRecDepth 100000
set_option maxHeartbeats 4000000
noncomputable section
namespace K48
open PySem PySem.Spec PyProof.Rows L2 Jm
section
variable {C : Nat → CF} {S : Sto} {p N : Nat} {v : D} {X : PX} {d : Nat}
theorem mod_frame {l q r : Nat} {S S1 S2 : Sto} (h : Mod l S S1) (hq : S.length ≤ q) (hr : S.length ≤ r) (hl : S1.length ≤ S2.length) (hf : ∀ k o, k ≠ l → k ≠ q → k ≠ r → S1[k]? = some o → S2[k]? = some o) : Mod l S S2 :=
  ⟨Nat.le_trans h.1 hl, fun k o hk e => by
    have := get_lt e
    exact hf k o hk (by omega) (by omega) (h.2 k o hk e)⟩
theorem tree_ok (U : Us C) {l m : Nat} (hp : isPool S l) (h1 : 1 ≤ m) (h2 : m ≤ 12) : Wp (C (d + 2) 447 [.loc l, .int m] S) (fun r S' => Dr l S S' ∧ tr 13 r) X := by
  have hll := pool_lt hp
  rw [U.u__law_tree]
  simp only [wp_runD, F__law_tree]
  refine ⟨rfl, ?_⟩
  refine wp_sq fun K hK => ?_
  simp only [wp_sAsgn, wp_op1, wp_var, List.map_cons, List.map_nil, List.getElem?_cons_zero, List.getElem?_cons_succ, List.cons_append]
  rw [wp_lstRg (by omega), Int.toNat_natCast]
  simp
  rw [hK, then_nx]
  clear hK K
  have hk := get_new (S := S) (o := .lst (rgD m))
  have hM : Mod l S (S ++ [O.lst (rgD m)]) := Mod.rfl'.app
  have hp1 : isPool (S ++ [O.lst (rgD m)]) l := pool_app hp
  generalize S ++ [O.lst (rgD m)] = S1 at hk hM hp1
  refine wp_sq fun K hK => ?_
  simp
  refine (dr_take U (m := m) hp1 (by omega) (by omega)).of ?_
  rintro rr S2 ⟨hD, at_, rfl, hat⟩
  rw [hK, then_nx]
  clear hK K
  have hk2 := hD.get (by omega) hk
  have hM2 := hM.trans hD.1
  have hp2 := hD.2
  clear hk hM hp1 hD
  refine wp_sq fun K hK => ?_
  simp
  rw [slc_lst hk2, cut_lo]
  have hgl : (rgD m).length = m := by unfold rgD; simp
  simp only [wp_mkLst]
  refine ⟨line_le (by simp [hgl]; omega), ?_⟩
  rw [slc_lst (Ext.rfl'.app.get hk2), cut_hi]
  simp only [wp_mkLst]
  refine ⟨line_le (by simp [hgl]; omega), ?_⟩
  rw [rev_lst get_new]
  simp only [wp_mkLst]
  refine ⟨line_le (by simp [hgl]; omega), ?_⟩
  rw [add_lst (Ext.rfl'.app.get (Ext.rfl'.app.get get_new)) get_new]
  simp only [wp_mkLst]
  refine ⟨line_le (by simp [hgl]; omega), ?_⟩
  rw [hK, then_nx]
  clear hK K
  obtain ⟨its, hits⟩ : ∃ its, its = (rgD m).drop at_ ++ ((rgD m).take at_).reverse := ⟨_, rfl⟩
  have hlen : its.length = m := by rw [hits]; simp [hgl]; omega
  have hint : ∀ x ∈ its, tr 1 x := by
    intro x hx
    have : x ∈ rgD m := by
      rw [hits] at hx
      rcases List.mem_append.mp hx with hx | hx
      · exact List.mem_of_mem_drop hx
      · exact List.mem_of_mem_take (List.mem_reverse.mp hx)
    obtain ⟨i, _, rfl⟩ := List.mem_map.mp this
    trivial
  rw [← hits]
  have hk3 := get_new (S := S2 ++ [O.lst ((rgD m).drop at_)] ++ [O.lst ((rgD m).take at_)] ++ [O.lst ((rgD m).take at_).reverse]) (o := .lst its)
  have hM3 : Mod l S (S2 ++ [O.lst ((rgD m).drop at_)] ++ [O.lst ((rgD m).take at_)] ++ [O.lst ((rgD m).take at_).reverse] ++ [O.lst its]) := hM2.app.app.app.app
  have hp3 : isPool (S2 ++ [O.lst ((rgD m).drop at_)] ++ [O.lst ((rgD m).take at_)] ++ [O.lst ((rgD m).take at_).reverse] ++ [O.lst its]) l := pool_app (pool_app (pool_app (pool_app hp2)))
  have hki : S.length ≤ (S2 ++ [O.lst ((rgD m).drop at_)] ++ [O.lst ((rgD m).take at_)] ++ [O.lst ((rgD m).take at_).reverse]).length := by
    have := hM2.1
    simp; omega
  generalize S2 ++ [O.lst ((rgD m).drop at_)] ++ [O.lst ((rgD m).take at_)] ++ [O.lst ((rgD m).take at_).reverse] ++ [O.lst its] = S3 at hk3 hM3 hp3
  generalize (S2 ++ [O.lst ((rgD m).drop at_)] ++ [O.lst ((rgD m).take at_)] ++ [O.lst ((rgD m).take at_).reverse]).length = ki at hk3 hki
  clear hk2 hp2 hits hM2
  have hkl : ki ≠ l := by omega
  refine wp_sq fun K hK => ?_
  have rest : ∀ o4 o5 S4, Dr l S S4 → S4[ki]? = some (.lst its) → K (.nx [some (.loc l), some (.int m), some (.loc ki), some (.int at_), o4, o5, none, none, none, none, none]) S4 := by
    intro o4 o5 S4 hD4 hk4
    rw [hK, then_nx]
    clear hK K
    refine wp_sq fun K hK => ?_
    refine wp_whileI (fun j n S' => ∃ (xs : List D) (k dp : Nat) (o6 o7 o8 o9 o10 : Option D), j = xs.length ∧ n = [some (.loc l), some (.int m), some (.loc k), some (.int at_), o4, o5, o6, o7, o8, o9, o10] ∧ Dr l S S' ∧ k ≠ l ∧ S'[k]? = some (.lst xs) ∧ 1 ≤ xs.length ∧ dp + xs.length ≤ 13 ∧ xs.length ≤ 12 ∧ ∀ x ∈ xs, tr dp x)
      m (fuel_of (by omega)) ⟨its, ki, 1, none, none, none, none, none, hlen.symm, rfl, hD4, hkl, hk4, by omega, by omega, by omega, hint⟩ ?_
    rintro j n S5 T hT ⟨xs, k, dp, o6, o7, o8, o9, o10, rfl, rfl, hD5, hkl5, hk5, hx1, hx2, hx3, hxs⟩
    simp only [wp_eBl, wp_op2, wp_opN, wp_all, wp_all0, wp_var, wp_cst, List.getElem?_cons_zero, List.getElem?_cons_succ, cmp_gt]
    rw [len_lst hk5]
    simp only [wp_some, gt_ii, decide_eq_true_eq, decide_eq_false_iff_not]
    refine ⟨fun hgt => ?_, fun hle => ?_⟩
    · refine wp_sq fun K2 hK2 => ?_
      simp
      rw [hK2, then_nx]
      clear hK2 K2
      refine wp_sq fun K2 hK2 => ?_
      simp
      rw [list_lst (Ext.rfl'.app.get hk5)]
      simp
      refine ⟨by omega, ?_⟩
      rw [hK2, then_nx]
      clear hK2 K2
      refine wp_sq fun K2 hK2 => ?_
      have hl5 := pool_lt hD5.2
      have hll5 := hD5.1.1
      refine round_ok (S := S5 ++ [O.lst [], O.lst xs]) (q := S5.length + 1) (r := S5.length) (ys := xs) (dp := dp) (o0 := none) U (pool_app hD5.2) (by omega) (by omega) (by omega) (by simp) (by simp) (by omega) hx3 hxs (by omega) ?_
      intro zs p8 p9 p10 S6 hp6 hfr hle6 hr6 hz1 hz2 hzs
      rw [hK2, then_nx]
      simp
      rw [hT, turn_nx]
      refine ⟨zs.length, by omega, zs, S5.length, dp + 1, _, _, _, _, _, rfl, rfl, ⟨mod_frame (hD5.1.app (G := [O.lst [], O.lst xs])) (q := S5.length + 1) (r := S5.length) (by omega) (by omega) hle6 hfr, hp6⟩, by omega, hr6, hz1, by omega, by omega, hzs⟩
    · rw [hK, then_nx]
      obtain ⟨x, rfl⟩ : ∃ x, xs = [x] := by
        match xs, hx1, hle with
        | [x], _, _ => exact ⟨x, rfl⟩
        | [], h, _ => simp at h
        | _ :: _ :: _, _, h => simp at h; omega
      simp
      rw [idx_lst hk5 (y := x) (by rfl)]
      simp
      exact ⟨hD5, tr_mono (hxs x (by simp)) (by omega)⟩
  simp
  refine ⟨fun c1 => ⟨fun c2 => ?_, fun c2 => rest _ _ _ ⟨hM3, hp3⟩ hk3⟩, fun c1 => rest _ _ _ ⟨hM3, hp3⟩ hk3⟩
  refine (dr_take U (m := 4) hp3 (by decide) (by decide)).of ?_
  rintro rr S4 ⟨hD4, t, rfl, _⟩
  have hD4' : Dr l S S4 := ⟨hM3.trans hD4.1, hD4.2⟩
  have hk4 := hD4.get hkl hk3
  simp
  refine ⟨fun c3 => ?_, fun c3 => rest _ _ _ hD4' hk4⟩
  have e0 : idxD (.loc ki) (.int 0) S4 = some (its[0]'(by omega), S4) := idx_lst hk4 (atI_nat (j := 0) (List.getElem?_eq_getElem (by omega)))
  have e1 : idxD (.loc ki) (.int 1) S4 = some (its[1]'(by omega), S4) := idx_lst hk4 (atI_nat (j := 1) (List.getElem?_eq_getElem (by omega)))
  simp [e0, e1]
  rw [slc_lst hk4]
  have e2 : Jm.cutD its (some 2) none = its.drop 2 := cut_lo (k := 2)
  rw [e2]
  simp
  refine ⟨by omega, ?_⟩
  rw [wp_val get_new]
  have hS4 := pool_lt hD4.2
  have hdl : (its.drop 2).length = m - 2 := by simp [hlen]
  refine wp_lstL (xs := its.drop 2) (fun i n S' => ∃ t o5, n = [some (.loc l), some (.int m), some (.loc ki), some (.int at_), some t, o5, none, none, none, none, none] ∧ Dr l S S' ∧ S'[S4.length]? = some (.lst (its.drop 2)) ∧ tr (2 + i) t)
    ⟨_, _, rfl, ⟨hD4'.1.app, pool_app hD4'.2⟩, get_new, tr_pair (hint _ (List.getElem_mem _)) (hint _ (List.getElem_mem _))⟩ (fuel_of (by omega)) (fun i n S' ⟨_, _, _, _, h, _⟩ => h) ?_ ?_
  · rintro i x n S' T hT hx ⟨t, o5, rfl, hD5, hk5, ht⟩
    simp
    refine (dr_take U (m := 2) hD5.2 (by decide) (by decide)).of ?_
    rintro rr S6 ⟨hD6, b, rfl, hb⟩
    have hxt : tr 1 x := hint x (List.mem_of_mem_drop (List.mem_of_getElem? hx))
    have ht1 : tr (2 + (i + 1)) (.tup [t, x]) := tr_pair (n := 2 + i) ht (tr_mono hxt (by omega))
    have ht2 : tr (2 + (i + 1)) (.tup [x, t]) := tr_pair (n := 2 + i) (tr_mono hxt (by omega)) ht
    have hD7 : Dr l S S6 := ⟨hD5.1.trans hD6.1, hD6.2⟩
    have hk6 := hD6.get (by omega) hk5
    obtain rfl | rfl : b = 0 ∨ b = 1 := by omega
    · rw [idx_tup (y := .tup [t, x]) (by rfl)]
      simp
      rw [hT, turn_nx]
      exact ⟨_, _, rfl, hD7, hk6, ht1⟩
    · rw [idx_tup (y := .tup [x, t]) (by rfl)]
      simp
      rw [hT, turn_nx]
      exact ⟨_, _, rfl, hD7, hk6, ht2⟩
  · rintro n S' ⟨t, o5, rfl, hD5, hk5, ht⟩
    simp
    rw [hK, then_rt, wp_ok]
    exact ⟨hD5, tr_mono ht (by omega)⟩
end
end K48

set_option Elab.async false
set_option linter.all false
set_option maxRecDepth 100000
set_option maxHeartbeats 4000000
noncomputable section
namespace K48
open PySem PySem.Spec PyProof.Rows L2 Jm
section
variable {C : Nat → CF} {S : Sto} {p N : Nat} {v : D} {X : PX} {d : Nat}
theorem eq_any {n : Nat} {s : Str} (h : gd S p n v) (hn : n ≤ 64) (hs : PyData.strOk s = true) : ∃ b, eqD v (.str s) S = some (.bl b, S) := by
  obtain ⟨y, e⟩ := gd_py h hn
  have e2 : pyV S 64 (.str s) = some (.str s) := by show (if PyData.strOk s = true then _ else _) = _; rw [if_pos hs]
  unfold eqD
  rw [e, e2]
  exact ⟨_, rfl⟩
abbrev Way := List (List D × Nat)
def wI (q : List D × Nat) : D := .tup [.tup q.1, .int q.2]
def wOk (q : List D × Nat) : Prop := q.2 < q.1.length ∧ q.1.length ≤ 4 ∧ ∀ x ∈ q.1, tr 13 x
theorem wI_py {S' : Sto} {way : Way} (h : ∀ q ∈ way, wOk q) : ∀ x ∈ way.map wI, ∃ y, pyV S' 63 x = some y := by
  intro x hx
  obtain ⟨q, hq, rfl⟩ := List.mem_map.mp hx
  obtain ⟨h1, h2, h3⟩ := h q hq
  have g : gd S' 0 15 (wI q) := ⟨by show 2 ≤ 200; decide, fun y hy => by
    rcases List.mem_cons.mp hy with e | hy
    · rw [e]; exact ⟨by omega, fun z hz => tr_gd (h3 z hz)⟩
    · rcases List.mem_cons.mp hy with e | hy
      · rw [e]; trivial
      · cases hy⟩
  exact gd_py g (by omega)
theorem gd_set2 {l q : Nat} {o : O} : ∀ {n : Nat} {f : D}, gd S l n f → gd S q n f → gd (S.set q o) l n f ∧ gd (S.set q o) q n f
  | 0, _, h, _ => h.elim
  | n + 1, f, h, h' => by
    cases f with
    | tup xs => exact ⟨⟨h.1, fun x hx => (gd_set2 (h.2 x hx) (h'.2 x hx)).1⟩, ⟨h.1, fun x hx => (gd_set2 (h.2 x hx) (h'.2 x hx)).2⟩⟩
    | loc k =>
      obtain ⟨h1, xs, h2, h3, h4⟩ := h
      obtain ⟨h1', xs', h2', h3', h4'⟩ := h'
      have e := h2.symm.trans h2'
      cases e
      have e2 : (S.set q o)[k]? = some (.lst xs) := by rw [List.getElem?_set_ne (Ne.symm h1')]; exact h2
      exact ⟨⟨h1, xs, e2, h3, fun x hx => (gd_set2 (h4 x hx) (h4' x hx)).1⟩, ⟨h1', xs, e2, h3, fun x hx => (gd_set2 (h4 x hx) (h4' x hx)).2⟩⟩
    | _ => first | exact ⟨trivial, trivial⟩ | exact ⟨h, h⟩
theorem changed_ok (U : Us C) {l q : Nat} {t : D} (hp : isPool S l) (hq : q < S.length) (ht : tr 13 t) (hv : ∀ S p, gd S p 10 v) : Wp (C (d + 2) 120 [.loc l, t, v] S) (fun r S' => Dr l S S' ∧ gd S' l 40 r ∧ gd S' q 40 r) X := by
  have hll := pool_lt hp
  rw [U.u__law_changed]
  simp only [wp_runD, F__law_changed]
  refine ⟨rfl, ?_⟩
  refine wp_sq fun K hK => ?_
  simp
  rw [hK, then_nx]
  clear hK K
  refine wp_sq fun K hK => ?_
  simp
  rw [hK, then_nx]
  clear hK K
  refine wp_sq fun K hK => ?_
  refine wp_whileI (fun j n S' => ∃ (part : D) (way : Way) (o5 o6 o7 : Option D), tr j part ∧ j ≤ 13 ∧ way.length + j ≤ 13 ∧ n = [some (.loc l), some t, some v, some (.loc S.length), some part, o5, o6, o7] ∧ Dr l S S' ∧ S'[S.length]? = some (.lst (way.map wI)) ∧ ∀ q ∈ way, wOk q)
    13 (fuel_of (by decide)) ⟨t, [], none, none, none, ht, by omega, by simp, rfl, ⟨Mod.rfl'.app, pool_app hp⟩, by simp, by simp⟩ ?_
  rintro j n S1 T hT ⟨part, way, o5, o6, o7, htr, hj, hwl, rfl, hD, hw, hway⟩
  have stop : ∀ S2 o5 o6 o7, Dr l S S2 → S2[S.length]? = some (.lst (way.map wI)) → K (.nx [some (.loc l), some t, some v, some (.loc S.length), some part, o5, o6, o7]) S2 := by
    clear hT T hw hD S1
    intro S2 o5 o6 o7 hD hw
    rw [hK, then_nx]
    clear hK K
    have hv2 : gd S2 l 10 v := hv _ _
    have hpg : ∀ {S' p}, gd S' p 13 part := fun {S' p} => tr_gd (tr_mono htr hj)
    refine wp_sq fun K hK => ?_
    simp
    rw [hK, then_nx]
    clear hK K
    refine wp_sq fun K hK => ?_
    have aft : ∀ S3 f, Dr l S S3 → S3[S.length]? = some (.lst (way.map wI)) → (gd S3 l 15 f ∧ gd S3 S.length 15 f ∧ gd S3 q 15 f) → K (.nx [some (.loc l), some t, some v, some (.loc S.length), some part, some f, o6, o7]) S3 := by
      clear hw hD hv2 S2
      intro S2 f hD hw hf
      rw [hK, then_nx]
      clear hK K
      refine wp_sq fun K hK => ?_
      have aft : ∀ S3 f, Dr l S S3 → S3[S.length]? = some (.lst (way.map wI)) → (gd S3 l 15 f ∧ gd S3 S.length 15 f ∧ gd S3 q 15 f) → K (.nx [some (.loc l), some t, some v, some (.loc S.length), some part, some f, o6, o7]) S3 := by
        clear hw hD hf f S2
        intro S2 f hD hw hf
        rw [hK, then_nx]
        clear hK K
        refine wp_sq fun K hK => ?_
        have aft : ∀ S3 f, Dr l S S3 → S3[S.length]? = some (.lst (way.map wI)) → (gd S3 l 15 f ∧ gd S3 S.length 15 f ∧ gd S3 q 15 f) → K (.nx [some (.loc l), some t, some v, some (.loc S.length), some part, some f, o6, o7]) S3 := by
          clear hw hD hf f S2
          intro S2 f hD hw hf
          rw [hK, then_nx]
          clear hK K
          refine wp_sq fun K hK => ?_
          refine wp_whileI (fun j n S' => ∃ (f : D) (way : Way) (o6 o7 : Option D), j = way.length ∧ way.length ≤ 13 ∧ n = [some (.loc l), some t, some v, some (.loc S.length), some part, some f, o6, o7] ∧ Dr l S S' ∧ S'[S.length]? = some (.lst (way.map wI)) ∧ (∀ q ∈ way, wOk q) ∧ gd S' l (15 + (13 - way.length)) f ∧ gd S' S.length (15 + (13 - way.length)) f ∧ gd S' q (15 + (13 - way.length)) f)
            way.length (fuel_of (by omega)) ⟨f, way, _, _, rfl, by omega, rfl, hD, hw, hway, gd_mono hf.1 (by omega), gd_mono hf.2.1 (by omega), gd_mono hf.2.2 (by omega)⟩ ?_
          clear hway hwl hw hD hf f S2
          rintro j n S2 T hT ⟨f, way, o6, o7, rfl, hwl, rfl, hD, hw, hway, hf⟩
          simp only [wp_eBl, wp_op2, wp_var, List.getElem?_cons_zero, List.getElem?_cons_succ, wp_opN, wp_all0, wp_mkLst, cmp_ne]
          refine ⟨by decide, ?_⟩
          rw [ne_nil (xs := way.map wI) (Ext.rfl'.app.get hw) get_new (wI_py hway)]
          simp only [wp_some]
          rcases List.eq_nil_or_concat way with rfl | ⟨w2, wq, rfl⟩
          · refine ⟨fun z => (nomatch z), fun _ => ?_⟩
            rw [hK, then_nx]
            simp
            exact ⟨⟨hD.1.app, pool_app hD.2⟩, gd_mono (gd_mod (Mod.of (List.prefix_append _ _)) hf.1) (by simp), gd_mono (gd_mod (Mod.of (List.prefix_append _ _)) hf.2.2) (by simp)⟩
          · obtain ⟨ws, i⟩ := wq
            obtain ⟨q1, q2, q3⟩ := hway (ws, i) (by simp)
            have q1 : i < ws.length := q1
            have q2 : ws.length ≤ 4 := q2
            have hway2 : ∀ q ∈ w2, wOk q := fun q hq => hway q (by simp [hq])
            rw [List.concat_eq_append, List.map_append] at hw
            rw [List.concat_eq_append, List.length_append] at hwl
            rw [List.concat_eq_append, List.length_append] at hf
            have hw1 := (Ext.rfl'.app (G := [O.lst []])).get hw
            refine ⟨fun _ => ?_, fun z => by simp at z⟩
            refine wp_sq fun K2 hK2 => ?_
            simp [hw1]
            rw [pop_lst hw1]
            simp [wI]
            rw [hK2, then_nx]
            clear hK2 K2
            have hne : S.length ≠ l := by omega
            have c1 : Dr l S ((S2 ++ [O.lst []]).set S.length (O.lst (w2.map wI))) := ⟨hD.1.app.setn (Nat.le_refl _), pool_set (pool_app hD.2) hne⟩
            have c2 := get_set (o := O.lst (w2.map wI)) hw1
            have c3 := gd_set2 (o := O.lst (w2.map wI)) (gd_mod (Mod.of (List.prefix_append S2 [O.lst []])) hf.1) (gd_mod (Mod.of (List.prefix_append S2 [O.lst []])) hf.2.1)
            have c4 := (gd_set2 (o := O.lst (w2.map wI)) (gd_mod (Mod.of (List.prefix_append S2 [O.lst []])) hf.2.2) (gd_mod (Mod.of (List.prefix_append S2 [O.lst []])) hf.2.1)).1
            generalize (S2 ++ [O.lst []]).set S.length (O.lst (w2.map wI)) = S3 at c1 c2 c3 c4
            have e1 : Jm.cutD ws none (some (i : Int)) = ws.take i := cut_hi
            have e2 : Jm.cutD ws (some ((i : Int) + 1)) none = ws.drop (i + 1) := cut_lo (k := i + 1)
            simp [e1, e2]
            refine ⟨by omega, by omega, by omega, by omega, ?_⟩
            rw [hT, turn_nx]
            refine ⟨w2.length, by simp, _, w2, _, _, rfl, by simp at hwl; omega, rfl, c1, c2, hway2, ?_⟩
            have e3 : 15 + (13 - w2.length) = (15 + (13 - (w2.length + 1))) + 1 := by simp at hwl; omega
            rw [e3]
            simp only [List.length_singleton] at c3 c4
            refine ⟨⟨by simp; omega, fun x hx => ?_⟩, ⟨by simp; omega, fun x hx => ?_⟩, ⟨by simp; omega, fun x hx => ?_⟩⟩
            · simp at hx
              rcases hx with hx | rfl | hx
              · exact gd_mono (tr_gd (q3 x (List.mem_of_mem_take hx))) (by omega)
              · exact c3.1
              · exact gd_mono (tr_gd (q3 x (List.mem_of_mem_drop hx))) (by omega)
            · simp at hx
              rcases hx with hx | rfl | hx
              · exact gd_mono (tr_gd (q3 x (List.mem_of_mem_take hx))) (by omega)
              · exact c3.2
              · exact gd_mono (tr_gd (q3 x (List.mem_of_mem_drop hx))) (by omega)
            · simp at hx
              rcases hx with hx | rfl | hx
              · exact gd_mono (tr_gd (q3 x (List.mem_of_mem_take hx))) (by omega)
              · exact c4
              · exact gd_mono (tr_gd (q3 x (List.mem_of_mem_drop hx))) (by omega)
        have hv2 : gd S2 l 10 v := hv _ _
        obtain ⟨b, hb⟩ := eq_any (s := "alone") hv2 (by omega) (by decide +kernel)
        simp [hb]
        have pg : ∀ {S' p}, gd S' p 15 (.tup [part]) := fun {S' p} => ⟨by simp, fun x hx => by
          simp at hx; subst hx
          exact gd_mono hpg (by decide)⟩
        exact ⟨fun _ => aft _ _ hD hw ⟨pg, pg, pg⟩, fun _ => aft _ _ hD hw hf⟩
      have hv2 : gd S2 l 10 v := hv _ _
      obtain ⟨b, hb⟩ := eq_any (s := "list") hv2 (by omega) (by decide +kernel)
      simp [hb]
      have hl2 := pool_lt hD.2
      have hw3 := get_lt hw
      refine ⟨fun _ => aft _ _ ⟨hD.1.app, pool_app hD.2⟩ (Ext.rfl'.app.get hw) ⟨⟨by omega, _, get_new, by simp, fun x hx => ?_⟩, ⟨by omega, _, get_new, by simp, fun x hx => ?_⟩, ⟨by omega, _, get_new, by simp, fun x hx => ?_⟩⟩, fun _ => aft _ _ hD hw hf⟩
      · simp at hx; subst hx
        exact gd_mono hpg (by decide)
      · simp at hx; subst hx
        exact gd_mono hpg (by decide)
      · simp at hx; subst hx
        exact gd_mono hpg (by decide)
    obtain ⟨b, hb⟩ := eq_any (s := "twice") hv2 (by omega) (by decide +kernel)
    simp [hb]
    have pg : ∀ {S' p}, gd S' p 15 (.tup [part, part]) := fun {S' p} => ⟨by simp, fun x hx => by
      simp at hx; subst hx
      exact gd_mono hpg (by decide)⟩
    exact ⟨fun _ => aft _ _ hD hw ⟨pg, pg, pg⟩, fun _ => aft _ _ hD hw ⟨gd_mono (hv _ _) (by decide), gd_mono (hv _ _) (by decide), gd_mono (hv _ _) (by decide)⟩⟩
  cases j with
  | zero => exact htr.elim
  | succ j =>
    cases part with
    | int i =>
      simp [instD, okT, tyOf, subT]
      exact stop _ _ _ _ hD hw
    | tup xs =>
      obtain ⟨x1, x2, x3⟩ := htr
      simp only [wp_andT, wp_eTru, wp_eBl, wp_op2, wp_opN, wp_all, wp_all0, wp_var, wp_cst, List.getElem?_cons_zero, List.getElem?_cons_succ, cmp_gt, wp_call]
      simp only [instD, okT, tyOf, subT, Option.map_some, if_true, wp_some, tru_b, true_implies]
      refine ⟨?_, fun z => (nomatch z)⟩
      refine (dr_take U (m := 3) hD.2 (by decide) (by decide)).of ?_
      rintro rr S2 ⟨hD2, k, rfl, _⟩
      have hw2 := hD2.get (by omega) hw
      have hD3 : Dr l S S2 := ⟨hD.1.trans hD2.1, hD2.2⟩
      simp only [gt_ii, wp_some, decide_eq_true_eq, decide_eq_false_iff_not]
      refine ⟨fun _ => ?_, fun _ => stop _ _ _ _ hD3 hw2⟩
      clear stop hD hw hD2
      refine wp_sq fun K2 hK2 => ?_
      simp
      refine (dr_take U (m := xs.length) hD3.2 (by omega) (by omega)).of ?_
      rintro rr S4 ⟨hD4, k, rfl, hk⟩
      have hw4 := hD4.get (by omega) hw2
      have hD5 : Dr l S S4 := ⟨hD3.1.trans hD4.1, hD4.2⟩
      rw [hK2, then_nx]
      clear hK2 K2
      refine wp_sq fun K2 hK2 => ?_
      simp [hw4]
      rw [app_lst hw4]
      refine ⟨line_of (by simp; omega), ?_⟩
      rw [hK2, then_nx]
      clear hK2 K2
      simp
      rw [idx_tup (y := xs[k]) (atI_nat (List.getElem?_eq_getElem hk))]
      simp
      rw [hT, turn_nx]
      refine ⟨j, by omega, _, way ++ [(xs, k)], _, _, _, x3 _ (List.getElem_mem hk), by omega, by simp; omega, rfl, ⟨hD5.1.setn (Nat.le_refl _), pool_set hD5.2 (by omega)⟩, ?_, ?_⟩
      · rw [get_set hw4, List.map_append]; rfl
      · intro q hq
        rcases List.mem_append.mp hq with hq | hq
        · exact hway q hq
        · simp at hq; subst hq
          exact ⟨hk, x2, fun x hx => tr_mono (x3 x hx) (by omega)⟩
    | _ => exact htr.elim
end
end K48

set_option Elab.async false
set_option linter.all false
set_option maxRecDepth 100000
set_option maxHeartbeats 4000000
noncomputable section
namespace K48
open PySem PySem.Spec PyProof.Rows L2 Jm
section
variable {C : Nat → CF} {S : Sto} {p N : Nat} {v : D} {X : PX} {d : Nat}
theorem due_isn {v : D} : isntD (due v) .non S = some (.bl (fin (lv 6 v)), S) := by
  unfold due
  cases fin (lv 6 v) <;> rfl
def bodyV (cf : CF) : E Out := (sSeq (sAsgn (eCall (cf 179) [(eVar 6)]) (gNam 7))
    (sSeq (sIf (eOrT (eNotT (eTru (eCall (cf 396) [(eCall (cf 755) [(eVar 6)]), (eOp2 (cmpD .IsNot) (eVar 7) (eCst .non))]))) (eNotT (eTru (eCall (cf 396) [(eCallK (cf 755) 0 1 [0] [] [(eVar 6)]), (eOp2 (cmpD .IsNot) (eVar 7) (eCst .non))]))))
    (sSeq (sRet (eCst (.bl false)))
    sNil)
    sNil)
    (sSeq (sAsgn (eCall (cf 393) [(eVar 6), (eOp2 (cmpD .Eq) (eCall (cf 431) [(eVar 2), (eCst (.int 2))]) (eCst (.int 0)))]) (gNam 8))
    (sSeq (sIf (eOrT (eAndT (eBl (eOp2 (cmpD .Is) (eVar 7) (eCst .non))) (eNotT (eTru (eCall (cf 35) [(eVar 8), (eOpN mkTup [(eCst (.str "tree")), (eVar 6)])])))) (eAndT (eBl (eOp2 (cmpD .IsNot) (eVar 7) (eCst .non))) (eNotT (eTru (eCall (cf 35) [(eVar 8), (eOpN mkTup [(eCst (.str "value")), (eVar 7)])])))))
    (sSeq (sRet (eCst (.bl false)))
    sNil)
    sNil)
    sNil))))
theorem body_ok (U : Us C) {l : Nat} {o0 o1 o3 o4 o5 o7 o8 : Option D} {Q : Out → Sto → Prop} (hp : isPool S l) (hv : gd S l 41 v)
    (hQ : ∀ S' o7 o8, Dr l S S' → Q (.nx [o0, o1, some (.loc l), o3, o4, o5, some v, o7, o8]) S') : Wp (bodyV (C 60) [o0, o1, some (.loc l), o3, o4, o5, some v, o7, o8] S) Q X := by
  unfold bodyV
  refine wp_sq fun K hK => ?_
  simp
  refine (forks_ok U (N := 41) (d := 58) (by omega) hv).of ?_
  rintro r S1 ⟨hE1, rfl⟩
  rw [hK, then_nx]
  clear hK K
  have hv1 : gd S1 l 41 v := gd_mod (.of hE1) hv
  refine wp_sq fun K hK => ?_
  simp
  refine (is_tree_ok U (N := 41) (d := 55) (by omega) hv1).of ?_
  rintro r S2 ⟨hE2, rfl⟩
  have hv2 : gd S2 l 41 v := gd_mod (.of hE2) hv1
  rw [due_isn]
  simp
  rw [show (60 : Nat) = 59 + 1 from rfl, says_bb U]
  simp [arr]
  refine (is_tree_ok U (N := 41) (d := 55) (by omega) hv2).of ?_
  rintro r S3 ⟨hE3, rfl⟩
  have hv3 : gd S3 l 41 v := gd_mod (.of hE3) hv2
  rw [due_isn]
  simp
  rw [show (60 : Nat) = 59 + 1 from rfl, says_bb U]
  simp
  rw [hK, then_nx]
  clear hK K
  have hE : Ext S S3 := hE1.trans (hE2.trans hE3)
  have hp3 : isPool S3 l := by
    obtain ⟨a, b, h⟩ := hp
    exact ⟨a, b, hE.get h⟩
  refine wp_sq fun K hK => ?_
  simp
  refine (dr_take U (d := 59) (m := 2) hp3 (by decide) (by decide)).of ?_
  rintro r S4 ⟨hD4, k, rfl, hk⟩
  have hv4 : gd S4 l 41 v := gd_mod hD4.1 hv3
  simp
  refine (said_ok U (N := 40) (d := 53) (by omega) hv4).of ?_
  rintro r S5 ⟨hE5, rfl⟩
  rw [hK, then_nx]
  clear hK K
  have hv5 : gd S5 l 41 v := gd_mod (.of hE5) hv4
  have hD5 : Dr l S S5 := by
    refine ⟨(Mod.of hE).trans (hD4.1.trans (.of hE5)), ?_⟩
    obtain ⟨a, b, h⟩ := hD4.2
    exact ⟨a, b, hE5.get h⟩
  refine wp_sq fun K hK => ?_
  have done : ∀ S' o7 o8, Ext S5 S' → K (.nx [o0, o1, some (.loc l), o3, o4, o5, some v, o7, o8]) S' := fun S' o7 o8 hE => by
    rw [hK, then_nx, wp_sNil]
    refine hQ S' o7 o8 ⟨hD5.1.trans (.of hE), ?_⟩
    obtain ⟨a, b, h⟩ := hD5.2
    exact ⟨a, b, hE.get h⟩
  cases hf : fin (lv 6 v) with
  | false =>
    have e1 : due v = .non := by unfold due; rw [hf]; rfl
    have e2 : told v = .tup [.str "tree", v] := by unfold told; rw [hf]; rfl
    rw [e1, e2]
    simp
    have hg : gd S5 l 42 (.tup [.str "tree", v]) := ⟨by simp, fun x hx => by
      simp at hx
      rcases hx with rfl | rfl
      · exact (by decide +kernel : PyData.strOk "tree" = true)
      · exact hv5⟩
    refine (alike_ok U (d := 18) hg (by omega)).of ?_
    rintro r S6 ⟨hE6, rfl⟩
    simp
    exact done _ _ _ hE6
  | true =>
    have e1 : due v = .int (fk 6 v) := by unfold due; rw [hf]; rfl
    have e2 : told v = .tup [.str "value", .int (fk 6 v)] := by unfold told; rw [hf]; rfl
    rw [e1, e2]
    simp
    have hg : gd S5 l 42 (.tup [.str "value", .int (fk 6 v)]) := ⟨by simp, fun x hx => by
      simp at hx
      rcases hx with rfl | rfl
      · exact (by decide +kernel : PyData.strOk "value" = true)
      · trivial⟩
    refine (alike_ok U (d := 18) hg (by omega)).of ?_
    rintro r S6 ⟨hE6, rfl⟩
    simp
    exact done _ _ _ hE6
end
end K48

set_option Elab.async false
set_option linter.all false
set_option maxRecDepth 100000
set_option maxHeartbeats 4000000
noncomputable section
namespace K48
open PySem PySem.Spec PyProof.Rows L2 Jm
section
variable {C : Nat → CF} {S : Sto} {X : PX} {d : Nat}
/-- data wherever the store's lists l and q lie -/
def g2 (S : Sto) (l q : Nat) (x : D) : Prop := gd S l 41 x ∧ gd S q 41 x
theorem g2_ext {S S' : Sto} {l q : Nat} {x : D} (h : g2 S l q x) (e : Ext S S') : g2 S' l q x := ⟨gd_mod (.of e) h.1, gd_mod (.of e) h.2⟩
theorem gd_mod2 {S S' : Sto} {l q : Nat} (a : Mod l S S') : ∀ {n : Nat} {d : D}, gd S l n d → gd S q n d → gd S' q n d
  | 0, _, h, _ => h.elim
  | n + 1, d, h, h' => by
    cases d with
    | tup xs => exact ⟨h.1, fun x hx => gd_mod2 a (h.2 x hx) (h'.2 x hx)⟩
    | loc k =>
      obtain ⟨h1, xs, h2, h3, h4⟩ := h
      obtain ⟨h1', xs', h2', h3', h4'⟩ := h'
      cases h2.symm.trans h2'
      exact ⟨h1', xs, a.2 k _ h1 h2, h3, fun x hx => gd_mod2 a (h4 x hx) (h4' x hx)⟩
    | _ => first | exact trivial | exact h'
theorem g2_dr {S S' : Sto} {l q : Nat} {x : D} (h : g2 S l q x) (e : Dr l S S') : g2 S' l q x := ⟨gd_mod e.1 h.1, gd_mod2 e.1 h.1 h.2⟩
theorem pure_tr {t : D} (h : tr 20 t) : ∀ S p n, 20 ≤ n → gd S p n t := fun S p n hn => gd_mono (tr_gd h) hn
theorem gd_non {S : Sto} {p n : Nat} : gd S p (n + 1) .non = True := rfl
theorem gd_bl {S : Sto} {p n : Nat} {b : Bool} : gd S p (n + 1) (.bl b) = True := rfl
theorem gd_int {S : Sto} {p n : Nat} {b : Int} : gd S p (n + 1) (.int b) = True := rfl
theorem gd_str {S : Sto} {p n : Nat} {x : Str} : gd S p (n + 1) (.str x) = (PyData.strOk x = true) := rfl
theorem gd_tup {S : Sto} {p n : Nat} {xs : List D} : gd S p (n + 1) (.tup xs) = (xs.length ≤ 200 ∧ ∀ x ∈ xs, gd S p n x) := rfl
def pureD (x : D) : Prop := ∀ S p, gd S p 30 x
theorem pure_g2 {l q : Nat} {x : D} (h : pureD x) : g2 S l q x := ⟨gd_mono (h S l) (by omega), gd_mono (h S q) (by omega)⟩
theorem pure_t2 {a b : D} (ha : ∀ S p, gd S p 29 a) (hb : ∀ S p, gd S p 29 b) : pureD (.tup [a, b]) := fun S p => ⟨by simp, fun x hx => by
  simp at hx
  rcases hx with rfl | rfl
  · exact ha S p
  · exact hb S p⟩
structure Rw (S : Sto) (l a r : Nat) (xs : List D) : Prop where
  pool : isPool S l
  ha : S[a]? = some (.lst [.int 0, .int 1])
  hr : S[r]? = some (.lst xs)
  al : a ≠ l
  ar : a ≠ r
  rl : r ≠ l
  ok : ∀ x ∈ xs, x = .loc a ∨ pureD x
theorem Rw.add {S S' : Sto} {l a r y : Nat} {xs ys : List D} {Q : D → Sto → Prop} (h : Rw S l a r xs) (hE : Ext S S') (hy : S'[y]? = some (.lst ys)) (py : ∀ x ∈ ys, pureD x) (hl : ys.length ≤ 20) (hx : xs.length ≤ 60)
    (hQ : ∀ r' S'', Rw S'' l a r' (xs ++ ys) → Q (.loc r') S'') : Wp (lft (addD (.loc r) (.loc y) S')) Q X := by
  rw [add_lst (hE.get h.hr) hy, wp_mkLst]
  refine ⟨line_le (by simp; omega), hQ _ _ ?_⟩
  obtain ⟨p1, p2, hp⟩ := h.pool
  have e1 := get_lt (hE.get h.ha)
  have e2 := get_lt (hE.get hp)
  refine ⟨⟨p1, p2, Ext.rfl'.app.get (hE.get hp)⟩, Ext.rfl'.app.get (hE.get h.ha), get_new, h.al, by omega, by omega, fun x hx => ?_⟩
  rcases List.mem_append.mp hx with hx | hx
  · exact h.ok x hx
  · exact .inr (py x hx)
theorem law_ok' (U : Us C) {ns : List Int} (hn : ns.length ≤ 63) : Wp (C 61 788 [.scr (ns.map .int)] []) (fun r S' => r = .bl true) X := by
  rw [show (61 : Nat) = 60 + 1 from rfl, U.u_law]
  simp only [wp_runD, F_law]
  refine ⟨rfl, ?_⟩
  refine wp_sq fun K0 hK0 => ?_
  simp only [wp_sFor, wp_iRng, wp_opN, wp_all, wp_all0, wp_cst, wp_var, List.map_cons, List.map_nil, List.cons_append, List.getElem?_cons_zero, len_scr, List.length_map, wp_some, agg_ii]
  obtain ⟨k, hk, hk2⟩ : ∃ k : Nat, minI [24, maxI [5, (ns.length : Int)]] = (k : Int) ∧ k ≤ 24 := by
    refine ⟨(minI [24, maxI [5, (ns.length : Int)]]).toNat, ?_, ?_⟩ <;> simp only [maxI, minI] <;> (repeat split) <;> omega
  rw [hk]
  simp only [wp_rng1]
  refine ⟨⟨by omega, by omega⟩, ?_⟩
  rw [Int.toNat_natCast]
  refine wp_rngL (fun i n S' => ∃ o1 o2 o3 o4 o5 o6 o7 o8, n = [some (.scr (ns.map .int)), o1, o2, o3, o4, o5, o6, o7, o8]) ⟨_, _, _, _, _, _, _, _, rfl⟩ (fuel_of (by omega)) ?_ ?_
  · rintro j n S T hT hj ⟨o1, o2, o3, o4, o5, o6, o7, o8, rfl⟩
    simp only [wp_gNam, List.set_cons_succ, List.set_cons_zero, Int.zero_add]
    refine wp_sq fun K hK => ?_
    simp
    refine (pool_ok U (d := 59) (j := j) hn).of ?_
    rintro r S1 ⟨hE1, l, rfl, hl, hp⟩
    rw [hK, then_nx]
    clear hK K
    refine wp_sq fun K hK => ?_
    simp
    refine (dr_take U (d := 59) (m := 12) hp (by decide) (by decide)).of ?_
    rintro r S2 ⟨hD2, k, rfl, hk⟩
    simp
    rw [hK, then_nx]
    clear hK K
    have hp2 := hD2.2
    obtain ⟨m, hm⟩ : ∃ m : Nat, m = k + 1 := ⟨_, rfl⟩
    rw [show (1 + (k : Int)) = (m : Int) by omega]
    clear hD2 hE1 hp
    refine wp_sq fun K hK => ?_
    simp
    refine (tree_ok U (d := 58) (m := m) hp2 (by omega) (by omega)).of ?_
    rintro t S3 ⟨hD3, ht⟩
    rw [hK, then_nx]
    clear hK K
    have hp3 := hD3.2
    clear hD3 hp2
    have hl3 := pool_lt hp3
    refine wp_sq fun K hK => ?_
    simp
    rw [hK, then_nx]
    clear hK K
    have s0 : PyData.strOk "0" = true := by decide +kernel
    have s1 : PyData.strOk "twice" = true := by decide +kernel
    have s2 : PyData.strOk "list" = true := by decide +kernel
    have s3 : PyData.strOk "alone" = true := by decide +kernel
    have p29 : ∀ S p, gd S p 29 t := fun S p => gd_mono (tr_gd ht) (by decide)
    have p30 : ∀ S p, gd S p 30 t := fun S p => gd_mono (tr_gd ht) (by decide)
    have hR : ∀ G, Rw (S3 ++ O.lst [.int 0, .int 1] :: O.lst [t, D.non, D.tup [], D.tup [D.int 0], D.loc (List.length S3), D.tup [t, D.int m], D.tup [t, D.int 0], D.tup [t, D.int (m + 1)], D.tup [D.int m, t], D.bl true] :: G) l S3.length (S3.length + 1)
        [t, D.non, D.tup [], D.tup [D.int 0], D.loc (List.length S3), D.tup [t, D.int m], D.tup [t, D.int 0], D.tup [t, D.int (m + 1)], D.tup [D.int m, t], D.bl true] := fun G => by
      refine ⟨pool_app hp3, by simp, by simp, by omega, by omega, by omega, fun x hx => ?_⟩
      simp at hx
      rcases hx with rfl | rfl | rfl | rfl | rfl | rfl | rfl | rfl | rfl | rfl
      · exact .inr p30
      · exact .inr fun S p => trivial
      · exact .inr fun S p => by simp [gd_non, gd_bl, gd_int, gd_str, gd_tup]
      · exact .inr fun S p => by simp [gd_non, gd_bl, gd_int, gd_str, gd_tup]
      · exact .inl rfl
      all_goals exact .inr fun S p => by simp [gd_non, gd_bl, gd_int, gd_str, gd_tup, p29, s0]
    refine wp_sq fun K hK => ?_
    simp
    refine (hR _).add Ext.rfl' (ys := [D.int (-1), D.int 0, D.int 1, D.str (Str.ofString "0"), D.tup [D.int 0, D.int 1, D.int 2, D.int 3, D.int 4], D.tup [D.tup [D.int 0, D.int 1], D.tup [D.int 2, D.int 3], D.tup [D.int 4, D.int 5], D.tup [D.int 6, D.int 7]],
        D.tup [D.int 0, D.tup [D.int 1, D.tup [D.int 2, D.bl true]]], D.tup [D.int 1, D.int 0]]) (by simp) ?_ (by simp) (by simp) fun r S4 hR => ?_
    · intro x hx
      simp at hx
      rcases hx with rfl | rfl | rfl | rfl | rfl | rfl | rfl | rfl
      all_goals exact fun S p => by simp [gd_non, gd_bl, gd_int, gd_str, gd_tup, s0]
    rw [hK, then_nx]
    clear hK K
    obtain ⟨xs, hxs⟩ : ∃ xs, xs = [t, D.non, D.tup [], D.tup [D.int 0], D.loc (List.length S3), D.tup [t, D.int m], D.tup [t, D.int 0], D.tup [t, D.int (m + 1)], D.tup [D.int m, t], D.bl true] ++
      [D.int (-1), D.int 0, D.int 1, D.str (Str.ofString "0"), D.tup [D.int 0, D.int 1, D.int 2, D.int 3, D.int 4], D.tup [D.tup [D.int 0, D.int 1], D.tup [D.int 2, D.int 3], D.tup [D.int 4, D.int 5], D.tup [D.int 6, D.int 7]],
        D.tup [D.int 0, D.tup [D.int 1, D.tup [D.int 2, D.bl true]]], D.tup [D.int 1, D.int 0]] := ⟨_, rfl⟩
    have hxl : xs.length = 18 := by rw [hxs]; rfl
    rw [← hxs] at hR
    clear hxs
    refine wp_sq fun K hK => ?_
    simp
    refine (deep_ok U (d := 59) (m := 6) (by decide)).of ?_
    rintro d1 _ ⟨rfl, t1⟩
    refine (deep_ok U (d := 59) (m := 7) (by decide)).of ?_
    rintro d2 _ ⟨rfl, t2⟩
    refine (deep_ok U (d := 59) (m := 2) (by decide)).of ?_
    rintro d3 S4 ⟨rfl, t3⟩
    rw [tuple_lst get_new]
    simp
    rw [tuple_lst (xs := [D.int 4, D.int 5, D.int 6, D.int 7]) (by simp)]
    simp
    rw [tuple_lst (xs := [D.int 8, D.int 9, D.int 10, D.int 11]) (by simp)]
    simp
    refine hR.add Ext.rfl'.app (ys := [d1, d2, d3, .tup [.tup [.int 0, .int 1, .int 2, .int 3], .tup [.int 4, .int 5, .int 6, .int 7], .tup [.int 8, .int 9, .int 10, .int 11], .int 12]]) (by simp) ?_ (by simp) (by omega) fun r S5 hR => ?_
    · intro x hx
      simp at hx
      rcases hx with rfl | rfl | rfl | rfl
      · exact fun S p => gd_mono (tr_gd t1) (by decide)
      · exact fun S p => gd_mono (tr_gd t2) (by decide)
      · exact fun S p => gd_mono (tr_gd t3) (by decide)
      · exact fun S p => by simp [gd_non, gd_bl, gd_int, gd_str, gd_tup]
    rw [hK, then_nx]
    clear hK K
    refine wp_sq fun K hK => ?_
    simp
    rw [tuple_lst get_new]
    simp
    rw [tuple_lst (xs := [D.int 4, D.int 5, D.int 6, D.int 7]) (by simp)]
    simp
    rw [tuple_lst (xs := [D.int 8, D.int 9, D.int 10, D.int 11]) (by simp)]
    simp
    refine hR.add Ext.rfl'.app (ys := [.tup [.tup [.int 0, .int 1, .int 2, .int 3], .tup [.int 4, .int 5, .int 6, .int 7], .tup [.int 8, .int 9, .int 10, .int 11]]]) (by simp) ?_ (by simp) (by simp; omega) fun r S6 hR => ?_
    · intro x hx
      simp at hx
      subst hx
      exact fun S p => by simp [gd_non, gd_bl, gd_int, gd_str, gd_tup]
    rw [hK, then_nx]
    clear hK K
    obtain ⟨ys, hys⟩ : ∃ ys, ys = xs ++ [d1, d2, d3, .tup [.tup [.int 0, .int 1, .int 2, .int 3], .tup [.int 4, .int 5, .int 6, .int 7], .tup [.int 8, .int 9, .int 10, .int 11], .int 12]] ++ [.tup [.tup [.int 0, .int 1, .int 2, .int 3], .tup [.int 4, .int 5, .int 6, .int 7], .tup [.int 8, .int 9, .int 10, .int 11]]] := ⟨_, rfl⟩
    have hyl : ys.length = 23 := by rw [hys]; simp [hxl]
    rw [← hys] at hR
    clear hys hxl
    obtain ⟨hp6, ha6, hr6, hal, har, hrl, hok⟩ := hR
    have hg6 : ∀ x ∈ ys, g2 S6 l r x := fun x hx => by
      rcases hok x hx with rfl | hx
      · exact ⟨⟨hal, _, ha6, by simp, by simp [gd_int]⟩, ⟨har, _, ha6, by simp, by simp [gd_int]⟩⟩
      · exact pure_g2 hx
    clear hok ha6 hal har
    refine wp_sq fun K hK => ?_
    simp
    refine wp_fixL (fun i n S' => ∃ zs o6, n = [some (.scr (ns.map .int)), some (.int j), some (.loc l), some (.int m), some t, some (.loc r), o6, o7, o8] ∧ isPool S' l ∧ S'[r]? = some (.lst zs) ∧ zs.length = 23 + i ∧ ∀ x ∈ zs, g2 S' l r x) ⟨ys, _, rfl, hp6, hr6, hyl, hg6⟩ (fuel_of (by simp)) ?_ ?_
    · rintro i x n S' T2 hT2 hx ⟨zs, p6, rfl, a1, a2, a3, a4⟩
      have hi := (List.getElem?_eq_some_iff.mp hx).1
      have hmem := List.mem_of_getElem? hx
      have hpx : ∀ S p, gd S p 10 x := by
        simp at hmem
        rcases hmem with rfl | rfl | rfl | rfl | rfl | rfl | rfl | rfl | rfl | rfl | rfl | rfl
        all_goals exact fun S p => by simp [gd_non, gd_bl, gd_int, gd_str, gd_tup, s0, s1, s2, s3]
      simp at hi
      simp [a2]
      refine (changed_ok U (d := 58) a1 (get_lt a2) ht hpx).of ?_
      rintro y S7 ⟨hD, g1, g3⟩
      have b2 := hD.get hrl a2
      rw [app_lst b2]
      refine ⟨line_of (by omega), ?_⟩
      rw [hT2, turn_nx]
      refine ⟨zs ++ [y], _, rfl, pool_set hD.2 hrl, get_set b2, by simp; omega, fun z hz => ?_⟩
      have gz : g2 S7 l r z := by
        rcases List.mem_append.mp hz with hz | hz
        · exact g2_dr (a4 z hz) hD
        · simp at hz; subst hz
          exact ⟨gd_mono g1 (by decide), gd_mono g3 (by decide)⟩
      exact gd_set2 gz.1 gz.2
    · rintro n S' ⟨zs, p6, rfl, a1, a2, a3, a4⟩
      rw [hK, then_nx]
      clear hK K
      refine wp_sq fun K hK => ?_
      simp only [wp_sFor, wp_iVal, wp_var, List.getElem?_cons_zero, List.getElem?_cons_succ]
      rw [wp_val a2]
      refine wp_lstL (xs := zs) (fun i n S2 => ∃ o6 o7 o8, n = [some (.scr (ns.map .int)), some (.int j), some (.loc l), some (.int m), some t, some (.loc r), o6, o7, o8] ∧ isPool S2 l ∧ S2[r]? = some (.lst zs) ∧ ∀ x ∈ zs, gd S2 l 41 x) ⟨_, _, _, rfl, a1, a2, fun x hx => (a4 x hx).1⟩ (fuel_of (by simp at a3; omega)) (fun i n S2 ⟨_, _, _, _, _, h, _⟩ => h) ?_ ?_
      · rintro i x n S2 T2 hT2 hx ⟨p6, p7, p8, rfl, b1, b2, b3⟩
        simp only [wp_gNam, List.set_cons_succ, List.set_cons_zero]
        refine body_ok U b1 (b3 x (List.mem_of_getElem? hx)) fun S3 q7 q8 hD => ?_
        rw [hT2, turn_nx]
        exact ⟨_, _, _, rfl, hD.2, hD.get hrl b2, fun z hz => gd_mod hD.1 (b3 z hz)⟩
      · rintro n S2 ⟨p6, p7, p8, rfl, b1, b2, b3⟩
        rw [hK, then_nx, wp_sNil, hT, turn_nx]
        exact ⟨_, _, _, _, _, _, _, _, rfl⟩
  · rintro n S ⟨o1, o2, o3, o4, o5, o6, o7, o8, rfl⟩
    rw [hK0, then_nx]
    simp
theorem law_ok : LawOk Z 61 r_law.i 63 := by
  intro ns hn
  obtain ⟨r, S, h1, h2⟩ := (law_ok' (X := nX) us_ok hn).ex
  subst h2
  exact ⟨S, h1⟩
end
end K48

set_option Elab.async false
set_option linter.all false
set_option maxRecDepth 100000
set_option maxHeartbeats 4000000
noncomputable section
namespace K48
open PySem PySem.Spec PyProof.Rows L2 Jm
abbrev R : PySem.W.OpenRow := PySem.W.OpenLaw.row PySem.Challenge.rw_jointmaps_k48_whole_trees_of_anything
abbrev hk : PySem.W.Hook := hookJ Z
def ob (s : PySem.W.SharedT) : AlJ := obsJG Z (HandSHeadRun.getT s)
theorem ob_eq (s : PySem.W.SharedT) : ob s = hk.obs s.abs := obsJG_eq (HandSHeadRun.getT_eq s)
def loose0 : List PySem.Str := ["is_whole", "is_between", "is_up_to", "is_tuple_up_to", "is_tree_by", "nodes_of", "is_fork", "fork_count_of", "check_tree", "is_tree", "fork_count", "_law_pool", "_law_take", "_law_alike", "_law_whole", "_law_says", "_law_tree", "_law_forks", "_law_changed", "_law_deep", "_law_said", "JointError", "InvalidTree", "MOST_LEAVES", "LEAST_PARTS", "MOST_PARTS", "MOST_WITHIN"]
abbrev loose : List PySem.Str := loose0
set_option maxHeartbeats 0 in
theorem run (w : World) : HandSHeadRun.RunEq R (PySem.W.view R.prog [33]) hk ob 6000 loose w := by
  intro os
  kernel_rfl
end K48
open PySem PySem.W PySem.Calls PyProof.Rows
theorem PySem.Challenge.cw_jointmaps_k48_whole_trees_of_anything_holds : PySem.Challenge.rw_jointmaps_k48_whole_trees_of_anything.Holds := by
  w_on; o_law
  refine HandSHeadRun.head_any (r := OpenLaw.row PySem.Challenge.rw_jointmaps_k48_whole_trees_of_anything) (q := view (OpenLaw.row PySem.Challenge.rw_jointmaps_k48_whole_trees_of_anything).prog [33]) (H := K48.hk) (ob := K48.ob) (M := 6000) (loose := K48.loose) (d := HandSHeadRun.topDef (OpenLaw.row PySem.Challenge.rw_jointmaps_k48_whole_trees_of_anything).prog 33) (kwd := []) K48.ob_eq
    (by kernel_rfl) (fun s => by kernel_rfl) K48.run (by kernel_rfl) (by kernel_rfl) (by kernel_rfl) (by rfl) (by first | assumption | decide +kernel) (by decide +kernel) ⟨rfl, rfl, rfl, rfl, rfl, by decide +kernel⟩ ?hw ?hc
  case hw => w_witness2
  case hc =>
    refine L2.walk_ofE (l := PySem.Challenge.rw_jointmaps_k48_whole_trees_of_anything) (n := 63) (k := 60 + 3) (x := "script") (CX := L2.CX0) rfl (by decide) (by kernel_rfl) ⟨rfl, by decide, by decide⟩ ?F (fun _ _ _ _ z => z)
    intro w mg fa h Y G hmg0
    obtain ⟨K, KX, c⟩ := Y
    have hmg : mg K48.r_law.x = some (.ref fa) := by
      have e : (HandSHeadRun.topDef (OpenLaw.row PySem.Challenge.rw_jointmaps_k48_whole_trees_of_anything).prog 33).name = K48.r_law.x := by kernel_rfl
      rw [← e]
      exact hmg0
    exact Jm.law_facts (r := K48.r_law) (d := 60) KX G c K48.zB (List.mem_of_getElem? (i := 21) rfl) rfl hmg K48.law_ok


