import PyProof.Rows.All
import Wide.All
import OpenK.AllK
import Wide.FinOn
import HandS.ForMost
import HandS.ForExc
import HandS.Wide
import HandS.Zip
import HandS.CallSlots
import HandS.HeadHook1
import HandS.HeadHook2
import HandS.Lambda
import HandS.Flow
import HandS.TupAny
import HandS.IsInst
import HandS.Style
import HandS.Property
import HandS.Star
import HandS.ExcInit
import HandS.TryMany
import HandS.HeadWalk
import KE.KExcInit
import HandS.ExcField
import KE.KSuper
import HandS.NestedK
import HandS.RaiseMore
import HandS.Deep
import HandS.Ends
import HandS.EndBits
import HandS.Head0
import HandS.Head1
import HandS.Head2
import HandS.HeadEnd
import HandS.ExcIs
import HandS.DictComp
import HandS.SortInts
import HandS.More
import HandS.Dict
import HandS.Conv
import PySem.Challenge.RW_firstanswers_k18_values_modulo_a_prime
set_option Elab.async false
set_option linter.all false
set_option maxRecDepth 100000
set_option maxHeartbeats 4000000
/-! Mp: data trees over the hand layer. A def's text becomes a plain function on data; this part: data, worlds, what is wanted behind a computation. -/
namespace Mp
open PySem PySem.Spec PyProof.Rows L2

/-! ### data -/
inductive D where
  | non | bl (b : Bool) | int (i : Int) | str (z : Str)
  | ty (n : String)
  | glo (x : Str)
  | tup (l : List D) | lst (l : List D) | rol (l : List D)
  | dct (l : List (Key × D))
  | ins (C : Str) (fs : List (Str × D))
  | exn (a : Addr) (d : Option Addr) (C : Str) (fs : List (Str × D))
  | cel (n : Nat)
  | clo (f c : Addr) (q : Str) (t : L2.St) (r : List (Option D))
/-- what a mutable cell holds -/
inductive Ct where
  | lst (l : List D) | dct (l : List (Key × D)) | ins (C : Str) (fs : List (Str × D)) | rod (l : List (Key × D)) | tab (x : Str)
abbrev Sto := List (Option Ct)
abbrev En := List (Option D)
inductive Res (T : Type) where
  | ok (a : T) (s : Sto) | exc (C : Str) (fs : List (Str × D)) (s : Sto) | bad
abbrev DM (T : Type) := En → Sto → Res T
abbrev DE := DM D
inductive Fl where
  | nx (r : En) (s : Sto) | rt (d : D) (s : Sto) | bk (r : En) (s : Sto) | ct (r : En) (s : Sto)
  | exc (C : Str) (fs : List (Str × D)) (r : En) (s : Sto) | bad
abbrev DS := En → Sto → Fl
abbrev DG := D → En → Sto → Option (En × Sto)
def bindM {T U : Type} (m : DM T) (f : T → DM U) : DM U := fun r s => match m r s with
  | .ok a s' => f a r s'
  | .exc C fs s' => .exc C fs s'
  | .bad => .bad
def pureM {T : Type} (a : T) : DM T := fun _ s => .ok a s

/-! ### worlds -/
structure Wd where
  A : Nat → Option Addr
  Z : Addr → Prop
  P : Addr → Prop
  H : Hp
abbrev Frag := PySem.W.Frag
/-- a written list, tuple -/
def KL (K : Frag) (a : Addr) (xs : List V) : Prop := ∃ (o : Obj) (its : Array Value) (n : Nat), K.lookup a = some o ∧ o.cls = .type "list" ∧ o.dict = none ∧ o.data = .seq its n ∧ its.size ≤ sizeLine ∧ Vals xs its.toList
def KT (K : Frag) (a : Addr) (xs : List V) : Prop := ∃ (o : Obj) (its : Array Value) (n : Nat), K.lookup a = some o ∧ o.cls = .type "tuple" ∧ o.data = .seq its n ∧ its.size ≤ sizeLine ∧ Vals xs its.toList
def LAt (K : Frag) (w : Wd) (a : Addr) (xs : List V) : Prop := (w.Z a ∧ Rd w.H a (.lst xs)) ∨ KL K a xs
def TAt (K : Frag) (w : Wd) (a : Addr) (xs : List V) : Prop := (w.Z a ∧ Rd w.H a (.tup xs)) ∨ KT K a xs
theorem LAt.sq {K : Frag} {w : Wd} {a : Addr} {xs : List V} (h : LAt K w a xs) : SqL K w.H a xs := h.elim (fun h => .inl h.2) .inr
theorem TAt.sq {K : Frag} {w : Wd} {a : Addr} {xs : List V} (h : TAt K w a xs) : SqT K w.H a xs := h.elim (fun h => .inl h.2) .inr
/-- all that Rep leans on is kept -/
structure Ex0 (w w' : Wd) : Prop where
  A : ∀ n a, w.A n = some a → w'.A n = some a
  Z : ∀ a, w.Z a → w'.Z a
  H : ∀ a, w.Z a → w'.H a = w.H a
/-- .. and what is pinned -/
structure Ext (w w' : Wd) : Prop extends Ex0 w w' where
  P : ∀ a, w.P a → w'.P a
  HP : ∀ a, w.P a → w'.H a = w.H a
theorem Ext.refl (w : Wd) : Ext w w := ⟨⟨fun _ _ h => h, fun _ h => h, fun _ _ => rfl⟩, fun _ h => h, fun _ _ => rfl⟩
theorem Ext.trans {a b c : Wd} (h : Ext a b) (k : Ext b c) : Ext a c := ⟨⟨fun n x e => k.A n x (h.A n x e), fun x e => k.Z x (h.Z x e), fun x e => (k.H x (h.Z x e)).trans (h.H x e)⟩, fun x e => k.P x (h.P x e), fun x e => (k.HP x (h.P x e)).trans (h.HP x e)⟩
theorem Ex0.rd {w w' : Wd} (e : Ex0 w w') {a : Addr} {u : HO} (z : w.Z a) (h : Rd w.H a u) : Rd w'.H a u := by
  unfold Rd at h ⊢
  rw [e.H a z]
  exact h
theorem LAt.ex0 {K : Frag} {w w' : Wd} (e : Ex0 w w') {a : Addr} {xs : List V} (h : LAt K w a xs) : LAt K w' a xs := h.elim (fun h => .inl ⟨e.Z a h.1, e.rd h.1 h.2⟩) .inr
theorem TAt.ex0 {K : Frag} {w w' : Wd} (e : Ex0 w w') {a : Addr} {xs : List V} (h : TAt K w a xs) : TAt K w' a xs := h.elim (fun h => .inl ⟨e.Z a h.1, e.rd h.1 h.2⟩) .inr
theorem LAt.ext {K : Frag} {w w' : Wd} (e : Ext w w') {a : Addr} {xs : List V} (h : LAt K w a xs) : LAt K w' a xs := h.ex0 e.toEx0
theorem TAt.ext {K : Frag} {w w' : Wd} (e : Ext w w') {a : Addr} {xs : List V} (h : TAt K w a xs) : TAt K w' a xs := h.ex0 e.toEx0

mutual
inductive Rep (K : Frag) (w : Wd) : V → D → Prop
  | non : Rep K w .non .non
  | bl (b : Bool) : Rep K w (.bl b) (.bl b)
  | int (i : Int) : Rep K w (.int i) (.int i)
  | str (z : Str) : Rep K w (.str z) (.str z)
  | ty (n : String) : Rep K w (.ty n) (.ty n)
  | glo (x : Str) : Rep K w (.ref (He.ga K x)) (.glo x)
  | tup {a : Addr} {vs : List V} {ds : List D} : TAt K w a vs → Reps K w vs ds → Rep K w (.ref a) (.tup ds)
  | lst {a : Addr} {vs : List V} {ds : List D} : w.Z a → w.H a = some (.lst vs) → Reps K w vs ds → Rep K w (.ref a) (.lst ds)
  | rol {a : Addr} {vs : List V} {ds : List D} : LAt K w a vs → Reps K w vs ds → Rep K w (.ref a) (.rol ds)
  | dct {a : Addr} {o : Obj} {ks : List Key} {vs : List V} {ds : List D} : w.Z a → w.H a = some (.frz o (.dK (ks.zip vs))) → ks.length = vs.length → Reps K w vs ds → Rep K w (.ref a) (.dct (ks.zip ds))
  | ins {a dx : Addr} {C : Str} {ks : List Str} {vs : List V} {ds : List D} : w.Z a → w.H a = some (.ins (He.ga K C) dx (ks.zip vs)) → ks.length = vs.length → Reps K w vs ds → Rep K w (.ref a) (.ins C (ks.zip ds))
  | exn0 {a : Addr} {C : Str} : Rep K w (.ref a) (.exn a none C [])
  | exn {a dx : Addr} {C : Str} {ks : List Str} {vs : List V} {ds : List D} : w.Z dx → w.H dx = some (.xd (ks.zip vs)) → ks.length = vs.length → Reps K w vs ds → Rep K w (.ref a) (.exn a (some dx) C (ks.zip ds))
  | cel {n : Nat} {a : Addr} : w.A n = some a → Rep K w (.ref a) (.cel n)
  | clo {f c : Addr} {q : Str} {t : L2.St} {r : List (Option D)} : w.Z c → w.H c = some (LamX.CodeO c q) → RepE K w t r → Rep K w (.ref f) (.clo f c q t r)
inductive Reps (K : Frag) (w : Wd) : List V → List D → Prop
  | nil : Reps K w [] []
  | cons {v : V} {d : D} {vs : List V} {ds : List D} : Rep K w v d → Reps K w vs ds → Reps K w (v :: vs) (d :: ds)
inductive RepE (K : Frag) (w : Wd) : List (Option V) → List (Option D) → Prop
  | nil : RepE K w [] []
  | non {v : Option V} {t : List (Option V)} {r : List (Option D)} : RepE K w t r → RepE K w (v :: t) (none :: r)
  | som {v : V} {d : D} {t : List (Option V)} {r : List (Option D)} : Rep K w v d → RepE K w t r → RepE K w (some v :: t) (some d :: r)
end
mutual
theorem Rep.ex0 {K : Frag} {w w' : Wd} (e : Ex0 w w') : ∀ {v : V} {d : D}, Rep K w v d → Rep K w' v d
  | _, _, .non => .non
  | _, _, .bl b => .bl b
  | _, _, .int i => .int i
  | _, _, .str z => .str z
  | _, _, .ty n => .ty n
  | _, _, .glo x => .glo x
  | _, _, .tup h r => .tup (h.ex0 e) (r.ex0 e)
  | _, _, .lst z h r => .lst (e.Z _ z) ((e.H _ z).trans h) (r.ex0 e)
  | _, _, .rol h r => .rol (h.ex0 e) (r.ex0 e)
  | _, _, .dct z h l r => .dct (e.Z _ z) ((e.H _ z).trans h) l (r.ex0 e)
  | _, _, .ins z h l r => .ins (e.Z _ z) ((e.H _ z).trans h) l (r.ex0 e)
  | _, _, .exn0 => .exn0
  | _, _, .exn z h l r => .exn (e.Z _ z) ((e.H _ z).trans h) l (r.ex0 e)
  | _, _, .cel h => .cel (e.A _ _ h)
  | _, _, .clo z h r => .clo (e.Z _ z) ((e.H _ z).trans h) (r.ex0 e)
theorem Reps.ex0 {K : Frag} {w w' : Wd} (e : Ex0 w w') : ∀ {vs : List V} {ds : List D}, Reps K w vs ds → Reps K w' vs ds
  | _, _, .nil => .nil
  | _, _, .cons h r => .cons (h.ex0 e) (r.ex0 e)
theorem RepE.ex0 {K : Frag} {w w' : Wd} (e : Ex0 w w') : ∀ {t : List (Option V)} {r : List (Option D)}, RepE K w t r → RepE K w' t r
  | _, _, .nil => .nil
  | _, _, .non h => .non (h.ex0 e)
  | _, _, .som h r => .som (h.ex0 e) (r.ex0 e)
end
theorem Rep.ext {K : Frag} {w w' : Wd} (e : Ext w w') {v : V} {d : D} (h : Rep K w v d) : Rep K w' v d := h.ex0 e.toEx0
theorem Reps.ext {K : Frag} {w w' : Wd} (e : Ext w w') {v : List V} {d : List D} (h : Reps K w v d) : Reps K w' v d := h.ex0 e.toEx0
theorem Reps.length {K : Frag} {w : Wd} : ∀ {vs : List V} {ds : List D}, Reps K w vs ds → vs.length = ds.length
  | _, _, .nil => rfl
  | _, _, .cons _ r => congrArg (· + 1) r.length
theorem Reps.get {K : Frag} {w : Wd} : ∀ {vs : List V} {ds : List D} {i : Nat} {d : D}, Reps K w vs ds → ds[i]? = some d → ∃ v, vs[i]? = some v ∧ Rep K w v d
  | _, _, _, _, .nil, h => by simp at h
  | _, _, 0, _, .cons h _, e => by
    simp at e
    subst e
    exact ⟨_, rfl, h⟩
  | _, _, i + 1, _, .cons _ r, e => by
    simp at e
    obtain ⟨v, h1, h2⟩ := r.get e
    exact ⟨v, by simpa using h1, h2⟩
theorem Reps.getV {K : Frag} {w : Wd} : ∀ {vs : List V} {ds : List D} {i : Nat} {v : V}, Reps K w vs ds → vs[i]? = some v → ∃ d, ds[i]? = some d ∧ Rep K w v d
  | _, _, _, _, .nil, h => by simp at h
  | _, _, 0, _, .cons h _, e => by
    simp at e
    subst e
    exact ⟨_, rfl, h⟩
  | _, _, i + 1, _, .cons _ r, e => by
    simp at e
    obtain ⟨v, h1, h2⟩ := r.getV e
    exact ⟨v, by simpa using h1, h2⟩
theorem Reps.append {K : Frag} {w : Wd} : ∀ {vs us : List V} {ds es : List D}, Reps K w vs ds → Reps K w us es → Reps K w (vs ++ us) (ds ++ es)
  | _, _, _, _, .nil, r => r
  | _, _, _, _, .cons h t, r => .cons h (t.append r)
theorem Reps.set {K : Frag} {w : Wd} {v : V} {d : D} (r : Rep K w v d) : ∀ {vs : List V} {ds : List D} (i : Nat), Reps K w vs ds → Reps K w (vs.set i v) (ds.set i d)
  | _, _, _, .nil => .nil
  | _, _, 0, .cons _ t => .cons r t
  | _, _, i + 1, .cons h t => .cons h (t.set r i)
theorem Reps.drop {K : Frag} {w : Wd} : ∀ {vs : List V} {ds : List D} (n : Nat), Reps K w vs ds → Reps K w (vs.drop n) (ds.drop n)
  | _, _, 0, r => r
  | _, _, _ + 1, .nil => .nil
  | _, _, n + 1, .cons _ t => t.drop n
theorem Reps.take {K : Frag} {w : Wd} : ∀ {vs : List V} {ds : List D} (n : Nat), Reps K w vs ds → Reps K w (vs.take n) (ds.take n)
  | _, _, 0, _ => .nil
  | _, _, _ + 1, .nil => .nil
  | _, _, n + 1, .cons h t => .cons h (t.take n)

/-! ### pairs -/
inductive KVR (K : Frag) (w : Wd) {T : Type} : List (T × V) → List (T × D) → Prop
  | nil : KVR K w [] []
  | cons {k : T} {v : V} {d : D} {l : List (T × V)} {m : List (T × D)} : Rep K w v d → KVR K w l m → KVR K w ((k, v) :: l) ((k, d) :: m)
section
variable {K : Frag} {w w' : Wd} {T : Type}
theorem KVR.ex0 (e : Ex0 w w') : ∀ {l : List (T × V)} {m : List (T × D)}, KVR K w l m → KVR K w' l m
  | _, _, .nil => .nil
  | _, _, .cons h r => .cons (h.ex0 e) (r.ex0 e)
theorem KVR.ext (e : Ext w w') {l : List (T × V)} {m : List (T × D)} (h : KVR K w l m) : KVR K w' l m := h.ex0 e.toEx0
theorem KVR.of_zip : ∀ {ks : List T} {vs : List V} {ds : List D}, ks.length = vs.length → Reps K w vs ds → KVR K w (ks.zip vs) (ks.zip ds)
  | [], _, _, _, _ => .nil
  | k :: ks, _, _, hl, .nil => by cases hl
  | k :: ks, _, _, hl, .cons h r => .cons h (KVR.of_zip (by simpa using hl) r)
theorem KVR.to_zip : ∀ {l : List (T × V)} {m : List (T × D)}, KVR K w l m → ∃ (ks : List T) (vs : List V) (ds : List D), l = ks.zip vs ∧ m = ks.zip ds ∧ ks.length = vs.length ∧ Reps K w vs ds
  | _, _, .nil => ⟨[], [], [], rfl, rfl, rfl, .nil⟩
  | _, _, .cons (k := k) h r => by
    obtain ⟨ks, vs, ds, rfl, rfl, hl, hr⟩ := r.to_zip
    exact ⟨k :: ks, _ :: vs, _ :: ds, rfl, rfl, by simp [hl], .cons h hr⟩
theorem KVR.length : ∀ {l : List (T × V)} {m : List (T × D)}, KVR K w l m → l.length = m.length
  | _, _, .nil => rfl
  | _, _, .cons _ r => congrArg (· + 1) r.length
theorem KVR.keys : ∀ {l : List (T × V)} {m : List (T × D)}, KVR K w l m → l.map (·.1) = m.map (·.1)
  | _, _, .nil => rfl
  | _, _, .cons _ r => by simp [r.keys]
theorem KVR.vals : ∀ {l : List (T × V)} {m : List (T × D)}, KVR K w l m → Reps K w (l.map (·.2)) (m.map (·.2))
  | _, _, .nil => .nil
  | _, _, .cons h r => .cons h r.vals
theorem Rep.dctK {a : Addr} {o : Obj} {l : List (Key × V)} {m : List (Key × D)} (z : w.Z a) (h : w.H a = some (.frz o (.dK l))) (r : KVR K w l m) : Rep K w (.ref a) (.dct m) := by
  obtain ⟨ks, vs, ds, rfl, rfl, hl, hr⟩ := r.to_zip
  exact .dct z h hl hr
theorem Rep.insK {a dx : Addr} {C : Str} {l : List (Str × V)} {m : List (Str × D)} (z : w.Z a) (h : w.H a = some (.ins (He.ga K C) dx l)) (r : KVR K w l m) : Rep K w (.ref a) (.ins C m) := by
  obtain ⟨ks, vs, ds, rfl, rfl, hl, hr⟩ := r.to_zip
  exact .ins z h hl hr
theorem Rep.dct_inv {v : V} {m : List (Key × D)} (h : Rep K w v (.dct m)) : ∃ a o l, v = .ref a ∧ w.Z a ∧ w.H a = some (.frz o (.dK l)) ∧ KVR K w l m := by
  cases h with
  | dct z h hl r => exact ⟨_, _, _, rfl, z, h, KVR.of_zip hl r⟩
theorem Rep.ins_inv {v : V} {C : Str} {m : List (Str × D)} (h : Rep K w v (.ins C m)) : ∃ a dx l, v = .ref a ∧ w.Z a ∧ w.H a = some (.ins (He.ga K C) dx l) ∧ KVR K w l m := by
  cases h with
  | ins z h hl r => exact ⟨_, _, _, rfl, z, h, KVR.of_zip hl r⟩
end

/-! ### the store, the slots -/
/-- the code object of a def of the module, its table, the name of the lambdas in it -/
def codeV (K : Frag) (x : Str) : Value := match K.lookup (He.ga K x) with
  | some ⟨_, _, .func fd, _⟩ => fd.code
  | _ => .none
def codeA (K : Frag) (x : Str) : Addr := match codeV K x with
  | .ref c => c
  | _ => 0
def tabA (K : Frag) (x : Str) : Addr := match K.lookup (codeA K x) with
  | some ⟨_, _, .fields vs, _⟩ => (match (vs[11]? : Option Value) with
    | some (.ref P) => P
    | _ => 0)
  | _ => 0
def lamQ (x : Str) : Str := x ++ ".<locals>." ++ "<lambda>"
def CtR (K : Frag) (w : Wd) (a : Addr) : Ct → Prop
  | .lst ds => ∃ vs, w.H a = some (.lst vs) ∧ Reps K w vs ds
  | .dct m => ∃ l, w.H a = some (.dK l) ∧ KVR K w l m
  | .ins C m => ∃ (dx : Addr) (l : List (Str × V)), w.H a = some (.ins (He.ga K C) dx l) ∧ KVR K w l m
  | .rod m => ∃ (o : Obj) (l : List (Key × V)), w.Z a ∧ w.H a = some (.frz o (.dK l)) ∧ KVR K w l m
  | .tab x => a = tabA K x ∧ ∃ ps : Array Value, w.H a = some (.tbl ps) ∧ TriplesOk ps.toList ∧ ∀ (pos : Pos) (cv : Value), codeAmong pos ps.toList = some cv → ∃ c, cv = .ref c ∧ w.Z c ∧ w.H c = some (LamX.CodeO c (lamQ x))
/-- but for read-only ones, cells are not frozen -/
def NZ (w : Wd) (a : Addr) : Ct → Prop
  | .rod _ => True
  | _ => ¬ w.Z a
theorem NZ.mono {w w' : Wd} {a : Addr} (k : w'.Z a → w.Z a) : ∀ {c : Ct}, NZ w a c → NZ w' a c
  | .lst _, h => fun z => h (k z)
  | .dct _, h => fun z => h (k z)
  | .ins _ _, h => fun z => h (k z)
  | .tab _, h => fun z => h (k z)
  | .rod _, _ => trivial
theorem NZ.of {w : Wd} {a : Addr} (h : ¬ w.Z a) : ∀ {c : Ct}, NZ w a c
  | .lst _ => h
  | .dct _ => h
  | .ins _ _ => h
  | .tab _ => h
  | .rod _ => trivial
structure StR (K : Frag) (w : Wd) (s : Sto) : Prop where
  at_ : ∀ n ct, s[n]? = some (some ct) → ∃ a, w.A n = some a ∧ NZ w a ct ∧ CtR K w a ct
  np : ∀ n ct a, s[n]? = some (some ct) → w.A n = some a → ¬ w.P a
  pz : ∀ a, w.P a → ¬ w.Z a ∧ w.H a ≠ none
  inj : ∀ n m a c d, s[n]? = some (some c) → s[m]? = some (some d) → w.A n = some a → w.A m = some a → n = m
  fz : ∀ a, w.Z a → w.H a ≠ none
  new : ∀ n, s.length ≤ n → w.A n = none
def EnvR (K : Frag) (w : Wd) (r : En) (t : L2.St) : Prop := r.length = t.length ∧ ∀ (i : Nat) (d : D), r[i]? = some (some d) → ∃ v, t[i]? = some (some v) ∧ Rep K w v d
theorem EnvR.ex0 {K : Frag} {w w' : Wd} (e : Ex0 w w') {r : En} {t : L2.St} (h : EnvR K w r t) : EnvR K w' r t := ⟨h.1, fun i d q => let ⟨v, h1, h2⟩ := h.2 i d q; ⟨v, h1, h2.ex0 e⟩⟩
theorem EnvR.ext {K : Frag} {w w' : Wd} (e : Ext w w') {r : En} {t : L2.St} (h : EnvR K w r t) : EnvR K w' r t := h.ex0 e.toEx0
theorem EnvR.set {K : Frag} {w : Wd} {r : En} {t : L2.St} (h : EnvR K w r t) {v : V} {d : D} (q : Rep K w v d) (i : Nat) : EnvR K w (r.set i (some d)) (t.set i (some v)) := by
  refine ⟨by rw [List.length_set, List.length_set, h.1], fun j e hj => ?_⟩
  by_cases hij : i = j
  · subst hij
    by_cases hl : i < r.length
    · rw [List.getElem?_set_self hl] at hj
      cases hj
      exact ⟨v, by rw [List.getElem?_set_self (h.1 ▸ hl)], q⟩
    · rw [List.getElem?_eq_none (by rw [List.length_set]; omega)] at hj
      cases hj
  · rw [List.getElem?_set_ne hij] at hj
    obtain ⟨u, h1, h2⟩ := h.2 j e hj
    exact ⟨u, by rw [List.getElem?_set_ne hij]; exact h1, h2⟩
theorem EnvR.unset {K : Frag} {w : Wd} {r : En} {t : L2.St} (h : EnvR K w r t) (i : Nat) : EnvR K w (r.set i none) (t.set i none) := by
  refine ⟨by rw [List.length_set, List.length_set, h.1], fun j e hj => ?_⟩
  by_cases hij : i = j
  · subst hij
    by_cases hl : i < r.length
    · rw [List.getElem?_set_self hl] at hj
      cases hj
    · rw [List.getElem?_eq_none (by rw [List.length_set]; omega)] at hj
      cases hj
  · rw [List.getElem?_set_ne hij] at hj
    obtain ⟨u, h1, h2⟩ := h.2 j e hj
    exact ⟨u, by rw [List.getElem?_set_ne hij]; exact h1, h2⟩

/-! ### worlds that go on -/
/-- a new object, frozen at once -/
def Wd.frz (w : Wd) (p : Addr) (o : HO) : Wd := ⟨w.A, fun a => w.Z a ∨ a = p, w.P, upd w.H p o⟩
theorem Wd.frz_ext {K : Frag} {w : Wd} {s : Sto} (st : StR K w s) {p : Addr} {o : HO} (h : w.H p = none) : Ext w (w.frz p o) :=
  ⟨⟨fun _ _ h => h, fun _ h => .inl h, fun a z => upd_ne fun e => st.fz a z (e ▸ h)⟩, fun _ h => h, fun a z => upd_ne fun e => (st.pz a z).2 (e ▸ h)⟩
theorem CtR.sam0 {K : Frag} {w w' : Wd} (e : Ex0 w w') {a : Addr} (h : w'.H a = w.H a) : ∀ {c : Ct}, CtR K w a c → CtR K w' a c
  | .lst _, ⟨vs, h1, h2⟩ => ⟨vs, h.trans h1, h2.ex0 e⟩
  | .dct _, ⟨l, h1, h2⟩ => ⟨l, h.trans h1, h2.ex0 e⟩
  | .ins _ _, ⟨dx, l, h1, h2⟩ => ⟨dx, l, h.trans h1, h2.ex0 e⟩
  | .rod _, ⟨o, l, z, h1, h2⟩ => ⟨o, l, e.Z _ z, h.trans h1, h2.ex0 e⟩
  | .tab _, ⟨e0, ps, h1, h2, h3⟩ => ⟨e0, ps, h.trans h1, h2, fun pos cv hc => let ⟨c, c1, c2, c3⟩ := h3 pos cv hc; ⟨c, c1, e.Z _ c2, (e.H _ c2).trans c3⟩⟩
theorem CtR.same {K : Frag} {w w' : Wd} (e : Ext w w') {a : Addr} (h : w'.H a = w.H a) {c : Ct} (q : CtR K w a c) : CtR K w' a c := q.sam0 e.toEx0 h
theorem CtR.some {K : Frag} {w : Wd} {a : Addr} : ∀ {c : Ct}, CtR K w a c → ∃ o, w.H a = some o ∧ True
  | .lst _, ⟨_, h, _⟩ => ⟨_, h, trivial⟩
  | .dct _, ⟨_, h, _⟩ => ⟨_, h, trivial⟩
  | .ins _ _, ⟨_, _, h, _⟩ => ⟨_, h, trivial⟩
  | .rod _, ⟨_, _, _, h, _⟩ => ⟨_, h, trivial⟩
  | .tab _, ⟨_, _, h, _⟩ => ⟨_, h, trivial⟩
theorem Wd.frz_st {K : Frag} {w : Wd} {s : Sto} (st : StR K w s) {p : Addr} {o : HO} (h : w.H p = none) : StR K (w.frz p o) s := by
  have e := Wd.frz_ext st (o := o) h
  refine ⟨fun n ct q => ?_, st.np, fun a z => ?_, st.inj, fun a z => ?_, st.new⟩
  · obtain ⟨a, h1, h2, h3⟩ := st.at_ n ct q
    obtain ⟨ob, ho, _⟩ := h3.some
    have ne : a ≠ p := ne_of_none ho h
    exact ⟨a, h1, h2.mono (w' := w.frz p o) fun (z : w.Z a ∨ a = p) => Or.elim z id fun q => absurd q ne, h3.same e (upd_ne ne)⟩
  · have ne : a ≠ p := fun q => (st.pz a z).2 (q ▸ h)
    exact ⟨fun q => q.elim (st.pz a z).1 ne, by rw [show (w.frz p o).H a = w.H a from upd_ne ne]; exact (st.pz a z).2⟩
  · by_cases hp : a = p
    · show upd w.H p o a ≠ none
      rw [hp, upd_same]
      exact fun z => nomatch z
    · show upd w.H p o a ≠ none
      rw [upd_ne hp]
      exact st.fz a (z.elim id fun z => absurd z hp)
theorem Wd.frz_z {w : Wd} {p : Addr} {o : HO} : (w.frz p o).Z p := .inr rfl
theorem Wd.frz_h {w : Wd} {p : Addr} {o : HO} : (w.frz p o).H p = some o := upd_same
/-- a new object that is nobody's (an own dict) -/
def Wd.put (w : Wd) (p : Addr) (o : HO) : Wd := ⟨w.A, w.Z, w.P, upd w.H p o⟩
theorem Wd.put_ext {K : Frag} {w : Wd} {s : Sto} (st : StR K w s) {p : Addr} {o : HO} (h : w.H p = none) : Ext w (w.put p o) :=
  ⟨⟨fun _ _ h => h, fun _ h => h, fun a z => upd_ne fun e => st.fz a z (e ▸ h)⟩, fun _ h => h, fun a z => upd_ne fun e => (st.pz a z).2 (e ▸ h)⟩
theorem Wd.put_st {K : Frag} {w : Wd} {s : Sto} (st : StR K w s) {p : Addr} {o : HO} (h : w.H p = none) : StR K (w.put p o) s := by
  have e := Wd.put_ext st (o := o) h
  refine ⟨fun n ct q => ?_, st.np, fun a z => ?_, st.inj, fun a z => ?_, st.new⟩
  · obtain ⟨a, h1, h2, h3⟩ := st.at_ n ct q
    obtain ⟨ob, ho, _⟩ := h3.some
    have ne : a ≠ p := ne_of_none ho h
    exact ⟨a, h1, h2, h3.same e (upd_ne ne)⟩
  · have ne : a ≠ p := fun q => (st.pz a z).2 (q ▸ h)
    exact ⟨(st.pz a z).1, by rw [show (w.put p o).H a = w.H a from upd_ne ne]; exact (st.pz a z).2⟩
  · show upd w.H p o a ≠ none
    by_cases hp : a = p
    · rw [hp, upd_same]
      exact fun z => nomatch z
    · rw [upd_ne hp]
      exact st.fz a z
/-- a cell's object is changed -/
theorem Wd.mut_ext {w : Wd} {a : Addr} {o : HO} (h : ¬ w.Z a) (hP : ¬ w.P a) : Ext w (w.put a o) :=
  ⟨⟨fun _ _ h => h, fun _ h => h, fun b z => upd_ne fun e => h (e ▸ z)⟩, fun _ h => h, fun b z => upd_ne fun e => hP (e ▸ z)⟩
theorem Wd.mut_st {K : Frag} {w : Wd} {s : Sto} (st : StR K w s) {n : Nat} {c c' : Ct} {a : Addr} {o : HO} (hn : s[n]? = some (some c)) (ha : w.A n = some a) (hz : ¬ w.Z a) (hc : CtR K (w.put a o) a c') : StR K (w.put a o) (s.set n (some c')) := by
  obtain ⟨a', h1, h2, h3⟩ := st.at_ n c hn
  have ea : a' = a := Option.some.inj (h1.symm.trans ha)
  subst ea
  have hl : n < s.length := (List.getElem?_eq_some_iff.mp hn).1
  have hP := st.np n c a' hn ha
  have e : Ext w (w.put a' o) := Wd.mut_ext hz hP
  have back : ∀ m d, (s.set n (some c'))[m]? = some (some d) → ∃ d', s[m]? = some (some d') := fun m d q => by
    by_cases hm : n = m
    · subst hm
      exact ⟨c, hn⟩
    · rw [List.getElem?_set_ne hm] at q
      exact ⟨d, q⟩
  refine ⟨fun m ct q => ?_, fun m ct b q hb => (back m ct q).elim fun d' q' => st.np m d' b q' hb, fun b z => ⟨(st.pz b z).1, ?_⟩, fun m k b x y qm qk => ?_, fun b z => ?_, fun m hm => st.new m (by rw [List.length_set] at hm; exact hm)⟩
  · by_cases hm : n = m
    · subst hm
      rw [List.getElem?_set_self hl] at q
      cases q
      exact ⟨a', ha, NZ.of hz, hc⟩
    · rw [List.getElem?_set_ne hm] at q
      obtain ⟨b, k1, k2, k3⟩ := st.at_ m ct q
      have ne : b ≠ a' := fun z => hm (st.inj n m a' c ct hn q ha (z ▸ k1))
      exact ⟨b, k1, k2, k3.same e (upd_ne ne)⟩
  · rw [show (w.put a' o).H b = w.H b from upd_ne fun q => hP (q ▸ z)]
    exact (st.pz b z).2
  · obtain ⟨x', qx⟩ := back m x qm
    obtain ⟨y', qy⟩ := back k y qk
    exact st.inj m k b x' y' qx qy
  · show upd w.H a' o b ≠ none
    by_cases hb : b = a'
    · rw [hb, upd_same]
      exact fun z => nomatch z
    · rw [upd_ne hb]
      exact st.fz b z
/-- a new cell -/
def Wd.cell (w : Wd) (n : Nat) (p : Addr) (o : HO) : Wd := ⟨fun m => if m = n then some p else w.A m, w.Z, w.P, upd w.H p o⟩
theorem Wd.cell_ext {K : Frag} {w : Wd} {s : Sto} (st : StR K w s) {p : Addr} {o : HO} (h : w.H p = none) : Ext w (w.cell s.length p o) :=
  ⟨⟨fun m a q => by
    have ne : ¬ m = s.length := fun z => by
      rw [st.new m (by omega)] at q
      exact nomatch q
    show (if m = s.length then some p else w.A m) = some a
    rw [if_neg ne]
    exact q, fun _ h => h, fun a z => upd_ne fun e => st.fz a z (e ▸ h)⟩, fun _ h => h, fun a z => upd_ne fun e => (st.pz a z).2 (e ▸ h)⟩
theorem Wd.cell_st {K : Frag} {w : Wd} {s : Sto} (st : StR K w s) {p : Addr} {o : HO} {c : Ct} (h : w.H p = none) (hc : CtR K (w.cell s.length p o) p c) : StR K (w.cell s.length p o) (s ++ [some c]) := by
  have e := Wd.cell_ext st (o := o) h
  have old : ∀ m ct, m < s.length → s[m]? = some (some ct) → ∃ a, w.A m = some a ∧ NZ w a ct ∧ CtR K w a ct ∧ a ≠ p := fun m ct _ q => by
    obtain ⟨a, h1, h2, h3⟩ := st.at_ m ct q
    obtain ⟨ob, ho, _⟩ := h3.some
    exact ⟨a, h1, h2, h3, ne_of_none ho h⟩
  have at' : ∀ m ct, (s ++ [some c])[m]? = some (some ct) → (m < s.length ∧ s[m]? = some (some ct)) ∨ (m = s.length ∧ ct = c) := fun m ct q => by
    by_cases hm : m < s.length
    · rw [List.getElem?_append_left hm] at q
      exact .inl ⟨hm, q⟩
    · rw [List.getElem?_append_right (by omega)] at q
      by_cases h0 : m - s.length = 0
      · rw [h0] at q
        exact .inr ⟨by omega, by simpa using q.symm⟩
      · rw [List.getElem?_eq_none (by simp; omega)] at q
        cases q
  have nz : ¬ w.Z p := fun z => st.fz p z h
  have AtN : (w.cell s.length p o).A s.length = some p := if_pos rfl
  have AtO : ∀ m, m < s.length → (w.cell s.length p o).A m = w.A m := fun m hm => if_neg (by omega)
  refine ⟨fun m ct q => ?_, fun m ct b q hb => ?_, fun b z => ⟨(st.pz b z).1, ?_⟩, fun m k b x y qm qk hm hk => ?_, fun b z => ?_, fun m hm => ?_⟩
  · rcases at' m ct q with ⟨hm, q⟩ | ⟨rfl, rfl⟩
    · obtain ⟨a, h1, h2, h3, ne⟩ := old m ct hm q
      exact ⟨a, (AtO m hm).trans h1, h2, h3.same e (upd_ne ne)⟩
    · exact ⟨p, AtN, NZ.of nz, hc⟩
  · rcases at' m ct q with ⟨lm, q'⟩ | ⟨rfl, rfl⟩
    · rw [AtO m lm] at hb
      exact st.np m ct b q' hb
    · rw [AtN] at hb
      cases hb
      exact fun z => (st.pz p z).2 h
  · rw [show (w.cell s.length p o).H b = w.H b from upd_ne fun q => (st.pz b z).2 (q ▸ h)]
    exact (st.pz b z).2
  · rcases at' m x qm with ⟨lm, qm'⟩ | ⟨rfl, rfl⟩
    · rcases at' k y qk with ⟨lk, qk'⟩ | ⟨rfl, rfl⟩
      · rw [AtO m lm] at hm
        rw [AtO k lk] at hk
        exact st.inj m k b x y qm' qk' hm hk
      · obtain ⟨a, h1, _, _, ne⟩ := old m x lm qm'
        rw [AtO m lm, h1] at hm
        rw [AtN] at hk
        exact absurd ((Option.some.inj hm).trans (Option.some.inj hk).symm) ne
    · rcases at' k y qk with ⟨lk, qk'⟩ | ⟨rfl, rfl⟩
      · obtain ⟨a, h1, _, _, ne⟩ := old k y lk qk'
        rw [AtO k lk, h1] at hk
        rw [AtN] at hm
        exact absurd ((Option.some.inj hk).trans (Option.some.inj hm).symm) ne
      · rfl
  · show upd w.H p o b ≠ none
    by_cases hb : b = p
    · rw [hb, upd_same]
      exact fun z => nomatch z
    · rw [upd_ne hb]
      exact st.fz b z
  · have hm' : s.length + 1 ≤ m := by
      rw [List.length_append] at hm
      exact hm
    show (if m = s.length then some p else w.A m) = none
    rw [if_neg (by omega)]
    exact st.new m (by omega)
/-- a cell is frozen -/
def Wd.ice (w : Wd) (a : Addr) : Wd := ⟨w.A, fun b => w.Z b ∨ b = a, w.P, w.H⟩
theorem Wd.ice_ext {w : Wd} {a : Addr} : Ext w (w.ice a) := ⟨⟨fun _ _ h => h, fun _ h => .inl h, fun _ _ => rfl⟩, fun _ h => h, fun _ _ => rfl⟩
theorem Wd.ice_st {K : Frag} {w : Wd} {s : Sto} (st : StR K w s) {n : Nat} {c : Ct} {a : Addr} (hn : s[n]? = some (some c)) (ha : w.A n = some a) : StR K (w.ice a) (s.set n none) := by
  obtain ⟨a', h1, h2, h3⟩ := st.at_ n c hn
  have ea : a' = a := Option.some.inj (h1.symm.trans ha)
  subst ea
  have hl : n < s.length := (List.getElem?_eq_some_iff.mp hn).1
  have back : ∀ m d, (s.set n none)[m]? = some (some d) → m ≠ n ∧ s[m]? = some (some d) := fun m d q => by
    by_cases hm : n = m
    · subst hm
      rw [List.getElem?_set_self hl] at q
      cases q
    · rw [List.getElem?_set_ne hm] at q
      exact ⟨fun z => hm z.symm, q⟩
  refine ⟨fun m ct q => ?_, fun m ct b q => st.np m ct b (back m ct q).2, fun b z => ⟨fun q => q.elim (st.pz b z).1 fun e => st.np n c a' hn ha (e ▸ z), (st.pz b z).2⟩, fun m k b x y qm qk => st.inj m k b x y (back m x qm).2 (back k y qk).2, fun b z => ?_, fun m hm => st.new m (by rw [List.length_set] at hm; exact hm)⟩
  · obtain ⟨hm, q⟩ := back m ct q
    obtain ⟨b, k1, k2, k3⟩ := st.at_ m ct q
    have ne : b ≠ a' := fun z => hm (st.inj m n a' ct c q hn (z ▸ k1) ha)
    exact ⟨b, k1, k2.mono (w' := w.ice a') fun (z : w.Z b ∨ b = a') => Or.elim z id fun q => absurd q ne, k3.same Wd.ice_ext rfl⟩
  · rcases z with z | z
    · exact st.fz b z
    · obtain ⟨ob, ho, _⟩ := h3.some
      show w.H b ≠ none
      rw [z, ho]
      exact fun z => nomatch z

/-- a cell is locked: read by everybody, written by nobody -/
def Wd.lock (w : Wd) (a : Addr) (o : HO) : Wd := ⟨w.A, fun b => w.Z b ∨ b = a, w.P, upd w.H a o⟩
theorem Wd.lock_ext {w : Wd} {a : Addr} {o : HO} (h : ¬ w.Z a) (hP : ¬ w.P a) : Ext w (w.lock a o) :=
  ⟨⟨fun _ _ h => h, fun _ h => .inl h, fun b z => upd_ne fun e => h (e ▸ z)⟩, fun _ h => h, fun b z => upd_ne fun e => hP (e ▸ z)⟩
theorem Wd.lock_st {K : Frag} {w : Wd} {s : Sto} (st : StR K w s) {n : Nat} {c : Ct} {m : List (Key × D)} {a : Addr} {o : HO} (hn : s[n]? = some (some c)) (ha : w.A n = some a) (hz : ¬ w.Z a) (hc : CtR K (w.lock a o) a (.rod m)) : StR K (w.lock a o) (s.set n (some (.rod m))) := by
  have hl : n < s.length := (List.getElem?_eq_some_iff.mp hn).1
  have hP := st.np n c a hn ha
  have e : Ext w (w.lock a o) := Wd.lock_ext hz hP
  have back : ∀ m' d, (s.set n (some (.rod m)))[m']? = some (some d) → ∃ d', s[m']? = some (some d') := fun m' d q => by
    by_cases hm : n = m'
    · subst hm
      exact ⟨c, hn⟩
    · rw [List.getElem?_set_ne hm] at q
      exact ⟨d, q⟩
  refine ⟨fun m' ct q => ?_, fun m' ct b q hb => (back m' ct q).elim fun d' q' => st.np m' d' b q' hb, fun b z => ⟨fun q => Or.elim q (st.pz b z).1 fun e => hP (e ▸ z), ?_⟩, fun m' k b x y qm qk => ?_, fun b z => ?_, fun m' hm => st.new m' (by rw [List.length_set] at hm; exact hm)⟩
  · by_cases hm : n = m'
    · subst hm
      rw [List.getElem?_set_self hl] at q
      cases q
      exact ⟨a, ha, trivial, hc⟩
    · rw [List.getElem?_set_ne hm] at q
      obtain ⟨b, k1, k2, k3⟩ := st.at_ m' ct q
      have ne : b ≠ a := fun z => hm (st.inj n m' a c ct hn q ha (z ▸ k1))
      exact ⟨b, k1, k2.mono (w' := w.lock a o) fun (z : w.Z b ∨ b = a) => Or.elim z id fun q => absurd q ne, k3.same e (upd_ne ne)⟩
  · rw [show (w.lock a o).H b = w.H b from upd_ne fun q => hP (q ▸ z)]
    exact (st.pz b z).2
  · obtain ⟨x', qx⟩ := back m' x qm
    obtain ⟨y', qy⟩ := back k y qk
    exact st.inj m' k b x' y' qx qy
  · show upd w.H a o b ≠ none
    by_cases hb : b = a
    · rw [hb, upd_same]
      exact fun z => nomatch z
    · rw [upd_ne hb]
      exact st.fz b (Or.elim z id fun q => absurd q hb)

/-! ### what is wanted behind -/
/-- an exception's own dict: its fields -/
def ExR (K : Frag) (w : Wd) : Option Addr → List (Str × D) → Prop
  | none, fs => fs = []
  | some a, fs => w.Z a ∧ ∃ l, w.H a = some (.xd l) ∧ KVR K w l fs
theorem Rep.exnK {K : Frag} {w : Wd} {a : Addr} {C : Str} : ∀ {d : Option Addr} {fs : List (Str × D)}, ExR K w d fs → Rep K w (.ref a) (.exn a d C fs)
  | none, _, h => by
    cases h
    exact .exn0
  | some dx, fs, ⟨z, l, h, r⟩ => by
    obtain ⟨ks, vs, ds, rfl, rfl, hl, hr⟩ := r.to_zip
    exact .exn z h hl hr
theorem Rep.exn_inv {K : Frag} {w : Wd} {v : V} {a : Addr} {C : Str} {d : Option Addr} {fs : List (Str × D)} (h : Rep K w v (.exn a d C fs)) : v = .ref a ∧ ExR K w d fs := by
  cases h with
  | exn0 => exact ⟨rfl, rfl⟩
  | exn z h hl r => exact ⟨rfl, z, _, h, KVR.of_zip hl r⟩
def Post {T U : Type} (K : Frag) (R : Wd → U → T → Prop) (w : Wd) (E : XK) (Q : U → Hp → Prop) : Res T → Prop
  | .ok a s' => ∀ x w', Ext w w' → StR K w' s' → R w' x a → Q x w'.H
  | .exc C fs s' => ∀ ed w', Ext w w' → StR K w' s' → ExR K w' ed fs → E (.ref (He.ga K C)) ed w'.H
  | .bad => False
theorem Post.ext {T U : Type} {K : Frag} {R : Wd → U → T → Prop} {w w1 : Wd} {E : XK} {Q : U → Hp → Prop} (e : Ext w w1) : ∀ {r : Res T}, Post K R w E Q r → Post K R w1 E Q r
  | .ok _ _, h => fun x w' e' => h x w' (e.trans e')
  | .exc _ _ _, h => fun x w' e' => h x w' (e.trans e')
  | .bad, h => h
def tM {T U : Type} (K : Frag) (R : Wd → U → T → Prop) (W : WX) (m : DM T) : L2.St → Hp → (U → Hp → Prop) → Prop := fun t H Q =>
  ∃ r s w, w.H = H ∧ EnvR K w r t ∧ StR K w s ∧ Post K R w (fun c d H' => W c d t H') Q (m r s)
abbrev tE (K : Frag) (W : WX) (m : DE) : TE := tM K (Rep K) W m
abbrev tT (K : Frag) (W : WX) (m : DM Bool) : TT := tM K (fun _ (b c : Bool) => b = c) W m
abbrev tA (K : Frag) (W : WX) (m : DM (List D)) : TA := tM K (Reps K) W m
theorem Post.bind {T T' U U' : Type} {K : Frag} {R : Wd → U → T → Prop} {R' : Wd → U' → T' → Prop} {w : Wd} {r : En} {t : L2.St} {s : Sto} {W : WX} {Q : U' → Hp → Prop} {P : U → Hp → Prop} {m : DM T} {f : T → DM T'}
    (hp : Post K R' w (fun c d H' => W c d t H') Q (bindM m f r s)) (env : EnvR K w r t) (st : StR K w s)
    (k : ∀ x a s1 w1, Ext w w1 → StR K w1 s1 → R w1 x a → Post K R' w1 (fun c d H' => W c d t H') Q (f a r s1) → P x w1.H) : tM K R W m t w.H P := by
  refine ⟨r, s, w, rfl, env, st, ?_⟩
  unfold bindM at hp
  cases e : m r s with
  | ok a s1 =>
    rw [e] at hp
    exact fun x w1 e1 st1 r1 => k x a s1 w1 e1 st1 r1 (Post.ext e1 hp)
  | exc C fs s1 =>
    rw [e] at hp
    exact hp
  | bad =>
    rw [e] at hp
    exact hp
theorem Post.pure {T U : Type} {K : Frag} {R : Wd → U → T → Prop} {w : Wd} {E : XK} {Q : U → Hp → Prop} {a : T} {s : Sto} {x : U} (hp : Post K R w E Q (.ok a s)) (st : StR K w s) (h : R w x a) : Q x w.H := hp x w (Ext.refl w) st h
section
variable {X : Cx} {e : Expr} {es : List Expr}
theorem PE.imp {t t' : TE} (h : PE X e t) (i : ∀ σ H Q, t' σ H Q → t σ H Q) : PE X e t' := ⟨fun pins s σ H Q I q => h.run pins s σ H Q I (i _ _ _ q)⟩
theorem PT.imp {t t' : TT} (h : PT X e t) (i : ∀ σ H Q, t' σ H Q → t σ H Q) : PT X e t' := ⟨fun pins s σ H Q I q => h.run pins s σ H Q I (i _ _ _ q)⟩
theorem PA.imp {t t' : TA} (h : PA X es t) (i : ∀ σ H Q, t' σ H Q → t σ H Q) : PA X es t' := ⟨fun pos pins s σ H Q I q => h.run pos pins s σ H Q I (i _ _ _ q)⟩
theorem PS.imp {st : Stmt} {t t' : TS} (h : PS X st t) (i : ∀ D σ H, t' D σ H → t D σ H) : PS X st t' := ⟨fun pins s σ H D I q => h.run pins s σ H D I (i _ _ _ q)⟩
theorem PSs.imp {st : List Stmt} {t t' : TS} (h : PSs X st t) (i : ∀ D σ H, t' D σ H → t D σ H) : PSs X st t' := ⟨fun pins s σ H D I q => h.run pins s σ H D I (i _ _ _ q)⟩
theorem OpR.or {f : Value → Value → Sem Value} {r1 r2 : R2} (h1 : OpR X f r1) (h2 : OpR X f r2) : OpR X f (fun x y H Q => r1 x y H Q ∨ r2 x y H Q) := fun pins s σ H x y v u Q I rx ry h =>
  h.elim (h1 pins s σ H x y v u Q I rx ry) (h2 pins s σ H x y v u Q I rx ry)
theorem CallR.or {f : Value} {r1 r2 : List V → Hp → VK → Prop} (h1 : CallR X f r1) (h2 : CallR X f r2) : CallR X f (fun x H Q => r1 x H Q ∨ r2 x H Q) := fun pins s σ H x v Q I rx h =>
  h.elim (h1 pins s σ H x v Q I rx) (h2 pins s σ H x v Q I rx)
theorem PE.or {t1 t2 : TE} (h1 : PE X e t1) (h2 : PE X e t2) : PE X e (fun σ H Q => t1 σ H Q ∨ t2 σ H Q) := ⟨fun pins s σ H Q I q => q.elim (h1.run pins s σ H Q I) (h2.run pins s σ H Q I)⟩
end

/-! ### statements -/
def PostS (K : Frag) (w : Wd) (W : WX) (E : Ends) : Fl → Prop
  | .nx r' s' => ∀ t' w', Ext w w' → EnvR K w' r' t' → StR K w' s' → E.nx t' w'.H
  | .rt d s' => ∀ v w', Ext w w' → StR K w' s' → Rep K w' v d → E.rt v w'.H
  | .bk r' s' => ∀ t' w', Ext w w' → EnvR K w' r' t' → StR K w' s' → E.bk t' w'.H
  | .ct r' s' => ∀ t' w', Ext w w' → EnvR K w' r' t' → StR K w' s' → E.ct t' w'.H
  | .exc C fs r' s' => ∀ t' ed w', Ext w w' → EnvR K w' r' t' → StR K w' s' → ExR K w' ed fs → W (.ref (He.ga K C)) ed t' w'.H
  | .bad => False
theorem PostS.ext {K : Frag} {w w1 : Wd} {W : WX} {E : Ends} (e : Ext w w1) : ∀ {r : Fl}, PostS K w W E r → PostS K w1 W E r
  | .nx _ _, h => fun x w' e' => h x w' (e.trans e')
  | .rt _ _, h => fun x w' e' => h x w' (e.trans e')
  | .bk _ _, h => fun x w' e' => h x w' (e.trans e')
  | .ct _ _, h => fun x w' e' => h x w' (e.trans e')
  | .exc _ _ _ _, h => fun x y w' e' => h x y w' (e.trans e')
  | .bad, h => h
def tS (K : Frag) (W : WX) (m : DS) : TS := fun E t H => ∃ r s w, w.H = H ∧ EnvR K w r t ∧ StR K w s ∧ PostS K w W E (m r s)
/-- a statement that goes on with what an expression gives -/
def thenS {T : Type} (m : DM T) (f : T → DS) : DS := fun r s => match m r s with
  | .ok a s' => f a r s'
  | .exc C fs s' => .exc C fs r s'
  | .bad => .bad
theorem PostS.bind {T U : Type} {K : Frag} {R : Wd → U → T → Prop} {w : Wd} {r : En} {t : L2.St} {s : Sto} {W : WX} {E : Ends} {P : U → Hp → Prop} {m : DM T} {f : T → DS}
    (hp : PostS K w W E (thenS m f r s)) (env : EnvR K w r t) (st : StR K w s)
    (k : ∀ x a s1 w1, Ext w w1 → StR K w1 s1 → R w1 x a → PostS K w1 W E (f a r s1) → P x w1.H) : tM K R W m t w.H P := by
  refine ⟨r, s, w, rfl, env, st, ?_⟩
  unfold thenS at hp
  cases e : m r s with
  | ok a s1 =>
    rw [e] at hp
    exact fun x w1 e1 st1 r1 => k x a s1 w1 e1 st1 r1 (PostS.ext e1 hp)
  | exc C fs s1 =>
    rw [e] at hp
    exact fun ed w1 e1 st1 x1 => hp t ed w1 e1 (env.ext e1) st1 x1
  | bad =>
    rw [e] at hp
    exact hp
end Mp

set_option Elab.async false
set_option linter.all false
set_option maxRecDepth 100000
set_option maxHeartbeats 4000000
/-! Mp: expressions without own objects. -/
namespace Mp
open PySem PySem.Spec PyProof.Rows L2

/-! ### on data -/
def vM (i : Nat) : DE := fun r s => match r[i]? with
  | some (some d) => .ok d s
  | _ => .bad
def cM (d : D) : DE := fun _ s => .ok d s
def binM (f : D → D → Sto → Res D) (a b : DE) : DE := bindM a fun x => bindM b fun y => fun _ s => f x y s
def unM (f : D → Sto → Res D) (a : DE) : DE := bindM a fun x => fun _ s => f x s
def intI (c : Int → Int → Bool) (g : Int → Int → D) (x y : D) (s : Sto) : Res D := match x with
  | .int i => (match y with
    | .int j => if c i j = true then .ok (g i j) s else .bad
    | _ => .bad)
  | _ => .bad
/-- a list of one's own: frozen, a cell's -/
def lstX (s : Sto) : D → Option (List D)
  | .lst l => some l
  | .cel n => (match s[n]? with
    | some (some (.lst l)) => some l
    | _ => none)
  | _ => none
/-- a list that is read -/
def lstOf (s : Sto) : D → Option (List D)
  | .rol l => some l
  | x => lstX s x
def dctOf (s : Sto) : D → Option (List (Key × D))
  | .dct l => some l
  | .cel n => (match s[n]? with
    | some (some (.dct l)) => some l
    | some (some (.rod l)) => some l
    | _ => none)
  | _ => none
def insOf (s : Sto) : D → Option (Str × List (Str × D))
  | .ins C l => some (C, l)
  | .cel n => (match s[n]? with
    | some (some (.ins C l)) => some (C, l)
    | _ => none)
  | _ => none
def addD (x y : D) (s : Sto) : Res D := match x with
  | .int i => (match y with
    | .int j => .ok (.int (i + j)) s
    | _ => .bad)
  | .str i => (match y with
    | .str j => if i.length + j.length ≤ sizeLine then .ok (.str (i ++ j)) s else .bad
    | _ => .bad)
  | .tup i => (match y with
    | .tup j => if i.length + j.length ≤ sizeLine then .ok (.tup (i ++ j)) s else .bad
    | _ => .bad)
  | x => (match lstX s x with
    | some i => (match lstX s y with
      | some j => if i.length + j.length ≤ sizeLine then .ok (.lst (i ++ j)) s else .bad
      | none => .bad)
    | none => .bad)
def subD (x y : D) (s : Sto) : Res D := match x with
  | .int i => (match y with
    | .int j => .ok (.int (i - j)) s
    | _ => .bad)
  | _ => .bad
def mulC (i j : Int) : Bool := decide (i.natAbs.log2 + j.natAbs.log2 < 1000000)
@[irreducible] def mulD (x y : D) (s : Sto) : Res D := match x with
  | .int i => (match y with
    | .int j => if mulC i j = true then .ok (.int (i * j)) s else .bad
    | _ => .bad)
  | x => (match lstX s x with
    | none => .bad
    | some l => match y with
    | .int k => if 0 ≤ k ∧ k < 2 ^ 62 ∧ l.length * k.toNat ≤ sizeLine then .ok (.lst (List.replicate k.toNat l).flatten) s else .bad
    | _ => .bad)
@[irreducible] def divD (x y : D) (s : Sto) : Res D := match x with
  | .int i => (match y with
    | .int j => if 0 < j ∧ j.natAbs.log2 < 9000 then .ok (.int (i / j)) s else if j < 0 ∧ j.natAbs.log2 < 9000 then .ok (.int (i.fdiv j)) s else .bad
    | _ => .bad)
  | _ => .bad
def modD (x y : D) (s : Sto) : Res D := match x with
  | .int i => (match y with
    | .int j => if 0 < j then .ok (.int (i % j)) s else if j < 0 then .ok (.int (i.fmod j)) s else .bad
    | _ => .bad)
  | _ => .bad
@[irreducible] def powD (x y : D) (s : Sto) : Res D := match x with
  | .int i => (match y with
    | .int j => if 0 ≤ j ∧ j ≤ 1000000 ∧ i.natAbs < 2 ^ 64 then .ok (.int (i ^ j.toNat)) s else .bad
    | _ => .bad)
  | _ => .bad
def negD (x : D) (s : Sto) : Res D := match x with
  | .int i => .ok (.int (-i)) s
  | _ => .bad
/-- truth -/
def truD (s : Sto) : D → Option Bool
  | .non => some false
  | .bl b => some b
  | .int i => some (i != 0)
  | .str z => if z.length ≤ sizeLine then some ((z.length : Int) != 0) else none
  | .tup l => some (!l.isEmpty)
  | x => (lstOf s x).map fun l => !l.isEmpty
def truM (a : DE) : DM Bool := bindM a fun x => fun _ s => match truD s x with
  | some b => .ok b s
  | none => .bad
def notV (a : DE) : DE := bindM (truM a) fun b => pureM (.bl (!b))
def andV (a b : DE) : DE := bindM a fun x => bindM (truM (cM x)) fun k => if k = true then b else pureM x
def orV (a b : DE) : DE := bindM a fun x => bindM (truM (cM x)) fun k => if k = true then pureM x else b
def notT (a : DM Bool) : DM Bool := bindM a fun b => pureM (!b)
def andT (a b : DM Bool) : DM Bool := bindM a fun k => if k = true then b else pureM false
def orT (a b : DM Bool) : DM Bool := bindM a fun k => if k = true then pureM true else b
def ifM (c : DM Bool) (a b : DE) : DE := bindM c fun k => if k = true then a else b
/-- a test that a value's own bool makes -/
def blM (a : DE) : DM Bool := bindM a fun x => fun _ s => match x with
  | .bl b => .ok b s
  | _ => .bad
def ltD (g : Int → Int → Bool) (h : List Nat → List Nat → Bool) (x y : D) (s : Sto) : Res D := match x with
  | .int i => (match y with
    | .int j => .ok (.bl (g i j)) s
    | _ => .bad)
  | .str i => (match y with
    | .str j => .ok (.bl (h i.cps.toList j.cps.toList)) s
    | _ => .bad)
  | _ => .bad
abbrev ltI : D → D → Sto → Res D := ltD (fun i j => decide (i < j)) (fun i j => decide (i < j))
abbrev leI : D → D → Sto → Res D := ltD (fun i j => decide (i ≤ j)) (fun i j => !decide (j < i))
abbrev gtI : D → D → Sto → Res D := ltD (fun i j => decide (j < i)) (fun i j => decide (j < i))
abbrev geI : D → D → Sto → Res D := ltD (fun i j => decide (j ≤ i)) (fun i j => !decide (i < j))
def isNoneD (x y : D) (s : Sto) : Res D := match y with
  | .non => (match x with
    | .non => .ok (.bl true) s
    | _ => .ok (.bl false) s)
  | _ => .bad
def isNotNoneD (x y : D) (s : Sto) : Res D := match y with
  | .non => (match x with
    | .non => .ok (.bl false) s
    | _ => .ok (.bl true) s)
  | _ => .bad

/-! ### soundness -/
section
variable {K : Frag} {w : Wd} {s : Sto} {x : V} {d : D}
theorem lstX_ok {l : List D} (st : StR K w s) (r : Rep K w x d) (h : lstX s d = some l) : ∃ p vs, x = .ref p ∧ w.H p = some (.lst vs) ∧ Reps K w vs l := by
  cases r with
  | lst z hh rs =>
    cases h
    exact ⟨_, _, rfl, hh, rs⟩
  | @cel n a0 ha =>
    have h' : (match s[n]? with
      | some (some (.lst l)) => some l
      | _ => none) = some l := h
    cases e : s[n]? with
    | none => rw [e] at h'; cases h'
    | some o =>
      rw [e] at h'
      cases o with
      | none => cases h'
      | some c =>
        cases c with
        | lst l1 =>
          cases h'
          obtain ⟨a1, h1, _, vs, hh, rs⟩ := st.at_ n _ e
          have ea : a1 = a0 := Option.some.inj (h1.symm.trans ha)
          subst ea
          exact ⟨_, vs, rfl, hh, rs⟩
        | _ => cases h'
  | _ => cases h
theorem lstOf_ok {l : List D} (st : StR K w s) (r : Rep K w x d) (h : lstOf s d = some l) : ∃ p vs, x = .ref p ∧ SqL K w.H p vs ∧ Reps K w vs l := by
  have key : lstX s d = some l → ∃ p vs, x = .ref p ∧ SqL K w.H p vs ∧ Reps K w vs l := fun h => by
    obtain ⟨p, vs, h1, h2, h3⟩ := lstX_ok st r h
    exact ⟨p, vs, h1, SqL.of h2, h3⟩
  cases d with
  | rol l1 =>
    cases h
    cases r with
    | rol hh rs => exact ⟨_, _, rfl, hh.sq, rs⟩
  | _ => exact key h
theorem dctOf_ok {m : List (Key × D)} (st : StR K w s) (r : Rep K w x d) (h : dctOf s d = some m) : ∃ p l, x = .ref p ∧ Rd w.H p (.dK l) ∧ KVR K w l m := by
  cases d with
  | dct m1 =>
    cases h
    obtain ⟨a, o, l, rfl, _, h1, h2⟩ := r.dct_inv
    exact ⟨a, l, rfl, .inr ⟨o, h1⟩, h2⟩
  | cel n =>
    have h' : (match s[n]? with
      | some (some (.dct l)) => some l
      | some (some (.rod l)) => some l
      | _ => none) = some m := h
    cases r with
    | cel ha =>
      cases e : s[n]? with
      | none => rw [e] at h'; cases h'
      | some o =>
        rw [e] at h'
        cases o with
        | none => cases h'
        | some c =>
          cases c with
          | dct l1 =>
            cases h'
            obtain ⟨a1, h1, _, l, hh, rs⟩ := st.at_ n _ e
            have ea := Option.some.inj (h1.symm.trans ha)
            subst ea
            exact ⟨_, l, rfl, .inl hh, rs⟩
          | rod l1 =>
            cases h'
            obtain ⟨a1, h1, _, o, l, _, hh, rs⟩ := st.at_ n _ e
            have ea := Option.some.inj (h1.symm.trans ha)
            subst ea
            exact ⟨_, l, rfl, .inr ⟨o, hh⟩, rs⟩
          | _ => cases h'
  | _ => cases h
theorem insOf_ok {C : Str} {m : List (Str × D)} (st : StR K w s) (r : Rep K w x d) (h : insOf s d = some (C, m)) : ∃ p dx l, x = .ref p ∧ w.H p = some (.ins (He.ga K C) dx l) ∧ KVR K w l m := by
  cases d with
  | ins C1 m1 =>
    cases h
    obtain ⟨a, dx, l, rfl, _, h1, h2⟩ := r.ins_inv
    exact ⟨a, dx, l, rfl, h1, h2⟩
  | cel n =>
    have h' : (match s[n]? with
      | some (some (.ins C l)) => some (C, l)
      | _ => none) = some (C, m) := h
    cases r with
    | cel ha =>
      cases e : s[n]? with
      | none => rw [e] at h'; cases h'
      | some o =>
        rw [e] at h'
        cases o with
        | none => cases h'
        | some c =>
          cases c with
          | ins C1 l1 =>
            cases h'
            obtain ⟨a1, h1, _, dx, l, hh, rs⟩ := st.at_ n _ e
            have ea := Option.some.inj (h1.symm.trans ha)
            subst ea
            exact ⟨_, dx, l, rfl, hh, rs⟩
          | _ => cases h'
  | _ => cases h
end
section
variable {X : Cx} {W : WX} {a b c : Expr} {pos : Pos} {ma mb mc : DE}
theorem e_var {i : Nat} {x : Str} (hN : X.N[i]? = some x) (hv : Vis X.env.scope x) (hd : (x == ("__debug__" : Str)) = false) (hcd : (x == ("__classdict__" : Str)) = false) : PE X (.Name x pos) (tE X.K W (vM i)) :=
  PE.imp (pe_var hN hv hd hcd) fun t H Q h => by
    obtain ⟨r, s, w, rfl, env, st, hp⟩ := h
    unfold vM at hp
    cases e : r[i]? with
    | none =>
      rw [e] at hp
      exact hp.elim
    | some o =>
      cases o with
      | none =>
        rw [e] at hp
        exact hp.elim
      | some d =>
        rw [e] at hp
        obtain ⟨v, h1, h2⟩ := env.2 i d e
        exact ⟨v, h1, hp.pure st h2⟩
theorem ev (i : Nat) {x : Str} (hN : X.N[i]? = some x := by rfl) (hv : Vis X.env.scope x := by first | exact Or.inl rfl | exact Or.inr (Or.inl rfl) | exact Or.inr (Or.inr rfl)) (hd : (x == ("__debug__" : Str)) = false := by decide)
    (hcd : (x == ("__classdict__" : Str)) = false := by decide) : PE X (.Name x pos) (tE X.K W (vM i)) := e_var hN hv hd hcd
theorem e_c {e : Expr} {v : V} {d : D} (h : PE X e (tC v)) (hr : ∀ w, Rep X.K w v d) : PE X e (tE X.K W (cM d)) := PE.imp h fun t H Q h => by
  obtain ⟨r, s, w, rfl, env, st, hp⟩ := h
  exact hp.pure st (hr w)
theorem e_int {i : Int} {j : Nat} : PE X (.Constant (.int i) j pos) (tE X.K W (cM (.int i))) := e_c pe_int fun _ => .int i
theorem e_bl {i : Bool} {j : Nat} : PE X (.Constant (.bool i) j pos) (tE X.K W (cM (.bl i))) := e_c pe_bl fun _ => .bl i
theorem e_non {j : Nat} : PE X (.Constant .none j pos) (tE X.K W (cM .non)) := e_c pe_non fun _ => .non
theorem e_str {z : Str} {j : Nat} : PE X (.Constant (.str z) j pos) (tE X.K W (cM (.str z))) := e_c pe_str fun _ => .str z
theorem e_gint {x : Str} {i : Int} (hg : Gl X x) (hm : ∃ t, X.mg x = some (.int i t)) (hd : (x == ("__debug__" : Str)) = false := by decide) : PE X (.Name x pos) (tE X.K W (cM (.int i))) := by
  obtain ⟨t, hm⟩ := hm
  exact e_c (pe_glob (v := .int i) hg hm ⟨_, rfl⟩ hd) fun _ => .int i
theorem e_gstr {x z : Str} (hg : Gl X x) (hm : ∃ t, X.mg x = some (.str z t)) (hd : (x == ("__debug__" : Str)) = false := by decide) : PE X (.Name x pos) (tE X.K W (cM (.str z))) := by
  obtain ⟨t, hm⟩ := hm
  exact e_c (pe_glob (v := .str z) hg hm ⟨_, rfl⟩ hd) fun _ => .str z
theorem e_glo {x : Str} (hg : Gl X x) (hm : X.mg x = some (.ref (He.ga X.K x))) (hd : (x == ("__debug__" : Str)) = false := by decide) : PE X (.Name x pos) (tE X.K W (cM (.glo x))) :=
  e_c (pe_glob (v := .ref (He.ga X.K x)) hg hm rfl hd) fun _ => .glo x
/-- a written tuple of the top -/
theorem e_gtup {x : Str} {vs : List V} {ds : List D} (hg : Gl X x) (hm : X.mg x = some (.ref (He.ga X.K x))) (hk : KT X.K (He.ga X.K x) vs) (hr : ∀ w, Reps X.K w vs ds) (hd : (x == ("__debug__" : Str)) = false := by decide) : PE X (.Name x pos) (tE X.K W (cM (.tup ds))) :=
  e_c (pe_glob (v := .ref (He.ga X.K x)) hg hm rfl hd) fun w => .tup (.inr hk) (hr w)
/-- a built-in class as a value -/
theorem e_ty {x : Str} {n : String} (hg : Gl X x) (hm : X.mg x = none) (hv : bootBuiltins x = some (.type n)) (hn : x ≠ "__name__" := by decide) (hd : (x == ("__debug__" : Str)) = false := by decide) : PE X (.Name x pos) (tE X.K W (cM (.ty n))) :=
  e_c (pe_bltn (v := .ty n) hg hm hv rfl hn hd) fun _ => .ty n
/-- what an operation on values asks, from what the data's operation gives -/
def VR2 (K : Frag) (r : R2) (f : D → D → Sto → Res D) : Prop := ∀ w s x y a b Q E, StR K w s → Rep K w x a → Rep K w y b → Post K (Rep K) w E Q (f a b s) → r x y w.H Q
theorem e_bin {op : Operator} {f : D → D → Sto → Res D} {r : R2} (ho : OpR X (binaryOp op) r) (hv : VR2 X.K r f) (ha : PE X a (tE X.K W ma)) (hb : PE X b (tE X.K W mb)) : PE X (.BinOp a op b pos) (tE X.K W (binM f ma mb)) :=
  PE.imp (pe_op ho ha hb) fun t H Q h => by
    obtain ⟨r, s, w, rfl, env, st, hp⟩ := h
    exact hp.bind env st fun x d s1 w1 e1 st1 r1 hp1 => hp1.bind (env.ext e1) st1 fun y d2 s2 w2 e2 st2 r2 hp2 => hv w2 s2 x y d d2 Q _ st2 (r1.ext e2) r2 hp2
theorem e_cmp {op : CmpOp} {f : D → D → Sto → Res D} {r : R2} (ho : OpR X (compareOp op) r) (hv : VR2 X.K r f) (ha : PE X a (tE X.K W ma)) (hb : PE X b (tE X.K W mb)) (hm : behindInMarks op b = false) : PE X (.Compare a [op] [b] pos) (tE X.K W (binM f ma mb)) :=
  PE.imp (pe_cmpR ho ha hb hm) fun t H Q h => by
    obtain ⟨r, s, w, rfl, env, st, hp⟩ := h
    exact hp.bind env st fun x d s1 w1 e1 st1 r1 hp1 => hp1.bind (env.ext e1) st1 fun y d2 s2 w2 e2 st2 r2 hp2 => hv w2 s2 x y d d2 Q _ st2 (r1.ext e2) r2 hp2
/-- the value of a comparison is a bool -/
theorem Post.toBl {K : Frag} {w : Wd} {E : XK} {Q : Bool → Hp → Prop} {x : D} {s : Sto} (hp : Post K (fun _ (b c : Bool) => b = c) w E Q (match x with | .bl b => .ok b s | _ => .bad)) : Post K (Rep K) w E (fun v H' => ∃ k, v = V.bl k ∧ Q k H') (.ok x s) := fun v w' e st r => by
  cases r with
  | bl b => exact ⟨b, rfl, hp b w' e st rfl⟩
  | _ => exact hp.elim
theorem PostRes.toBl {K : Frag} {w : Wd} {E : XK} {Q : Bool → Hp → Prop} {r : Res D}
    (hp : Post K (fun _ (b c : Bool) => b = c) w E Q (match r with | .ok x s => (match x with | .bl b => .ok b s | _ => .bad) | .exc C fs s => .exc C fs s | .bad => .bad)) : Post K (Rep K) w E (fun v H' => ∃ k, v = V.bl k ∧ Q k H') r := by
  cases r with
  | ok x s => exact Post.toBl hp
  | exc C fs s => exact hp
  | bad => exact hp
theorem bind_assoc {T U Z : Type} (m : DM T) (f : T → DM U) (g : U → DM Z) : bindM (bindM m f) g = bindM m fun x => bindM (f x) g := by
  funext r s
  unfold bindM
  cases m r s <;> rfl
theorem t_cmp {op : CmpOp} {f : D → D → Sto → Res D} {r : R2} (ho : OpR X (compareOp op) r) (hv : VR2 X.K r f) (ha : PE X a (tE X.K W ma)) (hb : PE X b (tE X.K W mb)) (hm : behindInMarks op b = false) : PT X (.Compare a [op] [b] pos) (tT X.K W (blM (binM f ma mb))) :=
  PT.imp (pt_cmpR ho ha hb hm) fun t H Q h => by
    obtain ⟨r, s, w, rfl, env, st, hp⟩ := h
    have hp' : Post X.K (fun _ (b c : Bool) => b = c) w (fun c d H' => W c d t H') Q (bindM ma (fun x => bindM mb fun y => bindM (fun _ s => f x y s) fun z => fun _ s => match z with | .bl b => .ok b s | _ => .bad) r s) := by
      have e : blM (binM f ma mb) = bindM ma (fun x => bindM mb fun y => bindM (fun _ s => f x y s) fun z => fun _ s => match z with | .bl b => .ok b s | _ => .bad) := by
        unfold blM binM
        rw [bind_assoc]
        congr 1
        funext x
        rw [bind_assoc]
      rw [← e]
      exact hp
    exact hp'.bind env st fun x d s1 w1 e1 st1 r1 hp1 => hp1.bind (env.ext e1) st1 fun y d2 s2 w2 e2 st2 r2 hp2 => hv w2 s2 x y d d2 _ (fun c d H' => W c d t H') st2 (r1.ext e2) r2 (by
      unfold bindM at hp2
      dsimp only at hp2
      cases e : f d d2 s2 with
      | ok z s3 =>
        rw [e] at hp2
        exact Post.toBl hp2
      | exc C fs s3 =>
        rw [e] at hp2
        exact hp2
      | bad =>
        rw [e] at hp2
        exact hp2)
theorem tru_ok {w : Wd} {s : Sto} {x : V} {d : D} {k : Bool} (st : StR X.K w s) (r : Rep X.K w x d) (h : truD s d = some k) : TruV X.K x w.H k := by
  have seq : (lstOf s d).map (fun l => !l.isEmpty) = some k → TruV X.K x w.H k := fun h => by
    cases e : lstOf s d with
    | none => rw [e] at h; cases h
    | some l =>
      rw [e] at h
      obtain ⟨p, vs, rfl, hs, rs⟩ := lstOf_ok st r e
      refine .inl ⟨vs, hs, ?_⟩
      rw [← Option.some.inj h]
      cases rs <;> rfl
  cases d with
  | non =>
    cases r
    exact (Option.some.inj h).symm
  | bl b =>
    cases r
    exact (Option.some.inj h).symm
  | int i =>
    cases r
    exact (Option.some.inj h).symm
  | str z =>
    cases r
    have h' : (if z.length ≤ sizeLine then some ((z.length : Int) != 0) else none) = some k := h
    by_cases hl : z.length ≤ sizeLine
    · rw [if_pos hl] at h'
      exact ⟨hl, (Option.some.inj h').symm⟩
    · rw [if_neg hl] at h'
      cases h'
  | tup l =>
    cases r with
    | tup hh rs =>
      refine .inr (.inl ⟨_, hh.sq, ?_⟩)
      rw [← Option.some.inj h]
      cases rs <;> rfl
  | _ => exact seq h
theorem truM_bind {w : Wd} {r : En} {s : Sto} {t : L2.St} {d : D} {x : V} {T U : Type} {R : Wd → U → T → Prop} {E : XK} {Q : U → Hp → Prop} {f : Bool → DM T} (st : StR X.K w s) (hr : Rep X.K w x d) (hp : Post X.K R w E Q (bindM (truM (cM d)) f r s)) :
    ∃ k, TruV X.K x w.H k ∧ Post X.K R w E Q (f k r s) := by
  unfold truM bindM cM at hp
  dsimp only at hp
  cases e : truD s d with
  | none =>
    rw [e] at hp
    exact hp.elim
  | some k =>
    rw [e] at hp
    exact ⟨k, tru_ok st hr e, hp⟩
theorem t_truth (ha : PE X a (tE X.K W ma)) (he : ∀ whole, isTrue a X.env whole = (do let v ← whole; standAt a.pos; holding [v] (truthy v)) := by intro _; rfl) : PT X a (tT X.K W (truM ma)) :=
  PT.imp (pt_truth ha he) fun t H Q h => by
    obtain ⟨r, s, w, rfl, env, st, hp⟩ := h
    exact hp.bind env st fun x d s1 w1 e1 st1 r1 hp1 => by
      cases e : truD s1 d with
      | none =>
        rw [e] at hp1
        exact hp1.elim
      | some k =>
        rw [e] at hp1
        exact ⟨k, tru_ok st1 r1 e, hp1 k w1 (Ext.refl w1) st1 rfl⟩
theorem t_not {mt : DM Bool} (ha : PT X a (tT X.K W mt)) : PT X (.UnaryOp .Not a pos) (tT X.K W (notT mt)) := PT.imp (pt_not ha) fun t H Q h => by
  obtain ⟨r, s, w, rfl, env, st, hp⟩ := h
  exact hp.bind env st fun x d s1 w1 e1 st1 r1 hp1 => by
    subst r1
    exact hp1 _ w1 (Ext.refl w1) st1 rfl
theorem w_and1 {mt : DM Bool} (ha : PT X a (tT X.K W mt)) : PW X (.BoolOp .And [a] pos) (tT X.K W mt) := pw_and1 ha
theorem w_or1 {mt : DM Bool} (ha : PT X a (tT X.K W mt)) : PW X (.BoolOp .Or [a] pos) (tT X.K W mt) := pw_or1 ha
theorem PW.imp {e : Expr} {t t' : TT} (h : PW X e t) (i : ∀ σ H Q, t' σ H Q → t σ H Q) : PW X e t' := ⟨fun whole pins s σ H Q I q => h.run whole pins s σ H Q I (i _ _ _ q)⟩
theorem w_and {rest : List Expr} {mt mu : DM Bool} (ha : PT X a (tT X.K W mt)) (hb : PW X (.BoolOp .And (b :: rest) pos) (tT X.K W mu)) : PW X (.BoolOp .And (a :: b :: rest) pos) (tT X.K W (andT mt mu)) := PW.imp (pw_and ha hb) fun t H Q h => by
  obtain ⟨r, s, w, rfl, env, st, hp⟩ := h
  exact hp.bind env st fun x d s1 w1 e1 st1 r1 hp1 => by
    subst r1
    cases x with
    | true => exact ⟨r, s1, w1, rfl, env.ext e1, st1, hp1⟩
    | false => exact hp1 _ w1 (Ext.refl w1) st1 rfl
theorem w_or {rest : List Expr} {mt mu : DM Bool} (ha : PT X a (tT X.K W mt)) (hb : PW X (.BoolOp .Or (b :: rest) pos) (tT X.K W mu)) : PW X (.BoolOp .Or (a :: b :: rest) pos) (tT X.K W (orT mt mu)) := PW.imp (pw_or ha hb) fun t H Q h => by
  obtain ⟨r, s, w, rfl, env, st, hp⟩ := h
  exact hp.bind env st fun x d s1 w1 e1 st1 r1 hp1 => by
    subst r1
    cases x with
    | true => exact hp1 _ w1 (Ext.refl w1) st1 rfl
    | false => exact ⟨r, s1, w1, rfl, env.ext e1, st1, hp1⟩
theorem e_not (ha : PE X a (tE X.K W ma)) : PE X (.UnaryOp .Not a pos) (tE X.K W (notV ma)) := PE.imp (pe_notT ha) fun t H Q h => by
  obtain ⟨r, s, w, rfl, env, st, hp⟩ := h
  have e : notV ma = bindM ma fun x => bindM (truM (cM x)) fun b => pureM (.bl (!b)) := by
    unfold notV truM
    rw [bind_assoc]
    rfl
  rw [e] at hp
  exact hp.bind env st fun x d s1 w1 e1 st1 r1 hp1 => by
    obtain ⟨k, h1, h2⟩ := truM_bind (t := t) st1 r1 hp1
    exact ⟨k, h1, h2.pure st1 (.bl _)⟩
theorem e_one {op : BoolOp} (ha : PE X a (tE X.K W ma)) : PE X (.BoolOp op [a] pos) (tE X.K W ma) := pe_one ha
theorem e_and {rest : List Expr} (ha : PE X a (tE X.K W ma)) (hb : PE X (.BoolOp .And (b :: rest) pos) (tE X.K W mb)) : PE X (.BoolOp .And (a :: b :: rest) pos) (tE X.K W (andV ma mb)) := PE.imp (pe_andT ha hb) fun t H Q h => by
  obtain ⟨r, s, w, rfl, env, st, hp⟩ := h
  exact hp.bind env st fun x d s1 w1 e1 st1 r1 hp1 => by
    obtain ⟨k, h1, h2⟩ := truM_bind (t := t) st1 r1 hp1
    refine ⟨k, h1, ?_⟩
    cases k with
    | true => exact ⟨r, s1, w1, rfl, env.ext e1, st1, h2⟩
    | false => exact h2.pure st1 r1
theorem e_or {rest : List Expr} (ha : PE X a (tE X.K W ma)) (hb : PE X (.BoolOp .Or (b :: rest) pos) (tE X.K W mb)) : PE X (.BoolOp .Or (a :: b :: rest) pos) (tE X.K W (orV ma mb)) := PE.imp (pe_orT ha hb) fun t H Q h => by
  obtain ⟨r, s, w, rfl, env, st, hp⟩ := h
  exact hp.bind env st fun x d s1 w1 e1 st1 r1 hp1 => by
    obtain ⟨k, h1, h2⟩ := truM_bind (t := t) st1 r1 hp1
    refine ⟨k, h1, ?_⟩
    cases k with
    | true => exact h2.pure st1 r1
    | false => exact ⟨r, s1, w1, rfl, env.ext e1, st1, h2⟩
theorem e_if {mt : DM Bool} (hc : PT X c (tT X.K W mt)) (ha : PE X a (tE X.K W ma)) (hb : PE X b (tE X.K W mb)) : PE X (.IfExp c a b pos) (tE X.K W (ifM mt ma mb)) := PE.imp (pe_ifExp hc ha hb) fun t H Q h => by
  obtain ⟨r, s, w, rfl, env, st, hp⟩ := h
  exact hp.bind env st fun x d s1 w1 e1 st1 r1 hp1 => by
    subst r1
    cases x with
    | true => exact ⟨r, s1, w1, rfl, env.ext e1, st1, hp1⟩
    | false => exact ⟨r, s1, w1, rfl, env.ext e1, st1, hp1⟩
end
end Mp

set_option Elab.async false
set_option linter.all false
set_option maxRecDepth 100000
set_option maxHeartbeats 4000000
/-! Mp: operators on data. -/
namespace Mp
open PySem PySem.Spec PyProof.Rows L2
section
variable {X : Cx} {W : WX} {a b c : Expr} {pos : Pos} {ma mb mc : DE}
/-- a new frozen object -/
theorem Post.frz {K : Frag} {w : Wd} {s : Sto} {E : XK} {Q : VK} {d : D} (hp : Post K (Rep K) w E Q (.ok d s)) (st : StR K w s) {o : HO} (h : ∀ p, w.H p = none → Rep K (w.frz p o) (.ref p) d) : ∀ p, w.H p = none → Q (.ref p) (upd w.H p o) :=
  fun p np => hp (.ref p) (w.frz p o) (Wd.frz_ext st np) (Wd.frz_st st np) (h p np)
theorem rep_newL {K : Frag} {w : Wd} {s : Sto} (st : StR K w s) {vs : List V} {ds : List D} (r : Reps K w vs ds) {p : Addr} (np : w.H p = none) : Rep K (w.frz p (.lst vs)) (.ref p) (.lst ds) :=
  .lst Wd.frz_z Wd.frz_h (r.ext (Wd.frz_ext st np))
theorem rep_newT {K : Frag} {w : Wd} {s : Sto} (st : StR K w s) {vs : List V} {ds : List D} (r : Reps K w vs ds) {p : Addr} (np : w.H p = none) : Rep K (w.frz p (.tup vs)) (.ref p) (.tup ds) :=
  .tup (.inl ⟨Wd.frz_z, .inl Wd.frz_h⟩) (r.ext (Wd.frz_ext st np))
theorem v_add : VR2 X.K (fun x y H Q => (rI0 fun i j => .int (i + j)) x y H Q ∨ (∃ i j, x = .str i ∧ y = .str j ∧ i.length + j.length ≤ sizeLine ∧ Q (.str (i ++ j)) H) ∨ rCat x y H Q ∨ rCatA X.K x y H Q) addD := fun w s x y d e Q E st rx ry hp => by
  unfold addD at hp
  cases d with
  | int i =>
    cases rx
    cases ry with
    | int j => exact .inl ⟨i, j, rfl, rfl, hp.pure st (.int _)⟩
    | _ => exact hp.elim
  | str i =>
    cases rx
    cases ry with
    | str j =>
      dsimp only at hp
      split at hp
      · exact .inr (.inl ⟨i, j, rfl, rfl, by assumption, hp.pure st (.str _)⟩)
      · exact hp.elim
    | _ => exact hp.elim
  | tup l1 =>
    cases rx with | tup h1 r1 =>
    cases ry with
    | tup h2 r2 =>
      dsimp only at hp
      split at hp
      · rename_i hl
        rw [← r1.length, ← r2.length] at hl
        refine .inr (.inr (.inr ⟨_, _, _, _, rfl, rfl, h1.sq, h2.sq, hl, fun e => ?_, fun e0 e => ?_, fun e1 e2 => ?_⟩))
        · subst e
          cases r1
          exact hp.pure st (.tup h2 r2)
        · subst e
          cases r2
          exact hp.pure st (by rw [List.append_nil]; exact .tup h1 r1)
        · exact hp.frz st fun p np => rep_newT st (r1.append r2) np
      · exact hp.elim
    | _ => exact hp.elim
  | _ =>
    dsimp only at hp
    split at hp
    · rename_i e1
      split at hp
      · rename_i e2
        split at hp
        · rename_i hl
          obtain ⟨p1, v1, rfl, h1, r1⟩ := lstX_ok st rx e1
          obtain ⟨p2, v2, rfl, h2, r2⟩ := lstX_ok st ry e2
          rw [← r1.length, ← r2.length] at hl
          exact .inr (.inr (.inl ⟨_, _, _, _, rfl, rfl, h1, h2, hl, hp.frz st fun p np => rep_newL st (r1.append r2) np⟩))
        · exact hp.elim
      · exact hp.elim
    · exact hp.elim
theorem e_add (ha : PE X a (tE X.K W ma)) (hb : PE X b (tE X.K W mb)) : PE X (.BinOp a .Add b pos) (tE X.K W (binM addD ma mb)) := e_bin (OpR.or op_add (OpR.or op_add_str (OpR.or op_cat op_catA))) v_add ha hb
theorem v_sub : VR2 X.K (rI0 fun i j => .int (i - j)) subD := fun w s x y d e Q E st rx ry hp => by
  unfold subD at hp
  cases rx with
  | int i =>
    cases ry with
    | int j => exact ⟨i, j, rfl, rfl, hp.pure st (.int _)⟩
    | _ => exact hp.elim
  | _ => exact hp.elim
theorem e_sub (ha : PE X a (tE X.K W ma)) (hb : PE X b (tE X.K W mb)) : PE X (.BinOp a .Sub b pos) (tE X.K W (binM subD ma mb)) := e_bin op_sub v_sub ha hb
theorem reps_rep {K : Frag} {w : Wd} {vs : List V} {ds : List D} (r : Reps K w vs ds) : ∀ n : Nat, Reps K w (List.replicate n vs).flatten (List.replicate n ds).flatten
  | 0 => .nil
  | n + 1 => by
    rw [List.replicate_succ, List.replicate_succ, List.flatten_cons, List.flatten_cons]
    exact r.append (reps_rep r n)
theorem v_mul : VR2 X.K (fun x y H Q => (rI CMulW fun i j => .int (i * j)) x y H Q ∨ rRep x y H Q) mulD := fun w s x y d e Q E st rx ry hp => by
  unfold mulD at hp
  cases d with
  | int i =>
    cases rx
    cases ry with
    | int j =>
      dsimp only at hp
      split at hp
      · rename_i hc
        exact .inl ⟨i, j, rfl, rfl, of_decide_eq_true (p := i.natAbs.log2 + j.natAbs.log2 < 1000000) hc, hp.pure st (.int _)⟩
      · exact hp.elim
    | _ => exact hp.elim
  | _ =>
    dsimp only at hp
    split at hp
    · exact hp.elim
    · rename_i e1
      obtain ⟨p1, v1, rfl, h1, r1⟩ := lstX_ok st rx e1
      cases ry with
      | int k =>
        dsimp only at hp
        split at hp
        · rename_i hc
          rw [← r1.length] at hc
          exact .inr ⟨_, k, _, rfl, rfl, h1, by omega, by omega, hc.2.2, hp.frz st fun p np => rep_newL st (reps_rep r1 _) np⟩
        · exact hp.elim
      | _ => exact hp.elim
theorem e_mul (ha : PE X a (tE X.K W ma)) (hb : PE X b (tE X.K W mb)) : PE X (.BinOp a .Mult b pos) (tE X.K W (binM mulD ma mb)) := e_bin (OpR.or op_mulW op_rep) v_mul ha hb
def CDivX (_ j : Int) : Prop := j ≠ 0 ∧ j.natAbs.log2 < 9000
theorem op_fdivX : OpR X (binaryOp .FloorDiv) (rI CDivX fun i j => .int (i.fdiv j)) := opI fun _ _ _ _ _ _ _ hc q => floordiv_int hc.1 q (.inl (PyProof.noPylong_of_log2 hc.2))
theorem v_div : VR2 X.K (fun x y H Q => (rI CDivW fun i j => .int (i / j)) x y H Q ∨ (rI CDivX fun i j => .int (i.fdiv j)) x y H Q) divD := fun w s x y d e Q E st rx ry hp => by
  unfold divD at hp
  cases rx with
  | int i =>
    cases ry with
    | int j =>
      dsimp only at hp
      split at hp
      · rename_i hc
        exact .inl ⟨i, j, rfl, rfl, hc, hp.pure st (.int _)⟩
      · split at hp
        · rename_i hc
          exact .inr ⟨i, j, rfl, rfl, ⟨by omega, hc.2⟩, hp.pure st (.int _)⟩
        · exact hp.elim
    | _ => exact hp.elim
  | _ => exact hp.elim
theorem e_div (ha : PE X a (tE X.K W ma)) (hb : PE X b (tE X.K W mb)) : PE X (.BinOp a .FloorDiv b pos) (tE X.K W (binM divD ma mb)) := e_bin (OpR.or op_fdivW op_fdivX) v_div ha hb
theorem v_mod : VR2 X.K (fun x y H Q => (rI (fun _ j => 0 < j) fun i j => .int (i % j)) x y H Q ∨ (rI (fun _ j => j ≠ 0) fun i j => .int (i.fmod j)) x y H Q) modD := fun w s x y d e Q E st rx ry hp => by
  unfold modD at hp
  cases rx with
  | int i =>
    cases ry with
    | int j =>
      dsimp only at hp
      split at hp
      · rename_i hc
        exact .inl ⟨i, j, rfl, rfl, hc, hp.pure st (.int _)⟩
      · split at hp
        · rename_i hc
          exact .inr ⟨i, j, rfl, rfl, (by omega), hp.pure st (.int _)⟩
        · exact hp.elim
    | _ => exact hp.elim
  | _ => exact hp.elim
theorem e_mod (ha : PE X a (tE X.K W ma)) (hb : PE X b (tE X.K W mb)) : PE X (.BinOp a .Mod b pos) (tE X.K W (binM modD ma mb)) := e_bin (OpR.or op_mod op_modN) v_mod ha hb
theorem v_pow : VR2 X.K (rI CPow fun i j => .int (i ^ j.toNat)) powD := fun w s x y d e Q E st rx ry hp => by
  unfold powD at hp
  cases rx with
  | int i =>
    cases ry with
    | int j =>
      dsimp only at hp
      split at hp
      · rename_i hc
        exact ⟨i, j, rfl, rfl, hc, hp.pure st (.int _)⟩
      · exact hp.elim
    | _ => exact hp.elim
  | _ => exact hp.elim
theorem e_pow (ha : PE X a (tE X.K W ma)) (hb : PE X b (tE X.K W mb)) : PE X (.BinOp a .Pow b pos) (tE X.K W (binM powD ma mb)) := e_bin op_pow v_pow ha hb
theorem e_neg (ha : PE X a (tE X.K W ma)) : PE X (.UnaryOp .USub a pos) (tE X.K W (unM negD ma)) := PE.imp (pe_un un_neg ha) fun t H Q h => by
  obtain ⟨r, s, w, rfl, env, st, hp⟩ := h
  exact hp.bind env st fun x d s1 w1 e1 st1 r1 hp1 => by
    unfold negD at hp1
    cases r1 with
    | int i => exact ⟨i, rfl, hp1.pure st1 (.int _)⟩
    | _ => exact hp1.elim
/-! ### order -/
theorem v_ord {g : Int → Int → Bool} {k : List Nat → List Nat → Bool} : VR2 X.K (fun x y H Q => (rI0 fun i j => .bl (g i j)) x y H Q ∨ ∃ i j, x = .str i ∧ y = .str j ∧ Q (.bl (k i.cps.toList j.cps.toList)) H) (ltD g k) := fun w s x y d e Q E st rx ry hp => by
  unfold ltD at hp
  cases rx with
  | int i =>
    cases ry with
    | int j => exact .inl ⟨i, j, rfl, rfl, hp.pure st (.bl _)⟩
    | _ => exact hp.elim
  | str i =>
    cases ry with
    | str j => exact .inr ⟨i, j, rfl, rfl, hp.pure st (.bl _)⟩
    | _ => exact hp.elim
  | _ => exact hp.elim
theorem o_lt : OpR X (compareOp .Lt) (fun x y H Q => (rI0 fun i j => .bl (decide (i < j))) x y H Q ∨ ∃ i j, x = .str i ∧ y = .str j ∧ Q (.bl (decide (i.cps.toList < j.cps.toList))) H) := OpR.or op_lt op_lt_str
theorem o_le : OpR X (compareOp .LtE) (fun x y H Q => (rI0 fun i j => .bl (decide (i ≤ j))) x y H Q ∨ ∃ i j, x = .str i ∧ y = .str j ∧ Q (.bl (!decide (j.cps.toList < i.cps.toList))) H) := OpR.or op_le op_le_str
theorem o_gt : OpR X (compareOp .Gt) (fun x y H Q => (rI0 fun i j => .bl (decide (j < i))) x y H Q ∨ ∃ i j, x = .str i ∧ y = .str j ∧ Q (.bl (decide (j.cps.toList < i.cps.toList))) H) := OpR.or op_gt op_gt_str
theorem o_ge : OpR X (compareOp .GtE) (fun x y H Q => (rI0 fun i j => .bl (decide (j ≤ i))) x y H Q ∨ ∃ i j, x = .str i ∧ y = .str j ∧ Q (.bl (!decide (i.cps.toList < j.cps.toList))) H) := OpR.or op_ge op_ge_str
theorem e_lt (ha : PE X a (tE X.K W ma)) (hb : PE X b (tE X.K W mb)) : PE X (.Compare a [.Lt] [b] pos) (tE X.K W (binM ltI ma mb)) := e_cmp o_lt v_ord ha hb (nomark _)
theorem e_le (ha : PE X a (tE X.K W ma)) (hb : PE X b (tE X.K W mb)) : PE X (.Compare a [.LtE] [b] pos) (tE X.K W (binM leI ma mb)) := e_cmp o_le v_ord ha hb (nomark _)
theorem e_gt (ha : PE X a (tE X.K W ma)) (hb : PE X b (tE X.K W mb)) : PE X (.Compare a [.Gt] [b] pos) (tE X.K W (binM gtI ma mb)) := e_cmp o_gt v_ord ha hb (nomark _)
theorem e_ge (ha : PE X a (tE X.K W ma)) (hb : PE X b (tE X.K W mb)) : PE X (.Compare a [.GtE] [b] pos) (tE X.K W (binM geI ma mb)) := e_cmp o_ge v_ord ha hb (nomark _)
theorem t_lt (ha : PE X a (tE X.K W ma)) (hb : PE X b (tE X.K W mb)) : PT X (.Compare a [.Lt] [b] pos) (tT X.K W (blM (binM ltI ma mb))) := t_cmp o_lt v_ord ha hb (nomark _)
theorem t_le (ha : PE X a (tE X.K W ma)) (hb : PE X b (tE X.K W mb)) : PT X (.Compare a [.LtE] [b] pos) (tT X.K W (blM (binM leI ma mb))) := t_cmp o_le v_ord ha hb (nomark _)
theorem t_gt (ha : PE X a (tE X.K W ma)) (hb : PE X b (tE X.K W mb)) : PT X (.Compare a [.Gt] [b] pos) (tT X.K W (blM (binM gtI ma mb))) := t_cmp o_gt v_ord ha hb (nomark _)
theorem t_ge (ha : PE X a (tE X.K W ma)) (hb : PE X b (tE X.K W mb)) : PT X (.Compare a [.GtE] [b] pos) (tT X.K W (blM (binM geI ma mb))) := t_cmp o_ge v_ord ha hb (nomark _)
/-! ### None -/
theorem v_isN : VR2 X.K (fun x y H Q => y = .non ∧ Q (.bl (decide (x = .non))) H) isNoneD := fun w s x y d e Q E st rx ry hp => by
  unfold isNoneD at hp
  cases ry with
  | non =>
    refine ⟨rfl, ?_⟩
    cases rx with
    | non => exact hp.pure st (.bl _)
    | _ => exact hp.pure st (by first | exact .bl _ | (rw [decide_eq_false (by intro z; cases z)]; exact .bl _))
  | _ => exact hp.elim
theorem v_notN : VR2 X.K (fun x y H Q => y = .non ∧ Q (.bl (!decide (x = .non))) H) isNotNoneD := fun w s x y d e Q E st rx ry hp => by
  unfold isNotNoneD at hp
  cases ry with
  | non =>
    refine ⟨rfl, ?_⟩
    cases rx with
    | non => exact hp.pure st (.bl _)
    | _ => exact hp.pure st (by first | exact .bl _ | (rw [decide_eq_false (by intro z; cases z)]; exact .bl _))
  | _ => exact hp.elim
theorem e_isN (ha : PE X a (tE X.K W ma)) (hb : PE X b (tE X.K W mb)) : PE X (.Compare a [.Is] [b] pos) (tE X.K W (binM isNoneD ma mb)) := e_cmp op_isN v_isN ha hb (nomark _)
theorem e_notN (ha : PE X a (tE X.K W ma)) (hb : PE X b (tE X.K W mb)) : PE X (.Compare a [.IsNot] [b] pos) (tE X.K W (binM isNotNoneD ma mb)) := e_cmp op_notN v_notN ha hb (nomark _)
theorem t_isN (ha : PE X a (tE X.K W ma)) (hb : PE X b (tE X.K W mb)) : PT X (.Compare a [.Is] [b] pos) (tT X.K W (blM (binM isNoneD ma mb))) := t_cmp op_isN v_isN ha hb (nomark _)
theorem t_notN (ha : PE X a (tE X.K W ma)) (hb : PE X b (tE X.K W mb)) : PT X (.Compare a [.IsNot] [b] pos) (tT X.K W (blM (binM isNotNoneD ma mb))) := t_cmp op_notN v_notN ha hb (nomark _)
end
/-! ### equality of plain data -/
mutual
def toPy : D → Option PyData
  | .non => some .none
  | .bl b => some (.bool b)
  | .int i => some (.int i)
  | .str z => some (.str z)
  | .tup l => (toPys l).map .tuple
  | .lst l => (toPys l).map .list
  | .rol l => (toPys l).map .list
  | .ty _ => none
  | .glo _ => none
  | .dct _ => none
  | .ins _ _ => none
  | .exn _ _ _ _ => none
  | .cel _ => none
  | .clo _ _ _ _ _ => none
def toPys : List D → Option (List PyData)
  | [] => some []
  | d :: r => (toPy d).bind fun x => (toPys r).map fun y => x :: y
end
mutual
theorem Rep.dp {K : Frag} {w : Wd} : ∀ {d : D} {v : V} {p : PyData}, Rep K w v d → toPy d = some p → Dp K w.H v p
  | .non, _, _, h, e => by
    cases h
    rw [toPy] at e
    cases e
    exact .non
  | .bl b, _, _, h, e => by
    cases h
    rw [toPy] at e
    cases e
    exact .bl b
  | .int i, _, _, h, e => by
    cases h
    rw [toPy] at e
    cases e
    exact .int i
  | .str z, _, _, h, e => by
    cases h
    rw [toPy] at e
    cases e
    exact .str z
  | .tup l, _, _, h, e => by
    cases h with
    | tup h1 r =>
      rw [toPy] at e
      cases q : toPys l with
      | none => rw [q] at e; cases e
      | some ps =>
        rw [q] at e
        cases e
        exact .tup h1.sq (Reps.dp r q)
  | .lst l, _, _, h, e => by
    cases h with
    | lst z h1 r =>
      rw [toPy] at e
      cases q : toPys l with
      | none => rw [q] at e; cases e
      | some ps =>
        rw [q] at e
        cases e
        exact .lst (SqL.of h1) (Reps.dp r q)
  | .rol l, _, _, h, e => by
    cases h with
    | rol h1 r =>
      rw [toPy] at e
      cases q : toPys l with
      | none => rw [q] at e; cases e
      | some ps =>
        rw [q] at e
        cases e
        exact .lst h1.sq (Reps.dp r q)
  | .ty _, _, _, _, e => by rw [toPy] at e; cases e
  | .glo _, _, _, _, e => by rw [toPy] at e; cases e
  | .dct _, _, _, _, e => by rw [toPy] at e; cases e
  | .ins _ _, _, _, _, e => by rw [toPy] at e; cases e
  | .exn _ _ _ _, _, _, _, e => by rw [toPy] at e; cases e
  | .cel _, _, _, _, e => by rw [toPy] at e; cases e
  | .clo _ _ _ _ _, _, _, _, e => by rw [toPy] at e; cases e
theorem Reps.dp {K : Frag} {w : Wd} : ∀ {ds : List D} {vs : List V} {ps : List PyData}, Reps K w vs ds → toPys ds = some ps → DpAll K w.H vs ps
  | [], _, _, h, e => by
    cases h
    rw [toPys] at e
    cases e
    exact .nil
  | d :: r, _, _, h, e => by
    cases h with
    | cons h1 h2 =>
      rw [toPys] at e
      cases q1 : toPy d with
      | none => rw [q1] at e; cases e
      | some p =>
        cases q2 : toPys r with
        | none => rw [q1, q2] at e; cases e
        | some ps =>
          rw [q1, q2] at e
          cases e
          exact .cons (Rep.dp h1 q1) (Reps.dp h2 q2)
end
def eqG0 (neg : Bool) (x y : D) (s : Sto) : Res D := match toPy x with
  | none => .bad
  | some p => match toPy y with
    | none => .bad
    | some q => if (SeqAt.shaped p && SeqAt.shaped q) = true then .ok (.bl (if neg then !PyData.eqv p q else PyData.eqv p q)) s else .bad
def eqG (neg : Bool) (x y : D) (s : Sto) : Res D := match x with
  | .int i => (match y with
    | .int j => .ok (.bl (if neg then !decide (i = j) else decide (i = j))) s
    | y => eqG0 neg (.int i) y s)
  | .str i => (match y with
    | .str j => .ok (.bl (if neg then !decide (i = j) else decide (i = j))) s
    | y => eqG0 neg (.str i) y s)
  | .cel n => (match s[n]? with
    | some (some (.lst l)) => eqG0 neg (.lst l) y s
    | _ => .bad)
  | x => eqG0 neg x y s
abbrev eqD : D → D → Sto → Res D := eqG false
abbrev neD : D → D → Sto → Res D := eqG true
section
variable {X : Cx} {W : WX} {a b c : Expr} {pos : Pos} {ma mb mc : DE}
theorem v_eqG0 {neg : Bool} : VR2 X.K (fun x y H Q => ∃ d e, Dp X.K H x d ∧ Dp X.K H y e ∧ SeqAt.shaped d = true ∧ SeqAt.shaped e = true ∧ Q (.bl (if neg then !PyData.eqv d e else PyData.eqv d e)) H) (eqG0 neg) := fun w s x y d e Q E st rx ry hp => by
  unfold eqG0 at hp
  cases e1 : toPy d with
  | none => rw [e1] at hp; exact hp.elim
  | some p =>
    rw [e1] at hp
    dsimp only at hp
    cases e2 : toPy e with
    | none => rw [e2] at hp; exact hp.elim
    | some q =>
      rw [e2] at hp
      dsimp only at hp
      split at hp
      · rename_i hs
        obtain ⟨h1, h2⟩ := Bool.and_eq_true_iff.mp hs
        exact ⟨p, q, Rep.dp rx e1, Rep.dp ry e2, h1, h2, hp.pure st (.bl _)⟩
      · exact hp.elim
theorem v_eqG {neg : Bool} : VR2 X.K (fun x y H Q => (scal x y = true ∧ Q (.bl (if neg then !decide (x = y) else decide (x = y))) H) ∨ ∃ d e, Dp X.K H x d ∧ Dp X.K H y e ∧ SeqAt.shaped d = true ∧ SeqAt.shaped e = true ∧ Q (.bl (if neg then !PyData.eqv d e else PyData.eqv d e)) H) (eqG neg) := fun w s x y d e Q E st rx ry hp => by
  have key : Post X.K (Rep X.K) w E Q (eqG0 neg d e s) → _ := fun h => v_eqG0 w s x y d e Q E st rx ry h
  unfold eqG at hp
  cases d with
  | int i =>
    cases e with
    | int j =>
      cases rx
      cases ry
      refine .inl ⟨rfl, ?_⟩
      rw [show decide (V.int i = V.int j) = decide (i = j) from decide_eq_decide.mpr ⟨fun z => by cases z; rfl, fun z => by rw [z]⟩]
      exact hp.pure st (.bl _)
    | _ => exact .inr (key hp)
  | str i =>
    cases e with
    | str j =>
      cases rx
      cases ry
      refine .inl ⟨rfl, ?_⟩
      rw [show decide (V.str i = V.str j) = decide (i = j) from decide_eq_decide.mpr ⟨fun z => by cases z; rfl, fun z => by rw [z]⟩]
      exact hp.pure st (.bl _)
    | _ => exact .inr (key hp)
  | cel n =>
    dsimp only at hp
    split at hp
    · rename_i _ l el
      cases rx with
      | @cel _ a0 hA =>
        obtain ⟨a1, h1, _, vs, hh, rs⟩ := st.at_ n _ el
        have ea : a1 = a0 := Option.some.inj (h1.symm.trans hA)
        subst ea
        unfold eqG0 at hp
        cases e1 : toPys l with
        | none => rw [toPy, e1] at hp; exact hp.elim
        | some ps =>
          rw [toPy, e1] at hp
          dsimp only [Option.map] at hp
          cases e2 : toPy e with
          | none => rw [e2] at hp; exact hp.elim
          | some q =>
            rw [e2] at hp
            dsimp only at hp
            split at hp
            · rename_i hs
              obtain ⟨k1, k2⟩ := Bool.and_eq_true_iff.mp hs
              exact .inr ⟨.list ps, q, .lst (SqL.of hh) (Reps.dp rs e1), Rep.dp ry e2, k1, k2, hp.pure st (.bl _)⟩
            · exact hp.elim
    · exact hp.elim
  | _ => exact .inr (key hp)
theorem e_eq (hu : X.A.units + 64 < cLine) (ha : PE X a (tE X.K W ma)) (hb : PE X b (tE X.K W mb)) : PE X (.Compare a [.Eq] [b] pos) (tE X.K W (binM eqD ma mb)) := e_cmp (OpR.or op_eq (op_eqD hu)) v_eqG ha hb (nomark _)
theorem e_ne (hu : X.A.units + 64 < cLine) (ha : PE X a (tE X.K W ma)) (hb : PE X b (tE X.K W mb)) : PE X (.Compare a [.NotEq] [b] pos) (tE X.K W (binM neD ma mb)) := e_cmp (OpR.or op_ne (op_neD hu)) v_eqG ha hb (nomark _)
theorem t_eq (hu : X.A.units + 64 < cLine) (ha : PE X a (tE X.K W ma)) (hb : PE X b (tE X.K W mb)) : PT X (.Compare a [.Eq] [b] pos) (tT X.K W (blM (binM eqD ma mb))) := t_cmp (OpR.or op_eq (op_eqD hu)) v_eqG ha hb (nomark _)
theorem t_ne (hu : X.A.units + 64 < cLine) (ha : PE X a (tE X.K W ma)) (hb : PE X b (tE X.K W mb)) : PT X (.Compare a [.NotEq] [b] pos) (tT X.K W (blM (binM neD ma mb))) := t_cmp (OpR.or op_ne (op_neD hu)) v_eqG ha hb (nomark _)
end
end Mp

set_option Elab.async false
set_option linter.all false
set_option maxRecDepth 100000
set_option maxHeartbeats 4000000
/-! Mp: displays, subscripts, slices, membership, built-in calls. -/
namespace Mp
open PySem PySem.Spec PyProof.Rows L2
/-! ### new lists: frozen, or a cell -/
def newL (c : Bool) (ds : List D) (s : Sto) : Res D := if c = true then .ok (.cel s.length) (s ++ [some (.lst ds)]) else .ok (.lst ds) s
theorem Post.newL {K : Frag} {w : Wd} {s : Sto} {E : XK} {Q : VK} {c : Bool} {ds : List D} {vs : List V} (hp : Post K (Rep K) w E Q (newL c ds s)) (st : StR K w s) (r : Reps K w vs ds) : ∀ p, w.H p = none → Q (.ref p) (upd w.H p (.lst vs)) := by
  cases c with
  | false => exact Post.frz (d := .lst ds) hp st fun p np => rep_newL st r np
  | true =>
    intro p np
    have e := Wd.cell_ext st (o := .lst vs) np
    have hp' : Post K (Rep K) w E Q (.ok (.cel s.length) (s ++ [some (.lst ds)])) := hp
    exact hp' (.ref p) (w.cell s.length p (.lst vs)) e (Wd.cell_st st np ⟨vs, upd_same, r.ext e⟩) (.cel (if_pos rfl))
def argM (f : List D → Sto → Res D) (a : DM (List D)) : DE := bindM a fun ds => fun _ s => f ds s
def nilA : DM (List D) := pureM []
def consA (a : DE) (b : DM (List D)) : DM (List D) := bindM a fun x => bindM b fun r => pureM (x :: r)
def lstD (c : Bool) (ds : List D) (s : Sto) : Res D := if ds.length ≤ sizeLine then newL c ds s else .bad
def tupD (ds : List D) (s : Sto) : Res D := if ds.length ≤ sizeLine then .ok (.tup ds) s else .bad
def getK {T U : Type} [DecidableEq T] (l : List (T × U)) (k : T) : Option U := (l.find? fun p => decide (p.1 = k)).map (·.2)
def keyD : D → Option Key
  | .int i => some (.inl i)
  | .str z => some (.inr z)
  | _ => none
def okO {T : Type} (s : Sto) : Option T → Res T
  | some d => .ok d s
  | none => .bad
def idxD (x y : D) (s : Sto) : Res D := match dctOf s x with
  | some m => (match keyD y with
    | some k => okO s (getK m k)
    | none => .bad)
  | none => (match y with
    | .int i => (match x with
      | .str z => if z.length ≤ sizeLine then okO s ((atI z.cps.toList i).map fun c => .str ⟨#[c]⟩) else .bad
      | .tup l => okO s (atI l i)
      | x => (match lstOf s x with
        | some l => okO s (atI l i)
        | none => .bad))
    | _ => .bad)
def optM (a : DE) : DM (Option Int) := bindM a fun x => fun _ s => match x with
  | .int i => .ok (some i) s
  | _ => .bad
def cutD (xs : List D) (lo hi : Option Int) : List D := (xs.drop (HT.sIx xs.length 0 lo)).take (HT.sIx xs.length xs.length hi - HT.sIx xs.length 0 lo)
def sliD (c : Bool) (x : D) (lo hi : Option Int) (s : Sto) : Res D := match x with
  | .str z => if z.length ≤ sizeLine then .ok (.str (cutS z lo hi)) s else .bad
  | .tup l => .ok (.tup (cutD l lo hi)) s
  | x => (match lstOf s x with
    | some l => newL c (cutD l lo hi) s
    | none => .bad)
def sliM (c : Bool) (a : DE) (l h : DM (Option Int)) : DE := bindM a fun x => bindM l fun lo => bindM h fun hi => fun _ s => sliD c x lo hi s
def flatD : D → Bool
  | .non => true
  | .bl _ => true
  | .int _ => true
  | .str _ => true
  | _ => false
def eqF : D → D → Bool
  | .non, .non => true
  | .bl a, .bl b => a == b
  | .bl a, .int b => (if a then 1 else 0) == b
  | .int a, .bl b => a == (if b then 1 else 0)
  | .int a, .int b => a == b
  | .str a, .str b => a == b
  | _, _ => false
def inF (x : D) (xs : List D) : Bool := xs.any fun y => eqF y x
def seqOf (s : Sto) : D → Option (List D)
  | .tup l => some l
  | x => lstOf s x
def inStr (i j : Str) : Bool := match i.cps.toList with
  | [c] => decide (c ∈ j.cps.toList)
  | _ => !(Builtin.Str.occurrences j i 0 j.length 1).isEmpty
def inD (neg : Bool) (x y : D) (s : Sto) : Res D := match dctOf s y with
  | some m => (match keyD x with
    | some k => .ok (.bl (if neg then !(getK m k).isSome else (getK m k).isSome)) s
    | none => .bad)
  | none => (match y with
    | .str j => (match x with
      | .str i => .ok (.bl (if neg then !inStr i j else inStr i j)) s
      | _ => .bad)
    | y => (match seqOf s y with
      | some l => if (flatD x && l.all flatD) = true then .ok (.bl (if neg then !inF x l else inF x l)) s else .bad
      | none => .bad))
/-! ### soundness -/
section
variable {K : Frag} {w : Wd}
theorem getK_ok {T : Type} [DecidableEq T] {k : T} : ∀ {l : List (T × V)} {m : List (T × D)}, KVR K w l m → (match getK m k with | some d => ∃ v, valV l k = some v ∧ Rep K w v d | none => valV l k = none)
  | _, _, .nil => rfl
  | _, _, .cons (k := j) h r => by
    have ih := getK_ok (k := k) r
    by_cases e : j = k
    · rw [valV_pos e]
      simp only [getK, List.find?_cons, e, decide_true, Option.map_some]
      exact ⟨_, rfl, h⟩
    · rw [valV_neg e]
      simp only [getK, List.find?_cons, e, decide_false]
      exact ih
theorem flat_ok {x : V} {d : D} (r : Rep K w x d) (h : flatD d = true) : flatV x = true := by
  cases r <;> first | rfl | cases h
theorem flats_ok : ∀ {xs : List V} {ds : List D}, Reps K w xs ds → ds.all flatD = true → xs.all flatV = true
  | _, _, .nil, _ => rfl
  | _, _, .cons h r, e => by
    rw [List.all_cons, Bool.and_eq_true_iff] at e ⊢
    exact ⟨flat_ok h e.1, flats_ok r e.2⟩
theorem eqF_ok {x y : V} {d e : D} (r : Rep K w x d) (q : Rep K w y e) (h1 : flatD d = true) (h2 : flatD e = true) : eqV x y = eqF d e := by
  cases r <;> first | (cases h1; done) | (cases q <;> first | rfl | cases h2)
theorem inF_ok {x : V} {d : D} (r : Rep K w x d) (h1 : flatD d = true) : ∀ {xs : List V} {ds : List D}, Reps K w xs ds → ds.all flatD = true → inV x xs = inF d ds
  | _, _, .nil, _ => rfl
  | _, _, .cons h t, e => by
    rw [List.all_cons, Bool.and_eq_true_iff] at e
    show (eqV _ x || inV x _) = (eqF _ d || inF d _)
    rw [eqF_ok h r e.1 h1, inF_ok r h1 t e.2]
theorem cutD_ok {xs : List V} {ds : List D} (r : Reps K w xs ds) (lo hi : Option Int) : Reps K w (cutV xs lo hi) (cutD ds lo hi) := by
  unfold cutV cutD
  rw [r.length]
  exact (r.drop _).take _
theorem atI_ok {xs : List V} {ds : List D} (r : Reps K w xs ds) {i : Int} {d : D} (h : atI ds i = some d) : ∃ v, atI xs i = some v ∧ Rep K w v d := by
  unfold atI at h ⊢
  rw [r.length]
  cases e : ixN ds.length i with
  | none => rw [e] at h; cases h
  | some j =>
    rw [e] at h
    exact r.get h
theorem seqOf_ok {s : Sto} {x : V} {d : D} {l : List D} (st : StR K w s) (r : Rep K w x d) (h : seqOf s d = some l) : ∃ p vs, x = .ref p ∧ (SqL K w.H p vs ∨ SqT K w.H p vs) ∧ Reps K w vs l := by
  have key : lstOf s d = some l → ∃ p vs, x = .ref p ∧ (SqL K w.H p vs ∨ SqT K w.H p vs) ∧ Reps K w vs l := fun h => by
    obtain ⟨p, vs, h1, h2, h3⟩ := lstOf_ok st r h
    exact ⟨p, vs, h1, .inl h2, h3⟩
  cases d with
  | tup l1 =>
    cases h
    cases r with
    | tup hh rs => exact ⟨_, _, rfl, .inr hh.sq, rs⟩
  | _ => exact key h
theorem keyD_ok {y : V} {d : D} {k : Key} (r : Rep K w y d) (h : keyD d = some k) : y = kV k := by
  cases r <;> first | (cases h; done) | (cases h; rfl)
end
section
variable {X : Cx} {W : WX} {a b c : Expr} {es : List Expr} {pos : Pos} {ma mb mc : DE} {mr : DM (List D)}
theorem a_nil : PA X [] (tA X.K W nilA) := PA.imp pa_nil fun t H Q h => by
  obtain ⟨r, s, w, rfl, env, st, hp⟩ := h
  exact hp.pure st .nil
theorem a_cons (ha : PE X a (tE X.K W ma)) (hr : PA X es (tA X.K W mr)) (hs : starEach (a :: es) X.env = (false, eval a X.env) :: starEach es X.env := by rfl) : PA X (a :: es) (tA X.K W (consA ma mr)) := PA.imp (pa_cons ha hr hs) fun t H Q h => by
  obtain ⟨r, s, w, rfl, env, st, hp⟩ := h
  exact hp.bind env st fun x d s1 w1 e1 st1 r1 hp1 => hp1.bind (env.ext e1) st1 fun y d2 s2 w2 e2 st2 r2 hp2 => hp2.pure st2 (.cons (r1.ext e2) r2)
theorem e_tup {x1 : Nat} (hr : PA X es (tA X.K W mr)) : PE X (.Tuple es x1 pos) (tE X.K W (argM tupD mr)) := PE.imp (pe_tup hr) fun t H Q h => by
  obtain ⟨r, s, w, rfl, env, st, hp⟩ := h
  exact hp.bind env st fun x d s1 w1 e1 st1 r1 hp1 => by
    unfold tupD at hp1
    split at hp1
    · rename_i hl
      exact ⟨by rw [r1.length]; exact hl, hp1.frz st1 fun p np => rep_newT st1 r1 np⟩
    · exact hp1.elim
theorem e_lst (k : Bool) (hr : PA X es (tA X.K W mr)) : PE X (.List es pos) (tE X.K W (argM (lstD k) mr)) := PE.imp (pe_lst hr) fun t H Q h => by
  obtain ⟨r, s, w, rfl, env, st, hp⟩ := h
  exact hp.bind env st fun x d s1 w1 e1 st1 r1 hp1 => by
    unfold lstD at hp1
    split at hp1
    · rename_i hl
      exact ⟨by rw [r1.length]; exact hl, hp1.newL st1 r1⟩
    · exact hp1.elim
theorem ix_dict (hu : X.A.units + 1 < cLine) : IxR X (fun x y H Q => ∃ a v, x = .ref a ∧ DGet H a y (some v) ∧ Q v H) := fun value slice pins s t H x y v u Q I rx ry h hs => by
  obtain ⟨p, v', rfl, g, q⟩ := h
  obtain rfl : v = Value.ref p := rx
  exact tail_any (dict_typeIs I g) PySem.F.slot_dict_getitem.lookup (d_getItem hu I g ry fun z s3 I3 rz => ⟨v', H, I3, rz, q⟩) hs
theorem op_inDict (hu : X.A.units + 1 < cLine) : OpR X (compareOp .In) (fun x y H Q => ∃ a o, y = .ref a ∧ DGet H a x o ∧ Q (.bl o.isSome) H) := fun pins s t H x y v u Q I rx ry h => by
  obtain ⟨p, o, rfl, g, q⟩ := h
  obtain rfl : u = Value.ref p := ry
  exact d_in hu I g rx fun s3 I3 => ⟨.bl o.isSome, H, I3, rfl, q⟩
theorem op_notInDict (hu : X.A.units + 1 < cLine) : OpR X (compareOp .NotIn) (fun x y H Q => ∃ a o, y = .ref a ∧ DGet H a x o ∧ Q (.bl (!o.isSome)) H) := fun pins s t H x y v u Q I rx ry h => by
  obtain ⟨p, o, rfl, g, q⟩ := h
  obtain rfl : u = Value.ref p := ry
  exact d_notIn hu I g rx fun s3 I3 => ⟨.bl (!o.isSome), H, I3, rfl, q⟩
theorem v_idx : VR2 X.K (fun x y H Q => rIx X.K x y H Q ∨ ∃ a v, x = .ref a ∧ DGet H a y (some v) ∧ Q v H) idxD := fun w s x y d e Q E st rx ry hp => by
  unfold idxD at hp
  split at hp
  · rename_i m hm
    obtain ⟨p, l, rfl, hd, kv⟩ := dctOf_ok st rx hm
    split at hp
    · rename_i k hk
      have ey := keyD_ok ry hk
      have g := getK_ok (k := k) kv
      cases eg : getK m k with
      | none => rw [eg] at hp; exact hp.elim
      | some d3 =>
        rw [eg] at g hp
        obtain ⟨v, hv, rv⟩ := g
        exact .inr ⟨p, v, rfl, .inl ⟨l, k, hd, ey, hv.symm⟩, hp.pure st rv⟩
    · exact hp.elim
  · rename_i nd
    cases ry with
    | int i =>
      dsimp only at hp
      cases d with
      | str z =>
        cases rx
        dsimp only at hp
        split at hp
        · rename_i hl
          cases ec : atI z.cps.toList i with
          | none => rw [ec] at hp; exact hp.elim
          | some c0 =>
            rw [ec] at hp
            exact .inl (.inr (.inr ⟨z, i, c0, rfl, rfl, hl, ec, hp.pure st (.str _)⟩))
        · exact hp.elim
      | tup l =>
        cases rx with
        | tup hh rs =>
          dsimp only at hp
          cases ec : atI l i with
          | none => rw [ec] at hp; exact hp.elim
          | some d3 =>
            rw [ec] at hp
            obtain ⟨v, hv, rv⟩ := atI_ok rs ec
            exact .inl (.inr (.inl ⟨_, _, i, v, rfl, rfl, hh.sq, hv, hp.pure st rv⟩))
      | _ =>
        dsimp only at hp
        split at hp
        · rename_i l el
          obtain ⟨p, vs, rfl, hh, rs⟩ := lstOf_ok st rx el
          cases ec : atI l i with
          | none => rw [ec] at hp; exact hp.elim
          | some d3 =>
            rw [ec] at hp
            obtain ⟨v, hv, rv⟩ := atI_ok rs ec
            exact .inl (.inl ⟨_, _, i, v, rfl, rfl, hh, hv, hp.pure st rv⟩)
        · exact hp.elim
    | _ => exact hp.elim
theorem e_idx (hu : X.A.units + 1 < cLine) (ha : PE X a (tE X.K W ma)) (hb : PE X b (tE X.K W mb)) (hs : PlainIx b := by exact fun _ _ => rfl) : PE X (.Subscript a b pos) (tE X.K W (binM idxD ma mb)) :=
  PE.imp (pe_ix (IxR.or ix_seq (ix_dict hu)) ha hb hs) fun t H Q h => by
    obtain ⟨r, s, w, rfl, env, st, hp⟩ := h
    exact hp.bind env st fun x d s1 w1 e1 st1 r1 hp1 => hp1.bind (env.ext e1) st1 fun y d2 s2 w2 e2 st2 r2 hp2 => v_idx w2 s2 x y d d2 Q _ st2 (r1.ext e2) r2 hp2
/-! ### slices -/
abbrev tO (K : Frag) (W : WX) (m : DM (Option Int)) : TO := tM K (fun _ (b c : Option Int) => b = c) W m
theorem PO.imp {e : Option Expr} {t t' : TO} (h : PO X e t) (i : ∀ σ H Q, t' σ H Q → t σ H Q) : PO X e t' := ⟨fun pins s σ H Q I q => h.run pins s σ H Q I (i _ _ _ q)⟩
theorem o_none : PO X none (tO X.K W (pureM none)) := PO.imp po_none fun t H Q h => by
  obtain ⟨r, s, w, rfl, env, st, hp⟩ := h
  exact hp.pure st rfl
theorem o_some (ha : PE X a (tE X.K W ma)) : PO X (some a) (tO X.K W (optM ma)) := PO.imp (po_some ha) fun t H Q h => by
  obtain ⟨r, s, w, rfl, env, st, hp⟩ := h
  exact hp.bind env st fun x d s1 w1 e1 st1 r1 hp1 => by
    cases r1 with
    | int i => exact ⟨i, rfl, hp1.pure st1 rfl⟩
    | _ => exact hp1.elim
theorem SlR.or {r r' : V → Option Int → Option Int → Hp → VK → Prop} (h : SlR X r) (h' : SlR X r') : SlR X (fun x l u H Q => r x l u H Q ∨ r' x l u H Q) := by
  unfold SlR at h h' ⊢
  intros
  rename_i q
  rcases q with q | q
  · apply h <;> assumption
  · apply h' <;> assumption
theorem e_sli {lo hi : Option Expr} {p2 : Pos} {ml mh : DM (Option Int)} (k : Bool) (ha : PE X a (tE X.K W ma)) (hl : PO X lo (tO X.K W ml)) (hh : PO X hi (tO X.K W mh)) : PE X (.Subscript a (.Slice lo hi none p2) pos) (tE X.K W (sliM k ma ml mh)) :=
  PE.imp (pe_slice (SlR.or sl_list (SlR.or sl_tupA sl_str)) ha hl hh) fun t H Q h => by
    obtain ⟨r, s, w, rfl, env, st, hp⟩ := h
    exact hp.bind env st fun x d s1 w1 e1 st1 r1 hp1 => hp1.bind (env.ext e1) st1 fun lo1 lo2 s2 w2 e2 st2 r2 hp2 => hp2.bind ((env.ext e1).ext e2) st2 fun hi1 hi2 s3 w3 e3 st3 r3 hp3 => by
      subst r2 r3
      have rx := (r1.ext e2).ext e3
      unfold sliD at hp3
      cases d with
      | str z =>
        cases rx
        dsimp only at hp3
        split at hp3
        · rename_i hl
          exact .inr (.inr ⟨z, rfl, hl, hp3.pure st3 (.str _)⟩)
        · exact hp3.elim
      | tup l =>
        cases rx with
        | tup hq rs =>
          refine .inr (.inl ⟨_, _, rfl, hq.sq, fun e => ?_, fun e => ?_⟩)
          · refine hp3.pure st3 (.tup hq ?_)
            have q := cutD_ok rs lo1 hi1
            unfold cutV at q
            rw [e.1, e.2, Nat.sub_zero, List.drop_zero, List.take_length] at q
            exact q
          · exact hp3.frz st3 fun p np => rep_newT st3 (cutD_ok rs lo1 hi1) np
      | _ =>
        dsimp only at hp3
        split at hp3
        · rename_i l el
          obtain ⟨p, vs, rfl, hq, rs⟩ := lstOf_ok st3 rx el
          exact .inl ⟨p, vs, rfl, hq, hp3.newL st3 (cutD_ok rs lo1 hi1)⟩
        · exact hp3.elim
/-! ### in, not in -/
theorem str_of_list {i : Str} {c : Nat} (h : i.cps.toList = [c]) : i = ⟨#[c]⟩ := by
  obtain ⟨a⟩ := i
  congr 1
  apply Array.ext'
  exact h
def rInG (K : Frag) (neg : Bool) : R2 := fun x y H Q => (∃ a o, y = .ref a ∧ DGet H a x o ∧ Q (.bl (if neg then !o.isSome else o.isSome)) H) ∨ (∃ (c : Nat) (z : Str), x = .str ⟨#[c]⟩ ∧ y = .str z ∧ Q (.bl (if neg then !decide (c ∈ z.cps.toList) else decide (c ∈ z.cps.toList))) H) ∨
  (∃ i j, x = .str i ∧ y = .str j ∧ Q (.bl (if neg then !(!(Builtin.Str.occurrences j i 0 j.length 1).isEmpty) else !(Builtin.Str.occurrences j i 0 j.length 1).isEmpty)) H) ∨ rIn K neg x y H Q
theorem v_in {neg : Bool} : VR2 X.K (rInG X.K neg) (inD neg) := fun w s x y d e Q E st rx ry hp => by
  unfold inD at hp
  split at hp
  · rename_i m hm
    obtain ⟨p, l, rfl, hd, kv⟩ := dctOf_ok st ry hm
    split at hp
    · rename_i k hk
      have ex := keyD_ok rx hk
      have g := getK_ok (k := k) kv
      refine .inl ⟨p, valV l k, rfl, .inl ⟨l, k, hd, ex, rfl⟩, ?_⟩
      cases eg : getK m k with
      | none =>
        rw [eg] at g hp
        have g' : valV l k = none := g
        rw [g']
        exact hp.pure st (.bl _)
      | some d3 =>
        rw [eg] at g hp
        obtain ⟨v, hv, rv⟩ := g
        rw [hv]
        exact hp.pure st (.bl _)
    · exact hp.elim
  · have seq : Post X.K (Rep X.K) w E Q (match seqOf s e with
      | some l => if (flatD d && l.all flatD) = true then .ok (.bl (if neg then !inF d l else inF d l)) s else .bad
      | none => .bad) → rIn X.K neg x y w.H Q := fun hp => by
      split at hp
      · rename_i l el
        obtain ⟨p, vs, rfl, hq, rs⟩ := seqOf_ok st ry el
        split at hp
        · rename_i hf
          obtain ⟨h1, h2⟩ := Bool.and_eq_true_iff.mp hf
          refine ⟨p, vs, rfl, hq, flat_ok rx h1, flats_ok rs h2, ?_⟩
          rw [inF_ok rx h1 rs h2]
          exact hp.pure st (.bl _)
        · exact hp.elim
      · exact hp.elim
    cases e with
    | str j =>
      cases ry
      cases d with
      | str i =>
        cases rx
        have q : Q (.bl (if neg then !inStr i j else inStr i j)) w.H := hp.pure st (.bl _)
        have alt : (∃ c0, i.cps.toList = [c0] ∧ inStr i j = decide (c0 ∈ j.cps.toList)) ∨ inStr i j = !(Builtin.Str.occurrences j i 0 j.length 1).isEmpty := by
          unfold inStr
          split
          · rename_i c0 hc
            exact .inl ⟨c0, hc, rfl⟩
          · exact .inr rfl
        rcases alt with ⟨c0, hc, e0⟩ | e0
        · rw [e0] at q
          have ei := str_of_list hc
          subst ei
          exact .inr (.inl ⟨c0, j, rfl, rfl, q⟩)
        · rw [e0] at q
          exact .inr (.inr (.inl ⟨i, j, rfl, rfl, q⟩))
      | _ => exact hp.elim
    | _ => exact .inr (.inr (.inr (seq hp)))
theorem o_in (hu : X.A.units + 1 < cLine) : OpR X (compareOp .In) (rInG X.K false) := OpR.or (op_inDict hu) (OpR.or op_in_sign (OpR.or op_in_str op_in_seq))
theorem o_notIn (hu : X.A.units + 1 < cLine) : OpR X (compareOp .NotIn) (rInG X.K true) := OpR.or (op_notInDict hu) (OpR.or op_notIn_sign (OpR.or op_notin_str op_notIn_seq))
theorem e_in (hu : X.A.units + 1 < cLine) (ha : PE X a (tE X.K W ma)) (hb : PE X b (tE X.K W mb)) (hm : behindInMarks .In b = false := by rfl) : PE X (.Compare a [.In] [b] pos) (tE X.K W (binM (inD false) ma mb)) := e_cmp (o_in hu) v_in ha hb hm
theorem t_in (hu : X.A.units + 1 < cLine) (ha : PE X a (tE X.K W ma)) (hb : PE X b (tE X.K W mb)) (hm : behindInMarks .In b = false := by rfl) : PT X (.Compare a [.In] [b] pos) (tT X.K W (blM (binM (inD false) ma mb))) := t_cmp (o_in hu) v_in ha hb hm
theorem e_notIn (hu : X.A.units + 1 < cLine) (ha : PE X a (tE X.K W ma)) (hb : PE X b (tE X.K W mb)) (hm : behindInMarks .NotIn b = false := by rfl) : PE X (.Compare a [.NotIn] [b] pos) (tE X.K W (binM (inD true) ma mb)) := e_cmp (o_notIn hu) v_in ha hb hm
theorem t_notIn (hu : X.A.units + 1 < cLine) (ha : PE X a (tE X.K W ma)) (hb : PE X b (tE X.K W mb)) (hm : behindInMarks .NotIn b = false := by rfl) : PT X (.Compare a [.NotIn] [b] pos) (tT X.K W (blM (binM (inD true) ma mb))) := t_cmp (o_notIn hu) v_in ha hb hm
end
end Mp

set_option Elab.async false
set_option linter.all false
set_option maxRecDepth 100000
set_option maxHeartbeats 4000000
/-! Mp: statements, loops. -/
namespace Mp
open PySem PySem.Spec PyProof.Rows L2
/-! ### on data -/
def seqS (a b : DS) : DS := fun r s => match a r s with
  | .nx r' s' => b r' s'
  | f => f
def skipS : DS := fun r s => .nx r s
def brkS : DS := fun r s => .bk r s
def cntS : DS := fun r s => .ct r s
def setS (i : Nat) (m : DE) : DS := thenS m fun d => fun r s => .nx (r.set i (some d)) s
def exprS (m : DE) : DS := thenS m fun _ => fun r s => .nx r s
def retS (m : DE) : DS := thenS m fun d => fun _ s => .rt d s
def retN : DS := fun _ s => .rt .non s
def ifS (c : DM Bool) (a b : DS) : DS := thenS c fun k => if k = true then a else b
def nameG (i : Nat) : DG := fun d r s => some (r.set i (some d), s)
abbrev DGs := List D → En → Sto → Option (En × Sto)
def nilG : DGs := fun ds r s => match ds with
  | [] => some (r, s)
  | _ => none
def consG (g : DG) (h : DGs) : DGs := fun ds r s => match ds with
  | d :: l => (g d r s).bind fun p => h l p.1 p.2
  | [] => none
def tupG (n : Nat) (h : DGs) : DG := fun d r s => match seqOf s d with
  | some l => if l.length = n then h l r s else none
  | none => none
def asgS (m : DE) (g : DG) : DS := thenS m fun d => fun r s => match g d r s with
  | some p => .nx p.1 p.2
  | none => .bad
def par2S (i j : Nat) (m : DM (List D)) : DS := thenS m fun ds => fun r s => match ds with
  | [a, b] => .nx ((r.set i (some a)).set j (some b)) s
  | _ => .bad
def par3S (i j l : Nat) (m : DM (List D)) : DS := thenS m fun ds => fun r s => match ds with
  | [a, b, c] => .nx (((r.set i (some a)).set j (some b)).set l (some c)) s
  | _ => .bad
def augS (i : Nat) (f : D → D → Sto → Res D) (m : DE) : DS := thenS (binM f (vM i) m) fun d => fun r s => .nx (r.set i (some d)) s
def whileF (t : DM Bool) (b : DS) : Nat → DS
  | 0 => fun _ _ => .bad
  | n + 1 => fun r s => match t r s with
    | .ok k s1 => if k = true then (match b r s1 with
      | .nx r' s' => whileF t b n r' s'
      | .ct r' s' => whileF t b n r' s'
      | .bk r' s' => .nx r' s'
      | .rt d s' => .rt d s'
      | .exc C fs r' s' => .exc C fs r' s'
      | .bad => .bad) else .nx r s1
    | .exc C fs s1 => .exc C fs r s1
    | .bad => .bad
open Classical in
noncomputable def whileS (t : DM Bool) (b : DS) : DS := fun r s => if h : ∃ n, whileF t b n r s ≠ .bad then whileF t b (Classical.choose h) r s else .bad
/-- what a loop walks: its items; a cell that must stay as it is meanwhile -/
structure Src where
  its : List D
  cel : Option Nat
def SrcOk (c : Src) (s : Sto) : Prop := match c.cel with
  | none => True
  | some n => s[n]? = some (some (.lst c.its))
open Classical in
noncomputable def forF (c : Src) (g : DG) (b : DS) : List D → DS
  | [] => fun r s => if SrcOk c s then .nx r s else .bad
  | d :: l => fun r s => if SrcOk c s then (match g d r s with
    | none => .bad
    | some p => (match b p.1 p.2 with
      | .nx r' s' => forF c g b l r' s'
      | .ct r' s' => forF c g b l r' s'
      | .bk r' s' => .nx r' s'
      | .rt d s' => .rt d s'
      | .exc C fs r' s' => .exc C fs r' s'
      | .bad => .bad)) else .bad
noncomputable def forS (m : DM Src) (g : DG) (b : DS) : DS := thenS m fun c => forF c g b c.its
theorem whileF_mono {t : DM Bool} {b : DS} : ∀ {n : Nat} {r : En} {s : Sto}, whileF t b n r s ≠ .bad → ∀ m, n ≤ m → whileF t b m r s = whileF t b n r s
  | 0, _, _, h, _, _ => absurd rfl h
  | n + 1, r, s, h, 0, hm => by omega
  | n + 1, r, s, h, m + 1, hm => by
    unfold whileF at h ⊢
    cases e : t r s with
    | ok k s1 =>
      simp only [e] at h ⊢
      cases k with
      | false => rfl
      | true =>
        simp only [if_true] at h ⊢
        cases e2 : b r s1 with
        | nx r' s' =>
          simp only [e2] at h ⊢
          exact whileF_mono h m (by omega)
        | ct r' s' =>
          simp only [e2] at h ⊢
          exact whileF_mono h m (by omega)
        | _ => rfl
    | _ => rfl
theorem whileS_of {t : DM Bool} {b : DS} {n : Nat} {r : En} {s : Sto} (h : whileF t b n r s ≠ .bad) : whileS t b r s = whileF t b n r s := by
  unfold whileS
  have hx : ∃ n, whileF t b n r s ≠ .bad := ⟨n, h⟩
  rw [dif_pos hx]
  have h2 := Classical.choose_spec hx
  rcases Nat.le_total n (Classical.choose hx) with q | q
  · exact whileF_mono h _ q
  · exact (whileF_mono h2 _ q).symm
/-- one turn -/
theorem whileS_eq {t : DM Bool} {b : DS} {r : En} {s : Sto} : whileS t b r s = (match t r s with
    | .ok k s1 => if k = true then (match b r s1 with
      | .nx r' s' => whileS t b r' s'
      | .ct r' s' => whileS t b r' s'
      | .bk r' s' => .nx r' s'
      | .rt d s' => .rt d s'
      | .exc C fs r' s' => .exc C fs r' s'
      | .bad => .bad) else .nx r s1
    | .exc C fs s1 => .exc C fs r s1
    | .bad => .bad) := by
  have turn : ∀ r' s' n, whileF t b n r' s' = .bad ∨ whileF t b n r' s' = whileS t b r' s' := fun r' s' n => by
    by_cases h : whileF t b n r' s' = .bad
    · exact .inl h
    · exact .inr (whileS_of h).symm
  have nox : ∀ r' s', (∀ n, whileF t b n r' s' = .bad) → whileS t b r' s' = .bad := fun r' s' h => by
    unfold whileS
    rw [dif_neg]
    rintro ⟨n, hn⟩
    exact hn (h n)
  by_cases hx : ∃ n, whileF t b n r s ≠ .bad
  · obtain ⟨n, hn⟩ := hx
    rw [whileS_of hn]
    cases n with
    | zero => exact absurd rfl hn
    | succ n =>
      unfold whileF at hn ⊢
      cases e : t r s with
      | ok k s1 =>
        simp only [e] at hn ⊢
        cases k with
        | false => rfl
        | true =>
          simp only [if_true] at hn ⊢
          cases e2 : b r s1 with
          | nx r' s' =>
            simp only [e2] at hn ⊢
            exact (whileS_of hn).symm
          | ct r' s' =>
            simp only [e2] at hn ⊢
            exact (whileS_of hn).symm
          | _ => rfl
      | _ => rfl
  · have hb : ∀ n, whileF t b n r s = .bad := fun n => Classical.byContradiction fun h => hx ⟨n, h⟩
    rw [nox r s hb]
    have h1 := fun n => hb (n + 1)
    unfold whileF at h1
    cases e : t r s with
    | ok k s1 =>
      simp only [e] at h1 ⊢
      cases k with
      | false => exact (h1 0).symm
      | true =>
        simp only [if_true] at h1 ⊢
        cases e2 : b r s1 with
        | nx r' s' =>
          simp only [e2] at h1 ⊢
          exact (nox r' s' h1).symm
        | ct r' s' =>
          simp only [e2] at h1 ⊢
          exact (nox r' s' h1).symm
        | bk r' s' => simp only [e2] at h1; exact (h1 0).symm
        | rt d s' => simp only [e2] at h1; exact (h1 0).symm
        | exc C fs r' s' => simp only [e2] at h1; exact (h1 0).symm
        | bad => rfl
    | exc C fs s1 => simp only [e] at h1; exact (h1 0).symm
    | bad => rfl

/-! ### soundness -/
section
variable {X : Cx} {W : WX} {a b c : Expr} {es : List Expr} {pos : Pos} {ma mb mc : DE} {mr : DM (List D)} {st st2 : Stmt} {rest : List Stmt} {m1 m2 : DS}
theorem s_nil : PSs X [] (tS X.K W skipS) := PSs.imp pss_nil fun E t H h => by
  obtain ⟨r, s, w, rfl, env, st, hp⟩ := h
  exact hp t w (Ext.refl w) env st
theorem seq_imp {E : Ends} {t : L2.St} {H : Hp} {K : Frag} (h : tS K W (seqS m1 m2) E t H) : tSeq (tS K W m1) (tS K W m2) E t H := by
  obtain ⟨r, s, w, rfl, env, st, hp⟩ := h
  refine ⟨r, s, w, rfl, env, st, ?_⟩
  unfold seqS at hp
  cases e : m1 r s with
  | nx r' s' =>
    rw [e] at hp
    exact fun t' w' e' env' st' => ⟨r', s', w', rfl, env', st', hp.ext e'⟩
  | rt d s' => rw [e] at hp; exact hp
  | bk r' s' => rw [e] at hp; exact hp
  | ct r' s' => rw [e] at hp; exact hp
  | exc C fs r' s' => rw [e] at hp; exact hp
  | bad => rw [e] at hp; exact hp
theorem s_cons (h1 : PS X st (tS X.K W m1)) (h2 : PSs X rest (tS X.K W m2)) : PSs X (st :: rest) (tS X.K W (seqS m1 m2)) := PSs.imp (pss_cons h1 h2) fun E t H h => seq_imp h
theorem s_one (h1 : PS X st (tS X.K W m1)) : PSs X [st] (tS X.K W m1) := pss_one h1
theorem s_pass : PS X (.Pass pos) (tS X.K W skipS) := PS.imp ps_pass fun E t H h => by
  obtain ⟨r, s, w, rfl, env, st, hp⟩ := h
  exact hp t w (Ext.refl w) env st
theorem s_break : PS X (.Break pos) (tS X.K W brkS) := PS.imp ps_break fun E t H h => by
  obtain ⟨r, s, w, rfl, env, st, hp⟩ := h
  exact hp t w (Ext.refl w) env st
theorem s_continue : PS X (.Continue pos) (tS X.K W cntS) := PS.imp ps_continue fun E t H h => by
  obtain ⟨r, s, w, rfl, env, st, hp⟩ := h
  exact hp t w (Ext.refl w) env st
theorem s_expr (he : PE X a (tE X.K W ma)) (hs : swapsWith a none pos.line X.env = pure false := by rfl) : PS X (.Expr a pos) (tS X.K W (exprS ma)) := PS.imp (ps_expr he hs) fun E t H h => by
  obtain ⟨r, s, w, rfl, env, st, hp⟩ := h
  exact hp.bind env st fun x d s1 w1 e1 st1 r1 hp1 => hp1 t w1 (Ext.refl w1) (env.ext e1) st1
theorem s_ret (he : PE X a (tE X.K W ma)) : PS X (.Return (some a) pos) (tS X.K W (retS ma)) := PS.imp (ps_ret he) fun E t H h => by
  obtain ⟨r, s, w, rfl, env, st, hp⟩ := h
  exact hp.bind env st fun x d s1 w1 e1 st1 r1 hp1 => hp1 x w1 (Ext.refl w1) st1 r1
theorem s_retN : PS X (.Return none pos) (tS X.K W retN) := PS.imp ps_retN fun E t H h => by
  obtain ⟨r, s, w, rfl, env, st, hp⟩ := h
  exact hp .non w (Ext.refl w) st .non
theorem s_if {mt : DM Bool} {s1 s2 : List Stmt} (hc : PT X c (tT X.K W mt)) (ha : PSs X s1 (tS X.K W m1)) (hb : PSs X s2 (tS X.K W m2)) : PS X (.If c s1 s2 pos) (tS X.K W (ifS mt m1 m2)) := PS.imp (ps_if hc ha hb) fun E t H h => by
  obtain ⟨r, s, w, rfl, env, st, hp⟩ := h
  exact hp.bind env st fun x d s1 w1 e1 st1 r1 hp1 => by
    subst r1
    cases x with
    | true => exact ⟨r, s1, w1, rfl, env.ext e1, st1, hp1⟩
    | false => exact ⟨r, s1, w1, rfl, env.ext e1, st1, hp1⟩
theorem s_set {i : Nat} {x : Str} {pos' : Pos} (hN : X.N.Nodup) (hi : X.N[i]? = some x) (hx : Loc X.env.scope x) (he : PE X a (tE X.K W ma)) (hs : swapsWith a (some (.Name x pos')) pos.line X.env = pure false := by rfl)
    (hf : X.fn x = true ∨ X.env.scope.names.lookup x = some .local := by first | exact .inl rfl | exact .inr rfl | assumption) : PS X (.Assign [.Name x pos'] a pos) (tS X.K W (setS i ma)) := PS.imp (ps_set hN hi hx he hs hf) fun E t H h => by
  obtain ⟨r, s, w, rfl, env, st, hp⟩ := h
  exact hp.bind env st fun x d s1 w1 e1 st1 r1 hp1 => hp1 _ w1 (Ext.refl w1) ((env.ext e1).set r1 i) st1
/-! targets -/
def tG (K : Frag) (g : DG) : TG := fun v t H Q => ∃ r s w d, w.H = H ∧ EnvR K w r t ∧ StR K w s ∧ Rep K w v d ∧ (match g d r s with
  | some p => ∀ t' w', Ext w w' → EnvR K w' p.1 t' → StR K w' p.2 → Q t' w'.H
  | none => False)
def tGs (K : Frag) (g : DGs) : TGs := fun vs t H Q => ∃ r s w ds, w.H = H ∧ EnvR K w r t ∧ StR K w s ∧ Reps K w vs ds ∧ (match g ds r s with
  | some p => ∀ t' w', Ext w w' → EnvR K w' p.1 t' → StR K w' p.2 → Q t' w'.H
  | none => False)
theorem PG.imp {tg : Expr} {t t' : TG} (h : PG X tg t) (i : ∀ v σ H Q, t' v σ H Q → t v σ H Q) : PG X tg t' := ⟨fun pins s σ H v u Q I r q => h.run pins s σ H v u Q I r (i _ _ _ _ q)⟩
theorem PGs.imp {tg : List Expr} {t t' : TGs} (h : PGs X tg t) (i : ∀ v σ H Q, t' v σ H Q → t v σ H Q) : PGs X tg t' := ⟨fun pins s σ H v u Q I r q => h.run pins s σ H v u Q I r (i _ _ _ _ q)⟩
theorem PG.or {tg : Expr} {t t' : TG} (h : PG X tg t) (h' : PG X tg t') : PG X tg (fun v σ H Q => t v σ H Q ∨ t' v σ H Q) := ⟨fun pins s σ H v u Q I r q => q.elim (h.run pins s σ H v u Q I r) (h'.run pins s σ H v u Q I r)⟩
theorem g_name {i : Nat} {x : Str} (hN : X.N.Nodup) (hi : X.N[i]? = some x) (hx : Loc X.env.scope x) (hf : X.fn x = true ∨ X.env.scope.names.lookup x = some .local := by first | exact .inl rfl | exact .inr rfl | assumption) : PG X (.Name x pos) (tG X.K (nameG i)) :=
  PG.imp (pg_name hN hi hx hf) fun v t H Q h => by
    obtain ⟨r, s, w, d, rfl, env, st, rv, hp⟩ := h
    exact hp _ w (Ext.refl w) (env.set rv i) st
theorem gs_nil : PGs X [] (tGs X.K nilG) := PGs.imp pgs_nil fun v t H Q h => by
  obtain ⟨r, s, w, ds, rfl, env, st, rv, hp⟩ := h
  cases rv with
  | nil => exact ⟨rfl, hp _ w (Ext.refl w) env st⟩
  | cons _ _ => exact hp.elim
theorem gs_cons {g : DG} {g2 : DGs} (h1 : PG X a (tG X.K g)) (h2 : PGs X es (tGs X.K g2)) (hs : (assignEach (a :: es) X.env).map (·.2) = assign a X.env :: (assignEach es X.env).map (·.2) := by rfl) : PGs X (a :: es) (tGs X.K (consG g g2)) :=
  PGs.imp (pgs_cons h1 h2 hs) fun v t H Q h => by
    obtain ⟨r, s, w, ds, rfl, env, st, rv, hp⟩ := h
    cases rv with
    | nil => exact hp.elim
    | @cons v d vs ds r1 r2 =>
      refine ⟨v, vs, rfl, r, s, w, d, rfl, env, st, r1, ?_⟩
      unfold consG at hp
      dsimp only at hp
      cases e : g d r s with
      | none => rw [e] at hp; exact hp.elim
      | some p =>
        rw [e] at hp
        refine fun t' w' e' env' st' => ⟨p.1, p.2, w', ds, rfl, env', st', r2.ext e', ?_⟩
        have hp' : (match g2 ds p.1 p.2 with
          | some p => ∀ t' w', Ext w w' → EnvR X.K w' p.1 t' → StR X.K w' p.2 → Q t' w'.H
          | none => False) := hp
        cases e2 : g2 ds p.1 p.2 with
        | none => rw [e2] at hp'; exact hp'.elim
        | some p2 =>
          rw [e2] at hp'
          exact fun t2 w2 x2 => hp' t2 w2 (e'.trans x2)
theorem g_tup {k n : Nat} {g : DGs} (hc : X.calm = true) (h : PGs X es (tGs X.K g)) (hn : (assignEach es X.env).length = n := by rfl) (hst : (assignEach es X.env).findIdx? (·.1) = none := by rfl) : PG X (.Tuple es k pos) (tG X.K (tupG n g)) :=
  PG.imp (PG.or (pg_tup hc h hn hst) (pg_lst hc h hn hst)) fun v t H Q h => by
    obtain ⟨r, s, w, d, rfl, env, st, rv, hp⟩ := h
    unfold tupG at hp
    cases e : seqOf s d with
    | none => rw [e] at hp; exact hp.elim
    | some l =>
      rw [e] at hp
      dsimp only at hp
      obtain ⟨p, vs, rfl, hq, rs⟩ := seqOf_ok st rv e
      by_cases hl : l.length = n
      · rw [if_pos hl] at hp
        have hin : tGs X.K g vs t w.H Q := ⟨r, s, w, l, rfl, env, st, rs, hp⟩
        rcases hq with hq | hq
        · exact .inr ⟨p, vs, rfl, hq, by rw [rs.length, hl], hin⟩
        · exact .inl ⟨p, vs, rfl, hq, by rw [rs.length, hl], hin⟩
      · rw [if_neg hl] at hp
        exact hp.elim
theorem s_asg {tg : Expr} {g : DG} (he : PE X a (tE X.K W ma)) (hg : PG X tg (tG X.K g)) (hs : swapsWithSole [tg] a pos.line X.env = pure false := by rfl) (hw : swappedStores [tg] a X.env = pure none := by rfl)
    (h1 : (assignEach [tg] X.env).map (·.2) = [assign tg X.env] := by rfl) : PS X (.Assign [tg] a pos) (tS X.K W (asgS ma g)) := PS.imp (ps_asg he hg hs hw h1) fun E t H h => by
  obtain ⟨r, s, w, rfl, env, st, hp⟩ := h
  exact hp.bind env st fun x d s1 w1 e1 st1 r1 hp1 => by
    refine ⟨r, s1, w1, d, rfl, env.ext e1, st1, r1, ?_⟩
    cases e : g d r s1 with
    | none => rw [e] at hp1; exact hp1.elim
    | some p =>
      rw [e] at hp1
      exact hp1
theorem s_par2 {i j : Nat} {x y : Str} {px py pt : Pos} {kt k2 : Nat} {pt2 : Pos} (hc : X.calm = true) (hN : X.N.Nodup) (hi : X.N[i]? = some x) (hj : X.N[j]? = some y) (hij : i ≠ j) (hx : X.env.scope.names.lookup x = some .local) (hy : X.env.scope.names.lookup y = some .local)
    (ha : PA X [a, b] (tA X.K W mr)) (hw : swappedStores [.Tuple [.Name x px, .Name y py] kt pt] (.Tuple [a, b] k2 pt2) X.env = pure (some [x, y]) := by rfl)
    (hs : swapsWithSole [.Tuple [.Name x px, .Name y py] kt pt] (.Tuple [a, b] k2 pt2) pos.line X.env = pure false := by rfl) :
    PS X (.Assign [.Tuple [.Name x px, .Name y py] kt pt] (.Tuple [a, b] k2 pt2) pos) (tS X.K W (par2S i j mr)) := PS.imp (ps_par hc hN hi hj hij hx hy ha hw hs) fun E t H h => by
  obtain ⟨r, s, w, rfl, env, st, hp⟩ := h
  exact hp.bind env st fun vs ds s1 w1 e1 st1 r1 hp1 => by
    cases r1 with
    | nil => exact hp1.elim
    | cons q1 r2 =>
      cases r2 with
      | nil => exact hp1.elim
      | cons q2 r3 =>
        cases r3 with
        | nil => exact ⟨_, _, rfl, hp1 _ w1 (Ext.refl w1) (((env.ext e1).set q1 i).set q2 j) st1⟩
        | cons _ _ => exact hp1.elim
theorem s_par3 {i j l : Nat} {x y z : Str} {px py pz pt : Pos} {kt k2 : Nat} {pt2 : Pos} (hc : X.calm = true) (hN : X.N.Nodup) (hi : X.N[i]? = some x) (hj : X.N[j]? = some y) (hl : X.N[l]? = some z) (hij : i ≠ j) (hil : i ≠ l) (hjl : j ≠ l)
    (hx : X.env.scope.names.lookup x = some .local) (hy : X.env.scope.names.lookup y = some .local) (hz : X.env.scope.names.lookup z = some .local)
    (ha : PA X [a, b, c] (tA X.K W mr)) (hw : swappedStores [.Tuple [.Name x px, .Name y py, .Name z pz] kt pt] (.Tuple [a, b, c] k2 pt2) X.env = pure (some [x, y, z]) := by rfl)
    (hs : swapsWithSole [.Tuple [.Name x px, .Name y py, .Name z pz] kt pt] (.Tuple [a, b, c] k2 pt2) pos.line X.env = pure false := by rfl) :
    PS X (.Assign [.Tuple [.Name x px, .Name y py, .Name z pz] kt pt] (.Tuple [a, b, c] k2 pt2) pos) (tS X.K W (par3S i j l mr)) := PS.imp (ps_par3 hc hN hi hj hl hij hil hjl hx hy hz ha hw hs) fun E t H h => by
  obtain ⟨r, s, w, rfl, env, st, hp⟩ := h
  exact hp.bind env st fun vs ds s1 w1 e1 st1 r1 hp1 => by
    cases r1 with
    | nil => exact hp1.elim
    | cons q1 r2 =>
      cases r2 with
      | nil => exact hp1.elim
      | cons q2 r3 =>
        cases r3 with
        | nil => exact hp1.elim
        | cons q3 r4 =>
          cases r4 with
          | nil => exact ⟨_, _, _, rfl, hp1 _ w1 (Ext.refl w1) ((((env.ext e1).set q1 i).set q2 j).set q3 l) st1⟩
          | cons _ _ => exact hp1.elim
/-! while -/
theorem s_while {mt : DM Bool} {body : List Stmt} {mb : DS} (hp : PassesOwn (model X.prog X.w) X.A X.env X.xe) (hc : PT X c (tT X.K W mt)) (hb : PSs X body (tS X.K W mb)) : PS X (.While c body [] pos) (tS X.K W (whileS mt mb)) :=
  PS.imp (ps_while hp hc hb) fun E t H h => by
    obtain ⟨r, s, w, rfl, env, st, hp⟩ := h
    have hx : ∃ n, whileF mt mb n r s ≠ .bad := by
      apply Classical.byContradiction
      intro hx
      unfold whileS at hp
      rw [dif_neg hx] at hp
      exact hp.elim
    obtain ⟨n, hn⟩ := hx
    rw [whileS_of hn] at hp
    refine ⟨fun m t H => ∃ r s w, w.H = H ∧ EnvR X.K w r t ∧ StR X.K w s ∧ PostS X.K w W E (whileF mt mb m r s), ⟨n, r, s, w, rfl, env, st, hp⟩, fun m t H h => ?_⟩
    obtain ⟨r, s, w, rfl, env, st, hp⟩ := h
    cases m with
    | zero => exact hp.elim
    | succ m =>
      have hp' : PostS X.K w W E (thenS mt (fun k => if k = true then (fun r s => match mb r s with
        | .nx r' s' => whileF mt mb m r' s'
        | .ct r' s' => whileF mt mb m r' s'
        | .bk r' s' => .nx r' s'
        | .rt d s' => .rt d s'
        | .exc C fs r' s' => .exc C fs r' s'
        | .bad => .bad) else fun r s => .nx r s) r s) := by
        unfold whileF at hp
        unfold thenS
        cases e : mt r s with
        | ok k s1 =>
          rw [e] at hp
          cases k with
          | true => exact hp
          | false => exact hp
        | exc C fs s1 => rw [e] at hp; exact hp
        | bad => rw [e] at hp; exact hp
      exact hp'.bind env st fun x d s1 w1 e1 st1 r1 hp1 => by
        subst r1
        cases x with
        | false => exact hp1 t w1 (Ext.refl w1) (env.ext e1) st1
        | true =>
          have hp2 : PostS X.K w1 W E (match mb r s1 with
            | .nx r' s' => whileF mt mb m r' s'
            | .ct r' s' => whileF mt mb m r' s'
            | .bk r' s' => .nx r' s'
            | .rt d s' => .rt d s'
            | .exc C fs r' s' => .exc C fs r' s'
            | .bad => .bad) := hp1
          show (if true = true then _ else _)
          rw [if_pos rfl]
          refine ⟨fun t' H' => ∃ r s w, w.H = H' ∧ EnvR X.K w r t' ∧ StR X.K w s ∧ PostS X.K w W E (whileF mt mb m r s), fun t' H' q => ⟨m, Nat.lt_succ_self m, q⟩, r, s1, w1, rfl, env.ext e1, st1, ?_⟩
          cases e : mb r s1 with
          | nx r' s' =>
            rw [e] at hp2
            exact fun t' w' x' env' st' => ⟨r', s', w', rfl, env', st', hp2.ext x'⟩
          | ct r' s' =>
            rw [e] at hp2
            exact fun t' w' x' env' st' => ⟨r', s', w', rfl, env', st', hp2.ext x'⟩
          | bk r' s' => rw [e] at hp2; exact hp2
          | rt d s' => rw [e] at hp2; exact hp2
          | exc C fs r' s' => rw [e] at hp2; exact hp2
          | bad => rw [e] at hp2; exact hp2
/-! for -/
/-- an iterator that yields these -/
structure ItR (K : Frag) (w0 : Wd) (J : It) (c : Src) : Prop where
  go : ∀ (i : Nat) (d : D) (w : Wd) (s : Sto), c.its[i]? = some d → Ext w0 w → StR K w s → SrcOk c s → J.go i w.H ∧ ∀ x H', J.yld i w.H x H' → ∃ w', Ext w w' ∧ w'.H = H' ∧ StR K w' s ∧ Rep K w' x d
  stop : ∀ (w : Wd) (s : Sto), Ext w0 w → StR K w s → SrcOk c s → J.stop c.its.length w.H
abbrev tI (K : Frag) (W : WX) (m : DM Src) : TI := tM K (ItR K) W m
theorem PI.imp {tg iter : Expr} {t t' : TI} (h : PI X tg iter t) (i : ∀ σ H Q, t' σ H Q → t σ H Q) : PI X tg iter t' := ⟨fun pins s σ H Q I q => h.run pins s σ H Q I (i _ _ _ q)⟩
theorem PI.or {tg iter : Expr} {t t' : TI} (h : PI X tg iter t) (h' : PI X tg iter t') : PI X tg iter (fun σ H Q => t σ H Q ∨ t' σ H Q) := ⟨fun pins s σ H Q I q => q.elim (h.run pins s σ H Q I) (h'.run pins s σ H Q I)⟩
theorem s_for {tg iter : Expr} {body : List Stmt} {mi : DM Src} {g : DG} {mb : DS} (hp : PassesOwn (model X.prog X.w) X.A X.env X.xe) (hc : X.calm = true) (hi : PI X tg iter (tI X.K W mi)) (hg : PG X tg (tG X.K g)) (hb : PSs X body (tS X.K W mb))
    (hs : ∀ x, foldedSetIterable iter X.env x = pure x := by intro _; rfl) : PS X (.For tg iter body [] pos) (tS X.K W (forS mi g mb)) := PS.imp (ps_for hp hc hi hg hb hs) fun E t H h => by
  obtain ⟨r, s, w, rfl, env, st, hp⟩ := h
  exact hp.bind env st fun J sc s1 w1 e1 st1 r1 hp1 => by
    obtain ⟨its, cl⟩ := sc
    refine ⟨fun i m t H => i + m = its.length ∧ ∃ r s w, w.H = H ∧ Ext w1 w ∧ EnvR X.K w r t ∧ StR X.K w s ∧ PostS X.K w W E (forF ⟨its, cl⟩ g mb (its.drop i) r s), ⟨its.length, Nat.zero_add _, r, s1, w1, rfl, Ext.refl w1, env.ext e1, st1, hp1⟩, fun i m t H h => ?_⟩
    obtain ⟨him, r, s, w, rfl, ex, env, st, hp⟩ := h
    cases m with
    | zero =>
      have hi : i = its.length := by omega
      subst hi
      rw [List.drop_length] at hp
      unfold forF at hp
      by_cases ck : SrcOk ⟨its, cl⟩ s
      · rw [if_pos ck] at hp
        exact .inl ⟨r1.stop w s ex st ck, hp t w (Ext.refl w) env st⟩
      · rw [if_neg ck] at hp
        exact hp.elim
    | succ m =>
      have hlt : i < its.length := by omega
      have hd : its[i]? = some its[i] := List.getElem?_eq_getElem hlt
      rw [List.drop_eq_getElem_cons hlt] at hp
      unfold forF at hp
      by_cases ck : SrcOk ⟨its, cl⟩ s
      rotate_left
      · rw [if_neg ck] at hp
        exact hp.elim
      rw [if_pos ck] at hp
      obtain ⟨hgo, hy⟩ := r1.go i _ w s hd ex st ck
      refine .inr ⟨hgo, fun t' H' => i + 1 + m = its.length ∧ ∃ r s w, w.H = H' ∧ Ext w1 w ∧ EnvR X.K w r t' ∧ StR X.K w s ∧ PostS X.K w W E (forF ⟨its, cl⟩ g mb (its.drop (i + 1)) r s), fun t' H' q => ⟨m, Nat.lt_succ_self m, q⟩, fun x H' yl => ?_⟩
      obtain ⟨w2, x2, rfl, st2, rx⟩ := hy x H' yl
      refine ⟨r, s, w2, its[i], rfl, env.ext x2, st2, rx, ?_⟩
      cases eg : g its[i] r s with
      | none => rw [eg] at hp; exact hp.elim
      | some p =>
        rw [eg] at hp
        have hp3 := hp.ext x2
        refine fun t3 w3 x3 env3 st3 => ⟨p.1, p.2, w3, rfl, env3, st3, ?_⟩
        have hp4 := hp3.ext x3
        dsimp only at hp4
        cases e : mb p.1 p.2 with
        | nx r' s' =>
          rw [e] at hp4
          exact fun t' w' x' env' st' => ⟨by omega, r', s', w', rfl, ((ex.trans x2).trans x3).trans x', env', st', hp4.ext x'⟩
        | ct r' s' =>
          rw [e] at hp4
          exact fun t' w' x' env' st' => ⟨by omega, r', s', w', rfl, ((ex.trans x2).trans x3).trans x', env', st', hp4.ext x'⟩
        | bk r' s' => rw [e] at hp4; exact hp4
        | rt d s' => rw [e] at hp4; exact hp4
        | exc C fs r' s' => rw [e] at hp4; exact hp4
        | bad => rw [e] at hp4; exact hp4
end
end Mp

set_option Elab.async false
set_option linter.all false
set_option maxRecDepth 100000
set_option maxHeartbeats 4000000
/-! Mp: what is walked; comprehensions. -/
namespace Mp
open PySem PySem.Spec PyProof.Rows L2
def chars (z : Str) : List D := z.cps.toList.map fun c => .str ⟨#[c]⟩
def keyV : Key → D
  | .inl i => .int i
  | .inr z => .str z
/-- what a plain value yields -/
def srcD (s : Sto) : D → Option Src
  | .tup l => some ⟨l, none⟩
  | .lst l => some ⟨l, none⟩
  | .rol l => some ⟨l, none⟩
  | .str z => some ⟨chars z, none⟩
  | .dct m => some ⟨m.map fun p => keyV p.1, none⟩
  | .cel n => (match s[n]? with
    | some (some (.lst l)) => some ⟨l, some n⟩
    | _ => none)
  | _ => none
/-- a dict that is walked is locked from now on -/
def lockD (s : Sto) : D → Option (List (Key × D) × Sto)
  | .dct m => some (m, s)
  | .cel n => (match s[n]? with
    | some (some (.dct m)) => some (m, s.set n (some (.rod m)))
    | some (some (.rod m)) => some (m, s)
    | _ => none)
  | _ => none
def srcM (s : Sto) (x : D) : Res Src := match lockD s x with
  | some p => .ok ⟨p.1.map fun p => keyV p.1, none⟩ p.2
  | none => okO s (srcD s x)
def seqI (a : DE) : DM Src := bindM a fun x => fun _ s => srcM s x
def intL (lo : Int) (n : Nat) : List D := (List.range n).map fun k => .int (lo + (k : Nat))
@[irreducible] def rangeD1 (ds : List D) (s : Sto) : Res Src := match ds with
  | [.int j] => if -(2 ^ 62) ≤ j ∧ j < 2 ^ 62 then .ok ⟨intL 0 j.toNat, none⟩ s else .bad
  | _ => .bad
@[irreducible] def rangeD2 (ds : List D) (s : Sto) : Res Src := match ds with
  | [.int i, .int j] => if -(2 ^ 62) ≤ i ∧ i < 2 ^ 62 ∧ -(2 ^ 62) ≤ j ∧ j < 2 ^ 62 then .ok ⟨intL i (j - i).toNat, none⟩ s else .bad
  | _ => .bad
/-- with a step of -1 -/
@[irreducible] def rangeD3 (ds : List D) (s : Sto) : Res Src := match ds with
  | [.int i, .int j, .int c] => if c = -1 ∧ -(2 ^ 62) ≤ i ∧ i < 2 ^ 62 ∧ -(2 ^ 62) ≤ j ∧ j < 2 ^ 62 then .ok ⟨(List.range (i - j).toNat).map fun k => .int (i + (k : Nat) * -1), none⟩ s else .bad
  | _ => .bad
def argI (f : List D → Sto → Res Src) (m : DM (List D)) : DM Src := bindM m fun ds => fun _ s => f ds s
def frzL : D → Option (Bool × List D)
  | .tup l => some (false, l)
  | .lst l => some (true, l)
  | .rol l => some (true, l)
  | _ => none
def zipD (ds : List D) (s : Sto) : Res Src := match ds with
  | [x, y] => (match frzL x, frzL y with
    | some (k, l), some (j, m) => if k = j then .ok ⟨(l.zip m).map fun p => .tup [p.1, p.2], none⟩ s else .bad
    | _, _ => .bad)
  | _ => .bad
def enumF : Nat → List D → List D
  | _, [] => []
  | i, d :: l => .tup [.int (i : Nat), d] :: enumF (i + 1) l
def enumD (ds : List D) (s : Sto) : Res Src := match ds with
  | [x] => (match frzL x with
    | some (true, l) => .ok ⟨enumF 0 l, none⟩ s
    | _ => .bad)
  | _ => .bad
def itemsI (a : DE) : DM Src := bindM a fun x => fun _ s => match lockD s x with
  | some p => .ok ⟨p.1.map fun p => .tup [keyV p.1, p.2], none⟩ p.2
  | none => .bad
def valuesI (a : DE) : DM Src := bindM a fun x => fun _ s => match lockD s x with
  | some p => .ok ⟨p.1.map fun p => p.2, none⟩ p.2
  | none => .bad
/-! ### soundness -/
section
variable {X : Cx} {tg : Expr} {pins : List (Addr × Obj)} {t : L2.St} {H : Hp} {s1 : Shared} {R : It → Hp → Prop} {E : Value → Shared → Prop}
theorem it_list {p : Addr} {xs : List V} (I : Inv X pins t H s1) (hq : SqL X.K H p xs) (q : R (Itl X.K p) H) : wpAny (model X.prog X.w) X.A (pyIter (.ref p)) (PIE X pins t tg R) E s1 := by
  obtain ⟨vs, _, pl, _⟩ := I.list hq
  refine wpAny_pyIter_list pl.isList ⟨s1.heap.objs.size, [s1.heap.objs.size], _, _, H, rfl, I.kept (t' := s1.toks) fun _ _ z => Heap.get?_push_of_some _ z, turn_list p _, ⟨_, Heap.get?_push_size _ rfl, rfl, rfl⟩, fun z hz => ?_, q⟩
  cases List.mem_singleton.mp hz
  exact I.fpOk (Nat.le_refl _) (I.hok.fresh (Nat.le_refl _))
theorem it_tup {p : Addr} {xs : List V} (I : Inv X pins t H s1) (hq : SqT X.K H p xs) (q : R (Itt X.K p) H) : wpAny (model X.prog X.w) X.A (pyIter (.ref p)) (PIE X pins t tg R) E s1 := by
  obtain ⟨vs, _, pl, _⟩ := I.tuple hq
  refine wpAny_pyIter_tuple (show s1.heap.IsTuple p vs.toArray from pl) ⟨s1.heap.objs.size, [s1.heap.objs.size], _, _, H, rfl, I.kept (t' := s1.toks) fun _ _ z => Heap.get?_push_of_some _ z, turn_tuple p _, ⟨_, Heap.get?_push_size _ rfl, rfl, rfl⟩, fun z hz => ?_, q⟩
  cases List.mem_singleton.mp hz
  exact I.fpOk (Nat.le_refl _) (I.hok.fresh (Nat.le_refl _))
theorem it_str {x : Str} {k : Tok} (I : Inv X pins t H s1) (q : R (Its x) H) : wpAny (model X.prog X.w) X.A (pyIter (.str x k)) (PIE X pins t tg R) E s1 := by
  cases ha : x.cps.all (· < 128)
  · refine wpAny_pyIter_wide ha (pi_one (tk := s1.toks) I _ (turn_str _ x k "str_iterator" (Or.inr rfl)) ⟨_, Heap.get?_push_size _ rfl, rfl, rfl⟩ q)
  · refine wpAny_pyIter_ascii ha (pi_one (tk := s1.toks) I _ (turn_str _ x k "str_ascii_iterator" (Or.inl rfl)) ⟨_, Heap.get?_push_size _ rfl, rfl, rfl⟩ q)
end
theorem it_keys {X : Cx} {tg : Expr} {pins : List (Addr × Obj)} {t : L2.St} {H : Hp} {s1 : Shared} {R : It → Hp → Prop} {E : Value → Shared → Prop} {p : Addr} {o : Obj} {l : List (Key × V)} (I : Inv X pins t H s1) (hd : H p = some (.frz o (.dK l))) (q : R (Itk p o l) H) : wpAny (model X.prog X.w) X.A (pyIter (.ref p)) (PIE X pins t tg R) E s1 := by
  obtain ⟨hs, hg, hx, es, ep, vs, hdt, hsz, _, _⟩ := I.frzK hd
  refine iter_keys hs hg hx hdt (pi_one (tk := s1.toks) I _ (turn_keys _ hdt) ⟨_, Heap.get?_push_size _ rfl, rfl, by rw [hsz] <;> rfl⟩ q)
section
variable {K : Frag} {w : Wd}
theorem itR_list {p : Addr} {vs : List V} {ds : List D} (h : LAt K w p vs) (rs : Reps K w vs ds) : ItR K w (Itl K p) ⟨ds, none⟩ where
  go := fun i d w' s hd e st _ => by
    obtain ⟨v, hv, rv⟩ := rs.get hd
    refine ⟨⟨vs, v, (h.ext e).sq, hv⟩, fun x H' y => ?_⟩
    obtain ⟨rfl, y⟩ := y
    have e2 := (y vs (h.ext e).sq).symm.trans hv
    cases e2
    exact ⟨w', Ext.refl w', rfl, st, rv.ext e⟩
  stop := fun w' s e st _ => ⟨vs, (h.ext e).sq, by rw [rs.length]; exact Nat.le_refl _⟩
theorem itR_cell {p : Addr} {n : Nat} {ds : List D} (h : w.A n = some p) : ItR K w (Itl K p) ⟨ds, some n⟩ where
  go := fun i d w' s hd e st ck => by
    obtain ⟨a1, h1, _, vs, hh, rs⟩ := st.at_ n _ ck
    have ea : a1 = p := Option.some.inj (h1.symm.trans (e.A n p h))
    subst ea
    obtain ⟨v, hv, rv⟩ := rs.get hd
    refine ⟨⟨vs, v, SqL.of hh, hv⟩, fun x H' y => ?_⟩
    obtain ⟨rfl, y⟩ := y
    have e2 := (y vs (SqL.of hh)).symm.trans hv
    cases e2
    exact ⟨w', Ext.refl w', rfl, st, rv⟩
  stop := fun w' s e st ck => by
    obtain ⟨a1, h1, _, vs, hh, rs⟩ := st.at_ n _ ck
    have ea : a1 = p := Option.some.inj (h1.symm.trans (e.A n p h))
    subst ea
    exact ⟨vs, SqL.of hh, by rw [rs.length]; exact Nat.le_refl _⟩
theorem itR_tup {p : Addr} {vs : List V} {ds : List D} (h : TAt K w p vs) (rs : Reps K w vs ds) : ItR K w (Itt K p) ⟨ds, none⟩ where
  go := fun i d w' s hd e st _ => by
    obtain ⟨v, hv, rv⟩ := rs.get hd
    refine ⟨⟨vs, v, (h.ext e).sq, hv⟩, fun x H' y => ?_⟩
    obtain ⟨rfl, y⟩ := y
    have e2 := (y vs (h.ext e).sq).symm.trans hv
    cases e2
    exact ⟨w', Ext.refl w', rfl, st, rv.ext e⟩
  stop := fun w' s e st _ => ⟨vs, (h.ext e).sq, by rw [rs.length]; exact Nat.le_refl _⟩
theorem itR_str {x : Str} : ItR K w (Its x) ⟨chars x, none⟩ where
  go := fun i d w' s hd e st _ => by
    have hd' : (x.cps.toList.map fun c => D.str ⟨#[c]⟩)[i]? = some d := hd
    rw [List.getElem?_map, Array.getElem?_toList] at hd'
    cases q : x.cps[i]? with
    | none => rw [q] at hd'; cases hd'
    | some c =>
      rw [q] at hd'
      have hl : i < x.cps.size := (Array.getElem?_eq_some_iff.mp q).1
      refine ⟨hl, fun y H' yl => ?_⟩
      obtain ⟨rfl, c2, q2, rfl⟩ := yl
      rw [q] at q2
      cases q2
      cases hd'
      exact ⟨w', Ext.refl w', rfl, st, .str _⟩
  stop := fun w' s e st _ => by
    show x.cps.size ≤ (x.cps.toList.map _).length
    rw [List.length_map, Array.length_toList]
    exact Nat.le_refl _
theorem itR_range {lo : Int} {n : Nat} : ItR K w (Itr lo n) ⟨intL lo n, none⟩ where
  go := fun i d w' s hd e st _ => by
    have hd' : ((List.range n).map fun k => D.int (lo + (k : Nat)))[i]? = some d := hd
    rw [List.getElem?_map] at hd'
    by_cases hi : i < n
    · rw [List.getElem?_range hi] at hd'
      cases hd'
      refine ⟨hi, fun x H' y => ?_⟩
      obtain ⟨rfl, rfl⟩ := y
      exact ⟨w', Ext.refl w', rfl, st, .int _⟩
    · rw [List.getElem?_eq_none (by rw [List.length_range]; omega)] at hd'
      cases hd'
  stop := fun w' s e st _ => by
    show n ≤ ((List.range n).map _).length
    rw [List.length_map, List.length_range]
    exact Nat.le_refl _
theorem itR_rangeC {lo c : Int} {n : Nat} : ItR K w (Itc lo c n) ⟨(List.range n).map fun k => .int (lo + (k : Nat) * c), none⟩ where
  go := fun i d w' s hd e st _ => by
    have hd' : ((List.range n).map fun k => D.int (lo + (k : Nat) * c))[i]? = some d := hd
    rw [List.getElem?_map] at hd'
    by_cases hi : i < n
    · rw [List.getElem?_range hi] at hd'
      cases hd'
      refine ⟨hi, fun x H' y => ?_⟩
      obtain ⟨rfl, rfl⟩ := y
      exact ⟨w', Ext.refl w', rfl, st, .int _⟩
    · rw [List.getElem?_eq_none (by rw [List.length_range]; omega)] at hd'
      cases hd'
  stop := fun w' s e st _ => by
    show n ≤ ((List.range n).map _).length
    rw [List.length_map, List.length_range]
    exact Nat.le_refl _
theorem rep_key {k : Key} : Rep K w (kV k) (keyV k) := by
  cases k with
  | inl i => exact .int i
  | inr z => exact .str z
theorem KVR.get {T : Type} : ∀ {l : List (T × V)} {m : List (T × D)} {i : Nat} {p : T × D}, KVR K w l m → m[i]? = some p → ∃ v, l[i]? = some (p.1, v) ∧ Rep K w v p.2
  | _, _, _, _, .nil, h => by simp at h
  | _, _, 0, _, .cons h _, e => by
    simp at e
    subst e
    exact ⟨_, rfl, h⟩
  | _, _, i + 1, _, .cons _ r, e => by
    simp at e
    obtain ⟨v, h1, h2⟩ := r.get e
    exact ⟨v, by simpa using h1, h2⟩
theorem itR_keys {p : Addr} {o : Obj} {l : List (Key × V)} {m : List (Key × D)} (z : w.Z p) (h : w.H p = some (.frz o (.dK l))) (r : KVR K w l m) : ItR K w (Itk p o l) ⟨m.map fun q => keyV q.1, none⟩ where
  go := fun i d w' s hd e st _ => by
    have hd' : (m.map fun q => keyV q.1)[i]? = some d := hd
    rw [List.getElem?_map] at hd'
    cases q : m[i]? with
    | none => rw [q] at hd'; cases hd'
    | some kd =>
      rw [q] at hd'
      cases hd'
      obtain ⟨v, hv, _⟩ := r.get q
      have hl : i < l.length := (List.getElem?_eq_some_iff.mp hv).1
      refine ⟨⟨(e.H p z).trans h, hl⟩, fun x H' y => ?_⟩
      obtain ⟨rfl, k2, v2, q2, rfl⟩ := y
      rw [hv] at q2
      cases q2
      exact ⟨w', Ext.refl w', rfl, st, rep_key⟩
  stop := fun w' s e st _ => ⟨(e.H p z).trans h, by
    show l.length ≤ (m.map _).length
    rw [List.length_map, r.length]
    exact Nat.le_refl _⟩
theorem itR_vals {p : Addr} {o : Obj} {l : List (Key × V)} {m : List (Key × D)} (z : w.Z p) (h : w.H p = some (.frz o (.dK l))) (r : KVR K w l m) : ItR K w (Itd p o l) ⟨m.map fun q => q.2, none⟩ where
  go := fun i d w' s hd e st _ => by
    have hd' : (m.map fun q => q.2)[i]? = some d := hd
    rw [List.getElem?_map] at hd'
    cases q : m[i]? with
    | none => rw [q] at hd'; cases hd'
    | some kd =>
      rw [q] at hd'
      cases hd'
      obtain ⟨v, hv, rv⟩ := r.get q
      have hl : i < l.length := (List.getElem?_eq_some_iff.mp hv).1
      refine ⟨⟨(e.H p z).trans h, hl⟩, fun x H' y => ?_⟩
      obtain ⟨rfl, k2, q2⟩ := y
      rw [hv] at q2
      cases q2
      exact ⟨w', Ext.refl w', rfl, st, rv.ext e⟩
  stop := fun w' s e st _ => ⟨(e.H p z).trans h, by
    show l.length ≤ (m.map _).length
    rw [List.length_map, r.length]
    exact Nat.le_refl _⟩
theorem itR_items {p : Addr} {o : Obj} {l : List (Key × V)} {m : List (Key × D)} (z : w.Z p) (h : w.H p = some (.frz o (.dK l))) (r : KVR K w l m) : ItR K w (Iti p o l) ⟨m.map fun q => .tup [keyV q.1, q.2], none⟩ where
  go := fun i d w' s hd e st _ => by
    have hd' : (m.map fun q => D.tup [keyV q.1, q.2])[i]? = some d := hd
    rw [List.getElem?_map] at hd'
    cases q : m[i]? with
    | none => rw [q] at hd'; cases hd'
    | some kd =>
      rw [q] at hd'
      cases hd'
      obtain ⟨v, hv, rv⟩ := r.get q
      have hl : i < l.length := (List.getElem?_eq_some_iff.mp hv).1
      refine ⟨⟨(e.H p z).trans h, hl⟩, fun x H' y => ?_⟩
      obtain ⟨T, k2, v2, q2, rfl, nT, rfl⟩ := y
      rw [hv] at q2
      cases q2
      exact ⟨w'.frz T (.tup [kV kd.1, v]), Wd.frz_ext st nT, rfl, Wd.frz_st st nT, rep_newT st (.cons rep_key (.cons (rv.ext e) .nil)) nT⟩
  stop := fun w' s e st _ => ⟨(e.H p z).trans h, by
    show l.length ≤ (m.map _).length
    rw [List.length_map, r.length]
    exact Nat.le_refl _⟩
theorem zip_get {T U : Type} : ∀ {l : List T} {m : List U} {i : Nat} {p : T × U}, (l.zip m)[i]? = some p → l[i]? = some p.1 ∧ m[i]? = some p.2
  | [], _, _, _, h => by simp at h
  | _ :: _, [], _, _, h => by simp at h
  | a :: l, b :: m, 0, p, h => by
    simp at h
    subst h
    exact ⟨rfl, rfl⟩
  | a :: l, b :: m, i + 1, p, h => by
    simp only [List.zip_cons_cons, List.getElem?_cons_succ] at h ⊢
    exact zip_get h
theorem itR_zipL {p q : Addr} {vs us : List V} {ds es : List D} (h1 : LAt K w p vs) (h2 : LAt K w q us) (r1 : Reps K w vs ds) (r2 : Reps K w us es) : ItR K w (Itz K p q) ⟨(ds.zip es).map fun z => .tup [z.1, z.2], none⟩ where
  go := fun i d w' s hd e st _ => by
    have hd' : ((ds.zip es).map fun z => D.tup [z.1, z.2])[i]? = some d := hd
    rw [List.getElem?_map] at hd'
    cases qq : (ds.zip es)[i]? with
    | none => rw [qq] at hd'; cases hd'
    | some z =>
      rw [qq] at hd'
      cases hd'
      obtain ⟨z1, z2⟩ := zip_get qq
      obtain ⟨x1, hx1, rx1⟩ := r1.get z1
      obtain ⟨x2, hx2, rx2⟩ := r2.get z2
      refine ⟨⟨vs, us, x1, x2, (h1.ext e).sq, (h2.ext e).sq, hx1, hx2⟩, fun x H' y => ?_⟩
      obtain ⟨T, y1, y2, rfl, nT, rfl, g1, g2⟩ := y
      have e1 := (g1 vs (h1.ext e).sq).symm.trans hx1
      have e2 := (g2 us (h2.ext e).sq).symm.trans hx2
      cases e1
      cases e2
      exact ⟨w'.frz T (.tup [x1, x2]), Wd.frz_ext st nT, rfl, Wd.frz_st st nT, rep_newT st (.cons (rx1.ext e) (.cons (rx2.ext e) .nil)) nT⟩
  stop := fun w' s e st _ => ⟨vs, us, (h1.ext e).sq, (h2.ext e).sq, by
    show vs.length ≤ ((ds.zip es).map _).length ∨ us.length ≤ ((ds.zip es).map _).length
    rw [List.length_map, List.length_zip, r1.length, r2.length]
    omega⟩
theorem itR_zipT {p q : Addr} {vs us : List V} {ds es : List D} (h1 : TAt K w p vs) (h2 : TAt K w q us) (r1 : Reps K w vs ds) (r2 : Reps K w us es) : ItR K w (RZ.ItzT K p q) ⟨(ds.zip es).map fun z => .tup [z.1, z.2], none⟩ where
  go := fun i d w' s hd e st _ => by
    have hd' : ((ds.zip es).map fun z => D.tup [z.1, z.2])[i]? = some d := hd
    rw [List.getElem?_map] at hd'
    cases qq : (ds.zip es)[i]? with
    | none => rw [qq] at hd'; cases hd'
    | some z =>
      rw [qq] at hd'
      cases hd'
      obtain ⟨z1, z2⟩ := zip_get qq
      obtain ⟨x1, hx1, rx1⟩ := r1.get z1
      obtain ⟨x2, hx2, rx2⟩ := r2.get z2
      refine ⟨⟨vs, us, x1, x2, (h1.ext e).sq, (h2.ext e).sq, hx1, hx2⟩, fun x H' y => ?_⟩
      obtain ⟨T, y1, y2, rfl, nT, rfl, g1, g2⟩ := y
      have e1 := (g1 vs (h1.ext e).sq).symm.trans hx1
      have e2 := (g2 us (h2.ext e).sq).symm.trans hx2
      cases e1
      cases e2
      exact ⟨w'.frz T (.tup [x1, x2]), Wd.frz_ext st nT, rfl, Wd.frz_st st nT, rep_newT st (.cons (rx1.ext e) (.cons (rx2.ext e) .nil)) nT⟩
  stop := fun w' s e st _ => ⟨vs, us, (h1.ext e).sq, (h2.ext e).sq, by
    show vs.length ≤ ((ds.zip es).map _).length ∨ us.length ≤ ((ds.zip es).map _).length
    rw [List.length_map, List.length_zip, r1.length, r2.length]
    omega⟩
theorem enumF_get : ∀ {l : List D} {k i : Nat} {d : D}, (enumF k l)[i]? = some d → ∃ x, l[i]? = some x ∧ d = .tup [.int ((k + i : Nat) : Int), x]
  | [], _, _, _, h => by simp [enumF] at h
  | a :: l, k, 0, d, h => by
    simp [enumF] at h
    exact ⟨a, rfl, by rw [← h]; simp⟩
  | a :: l, k, i + 1, d, h => by
    simp only [enumF, List.getElem?_cons_succ] at h ⊢
    obtain ⟨x, h1, h2⟩ := enumF_get h
    exact ⟨x, h1, by rw [h2]; congr 4; omega⟩
theorem enumF_length : ∀ {l : List D} {k : Nat}, (enumF k l).length = l.length
  | [], _ => rfl
  | _ :: l, k => by simp [enumF, enumF_length (l := l)]
theorem itR_enum {p : Addr} {vs : List V} {ds : List D} (h : LAt K w p vs) (rs : Reps K w vs ds) : ItR K w (Ite K p) ⟨enumF 0 ds, none⟩ where
  go := fun i d w' s hd e st _ => by
    obtain ⟨x, hx, rfl⟩ := enumF_get hd
    obtain ⟨v, hv, rv⟩ := rs.get hx
    refine ⟨⟨vs, v, (h.ext e).sq, hv⟩, fun y H' yl => ?_⟩
    obtain ⟨T, x2, rfl, nT, rfl, g⟩ := yl
    have e2 := (g vs (h.ext e).sq).symm.trans hv
    cases e2
    refine ⟨w'.frz T (.tup [.int (i : Nat), v]), Wd.frz_ext st nT, rfl, Wd.frz_st st nT, ?_⟩
    rw [Nat.zero_add]
    exact rep_newT st (.cons (.int _) (.cons (rv.ext e) .nil)) nT
  stop := fun w' s e st _ => ⟨vs, (h.ext e).sq, by
    show vs.length ≤ (enumF 0 ds).length
    rw [enumF_length, rs.length]
    exact Nat.le_refl _⟩
end
section
variable {X : Cx} {W : WX} {tg a b c : Expr} {es : List Expr} {pos p : Pos} {ma mb mc : DE} {mr : DM (List D)}
/-- a name, a call, an attribute .. that is walked -/
theorem pe_frz {e : Expr} {t : TE} (he : PE X e t) : PE X e (fun σ H Q => t σ H fun v H1 => Q v H1 ∨ ∃ d u, v = .ref d ∧ H1 d = some u ∧ Mut (some u) ∧ ∀ od, Q v (upd H1 d (.frz od u))) :=
  ⟨fun pins s σ H Q I h => thn (he.run pins s σ H _ I h) fun v s1 ⟨x, H1, I1, r1, q⟩ => q.elim (fun q => ⟨x, H1, I1, r1, q⟩) fun ⟨d, u, _, hd, mu, q⟩ => let ⟨od, I2⟩ := I1.lock hd mu; ⟨x, _, I2, r1, q od⟩⟩
/-- a dict that is locked -/
theorem lock_ok {w : Wd} {s s' : Sto} {x : V} {d : D} {m : List (Key × D)} (st : StR X.K w s) (r : Rep X.K w x d) (h : lockD s d = some (m, s')) :
    ∃ a l, x = .ref a ∧ ((∃ o, w.Z a ∧ w.H a = some (.frz o (.dK l)) ∧ KVR X.K w l m ∧ s' = s) ∨ (w.H a = some (.dK l) ∧ ∀ o, Ext w (w.lock a (.frz o (.dK l))) ∧ StR X.K (w.lock a (.frz o (.dK l))) s' ∧ KVR X.K (w.lock a (.frz o (.dK l))) l m)) := by
  cases d with
  | dct m1 =>
    cases h
    obtain ⟨a, o, l, rfl, z, h1, h2⟩ := r.dct_inv
    exact ⟨a, l, rfl, .inl ⟨o, z, h1, h2, rfl⟩⟩
  | cel n =>
    unfold lockD at h
    dsimp only at h
    cases r with
    | cel ha =>
      cases e : s[n]? with
      | none => rw [e] at h; cases h
      | some oc =>
        rw [e] at h
        cases oc with
        | none => cases h
        | some c =>
          cases c with
          | dct l1 =>
            cases h
            obtain ⟨a1, h1, hz, l, hh, rs⟩ := st.at_ n _ e
            have ea := Option.some.inj (h1.symm.trans ha)
            subst ea
            refine ⟨_, l, rfl, .inr ⟨hh, fun o => ?_⟩⟩
            have ex : Ext w (w.lock a1 (.frz o (.dK l))) := Wd.lock_ext hz (st.np n _ a1 e h1)
            exact ⟨ex, Wd.lock_st st e h1 hz ⟨o, l, .inr rfl, upd_same, rs.ext ex⟩, rs.ext ex⟩
          | rod l1 =>
            cases h
            obtain ⟨a1, h1, _, o, l, z, hh, rs⟩ := st.at_ n _ e
            have ea := Option.some.inj (h1.symm.trans ha)
            subst ea
            exact ⟨_, l, rfl, .inl ⟨o, z, hh, rs, rfl⟩⟩
          | _ => cases h
  | _ => cases h
theorem i_seq (ha : PE X a (tE X.K W ma)) : PI X tg a (tI X.K W (seqI ma)) := by
  refine ⟨fun pins s t H R I h => ?_⟩
  obtain ⟨r, so, w, rfl, env, st, hp⟩ := h
  refine thn (ha.run pins s t w.H (fun x H1 => ∃ d s1 w1, w1.H = H1 ∧ Ext w w1 ∧ StR X.K w1 s1 ∧ Rep X.K w1 x d ∧ Post X.K (ItR X.K) w1 (fun c d H' => W c d t H') R (srcM s1 d)) I (hp.bind env st fun x d s1 w1 e1 st1 r1 hp1 => ⟨d, s1, w1, rfl, e1, st1, r1, hp1⟩)) fun v s1 h => ?_
  obtain ⟨x, H1, I1, rx, d, so1, w1, rfl, e1, st1, r1, hp1⟩ := h
  unfold srcM at hp1
  cases el : lockD so1 d with
  | some ms =>
    obtain ⟨m, so2⟩ := ms
    rw [el] at hp1
    obtain ⟨a, l, rfl, q⟩ := lock_ok st1 r1 el
    cases rx
    rcases q with ⟨o, z, hh, kv, rfl⟩ | ⟨hh, q⟩
    · exact it_keys I1 hh (hp1.pure st1 (itR_keys z hh kv))
    · obtain ⟨od, I2⟩ := I1.lock hh trivial
      obtain ⟨ex, st2, kv⟩ := q od
      exact it_keys I2 upd_same (hp1 _ (w1.lock a (.frz od (.dK l))) ex st2 (itR_keys (.inr rfl) upd_same kv))
  | none =>
  rw [el] at hp1
  dsimp only at hp1
  cases r1 with
  | tup hh rs =>
    cases rx
    exact it_tup I1 hh.sq (hp1.pure st1 (itR_tup hh rs))
  | lst z hh rs =>
    cases rx
    exact it_list I1 (SqL.of hh) (hp1.pure st1 (itR_list (.inl ⟨z, .inl hh⟩) rs))
  | rol hh rs =>
    cases rx
    exact it_list I1 hh.sq (hp1.pure st1 (itR_list hh rs))
  | str z =>
    obtain ⟨k, rfl⟩ := rx
    exact it_str I1 (hp1.pure st1 itR_str)
  | dct z hh hl rs => cases el
  | @cel n a0 hA =>
    cases rx
    unfold srcD at hp1
    dsimp only at hp1
    cases e : so1[n]? with
    | none => rw [e] at hp1; exact hp1.elim
    | some o =>
      cases o with
      | none => rw [e] at hp1; exact hp1.elim
      | some ct =>
        cases ct with
        | lst l =>
          rw [e] at hp1
          obtain ⟨a1, h1, _, vs, hh, rs⟩ := st1.at_ n _ e
          have ea : a1 = a0 := Option.some.inj (h1.symm.trans hA)
          subst ea
          exact it_list I1 (SqL.of hh) (hp1.pure st1 (itR_cell hA))
        | _ => rw [e] at hp1; exact hp1.elim
  | _ => exact hp1.elim
theorem i_range1 (hg : Gl X "range") (hm : X.mg "range" = none) (ha : PA X [a] (tA X.K W mr)) (hs : starEach [a] X.env = [(false, eval a X.env)] := by rfl) : PI X tg (.Call (.Name "range" p) [a] [] pos) (tI X.K W (argI rangeD1 mr)) :=
  PI.imp (pi_range1 hg hm ha hs) fun t H Q h => by
    obtain ⟨r, s, w, rfl, env, st, hp⟩ := h
    exact hp.bind env st fun vs ds s1 w1 e1 st1 r1 hp1 => by
      unfold rangeD1 at hp1
      split at hp1
      · rename_i j
        cases r1 with
        | cons q1 r2 =>
          cases q1
          cases r2
          split at hp1
          · rename_i hb
            exact ⟨j, rfl, hb.1, hb.2, hp1.pure st1 itR_range⟩
          · exact hp1.elim
      · exact hp1.elim
theorem i_range2 (hg : Gl X "range") (hm : X.mg "range" = none) (ha : PA X [a, b] (tA X.K W mr)) (hs : starEach [a, b] X.env = [(false, eval a X.env), (false, eval b X.env)] := by rfl) (hs2 : starEach [b] X.env = [(false, eval b X.env)] := by rfl) :
    PI X tg (.Call (.Name "range" p) [a, b] [] pos) (tI X.K W (argI rangeD2 mr)) :=
  PI.imp (pi_range2 hg hm ha hs hs2) fun t H Q h => by
    obtain ⟨r, s, w, rfl, env, st, hp⟩ := h
    exact hp.bind env st fun vs ds s1 w1 e1 st1 r1 hp1 => by
      unfold rangeD2 at hp1
      split at hp1
      · rename_i i j
        cases r1 with
        | cons q1 r2 =>
          cases q1
          cases r2 with
          | cons q2 r3 =>
            cases q2
            cases r3
            split at hp1
            · rename_i hb
              exact ⟨i, j, rfl, hb, hp1.pure st1 itR_range⟩
            · exact hp1.elim
      · exact hp1.elim
theorem i_range3 (hg : Gl X "range") (hm : X.mg "range" = none) (ha : PA X [a, b, c] (tA X.K W mr)) (hs : starEach [a, b, c] X.env = (false, eval a X.env) :: starEach [b, c] X.env := by rfl) (hpl : (backTo pos (starEach [b, c] X.env)).any (·.1) = false := by rfl) :
    PI X tg (.Call (.Name "range" p) [a, b, c] [] pos) (tI X.K W (argI rangeD3 mr)) :=
  PI.imp (pi_range3 hg hm ha hs hpl) fun t H Q h => by
    obtain ⟨r, s, w, rfl, env, st, hp⟩ := h
    exact hp.bind env st fun vs ds s1 w1 e1 st1 r1 hp1 => by
      unfold rangeD3 at hp1
      split at hp1
      · rename_i i j k
        cases r1 with
        | cons q1 r2 =>
          cases q1
          cases r2 with
          | cons q2 r3 =>
            cases q2
            cases r3 with
            | cons q3 r4 =>
              cases q3
              cases r4
              split at hp1
              · rename_i hb
                obtain ⟨rfl, hb⟩ := hb
                exact ⟨i, j, -1, _, rfl, RgC.neg hb.1 hb.2.1 hb.2.2.1 hb.2.2.2, hp1.pure st1 itR_rangeC⟩
              · exact hp1.elim
      · exact hp1.elim
theorem frzL_ok {K : Frag} {w : Wd} {x : V} {d : D} {k : Bool} {l : List D} (r : Rep K w x d) (h : frzL d = some (k, l)) : ∃ q vs, x = .ref q ∧ Reps K w vs l ∧ (if k = true then LAt K w q vs else TAt K w q vs) := by
  cases r with
  | tup hh rs =>
    cases h
    exact ⟨_, _, rfl, rs, hh⟩
  | lst z hh rs =>
    cases h
    exact ⟨_, _, rfl, rs, .inl ⟨z, .inl hh⟩⟩
  | rol hh rs =>
    cases h
    exact ⟨_, _, rfl, rs, hh⟩
  | _ => cases h
theorem i_zip {elts : List Expr} {kk : Nat} {tpos : Pos} (hg : Gl X "zip") (hm : X.mg "zip" = none) (ha : PA X [a, b] (tA X.K W mr)) (hs : starEach [a, b] X.env = (false, eval a X.env) :: starEach [b] X.env := by rfl) (hpl : (backTo pos (starEach [b] X.env)).any (·.1) = false := by rfl) :
    PI X (.Tuple elts kk tpos) (.Call (.Name "zip" p) [a, b] [] pos) (tI X.K W (argI zipD mr)) :=
  PI.imp (RZ.pi_zipA hg hm ha hs hpl) fun t H Q h => by
    obtain ⟨r, s, w, rfl, env, st, hp⟩ := h
    exact hp.bind env st fun vs ds s1 w1 e1 st1 r1 hp1 => by
      unfold zipD at hp1
      split at hp1
      · cases r1 with
        | cons q1 r2 =>
          cases r2 with
          | cons q2 r3 =>
            cases r3
            rename_i x y _ _
            cases h1 : frzL x with
            | none => rw [h1] at hp1; exact hp1.elim
            | some kl =>
              cases h2 : frzL y with
              | none => rw [h1, h2] at hp1; exact hp1.elim
              | some jm =>
                rw [h1, h2] at hp1
                obtain ⟨k, l⟩ := kl
                obtain ⟨j, m⟩ := jm
                obtain ⟨a1, v1, rfl, rs1, k1⟩ := frzL_ok q1 h1
                obtain ⟨a2, v2, rfl, rs2, k2⟩ := frzL_ok q2 h2
                dsimp only at hp1
                by_cases hk : k = j
                · rw [if_pos hk] at hp1
                  subst hk
                  cases k with
                  | true => exact ⟨a1, a2, v1, v2, rfl, .inl ⟨LAt.sq k1, LAt.sq k2, hp1.pure st1 (itR_zipL k1 k2 rs1 rs2)⟩⟩
                  | false => exact ⟨a1, a2, v1, v2, rfl, .inr ⟨TAt.sq k1, TAt.sq k2, hp1.pure st1 (itR_zipT k1 k2 rs1 rs2)⟩⟩
                · rw [if_neg hk] at hp1
                  exact hp1.elim
      · exact hp1.elim
theorem i_enum {elts : List Expr} {kk : Nat} {tpos : Pos} (hg : Gl X "enumerate") (hm : X.mg "enumerate" = none) (ha : PA X [a] (tA X.K W mr)) (hs : starEach [a] X.env = [(false, eval a X.env)] := by rfl) :
    PI X (.Tuple elts kk tpos) (.Call (.Name "enumerate" p) [a] [] pos) (tI X.K W (argI enumD mr)) :=
  PI.imp (pi_enum hg hm ha hs) fun t H Q h => by
    obtain ⟨r, s, w, rfl, env, st, hp⟩ := h
    exact hp.bind env st fun vs ds s1 w1 e1 st1 r1 hp1 => by
      unfold enumD at hp1
      split at hp1
      · cases r1 with
        | cons q1 r2 =>
          cases r2
          split at hp1
          · rename_i h1
            obtain ⟨a1, v1, rfl, rs1, k1⟩ := frzL_ok q1 h1
            have k2 : LAt X.K w1 a1 v1 := k1
            exact ⟨a1, v1, rfl, k2.sq, hp1.pure st1 (itR_enum k2 rs1)⟩
          · exact hp1.elim
      · exact hp1.elim
theorem i_items {elts : List Expr} {kk : Nat} {tpos apos : Pos} (ha : PE X a (tE X.K W ma)) (hbase : attributeBase a "items" X.env (eval a X.env) = eval a X.env := by rfl) (hline : (apos.endLine == pos.line) = true := by rfl) :
    PI X (.Tuple elts kk tpos) (.Call (.Attribute a "items" apos) [] [] pos) (tI X.K W (itemsI ma)) :=
  PI.imp (pi_items (pe_frz ha) hbase hline) fun t H Q h => by
    obtain ⟨r, s, w, rfl, env, st, hp⟩ := h
    exact hp.bind env st fun x d s1 w1 e1 st1 r1 hp1 => by
      cases el : lockD s1 d with
      | none => rw [el] at hp1; exact hp1.elim
      | some ms =>
        obtain ⟨m, so2⟩ := ms
        rw [el] at hp1
        obtain ⟨a, l, rfl, q⟩ := lock_ok st1 r1 el
        rcases q with ⟨o, z, hh, kv, rfl⟩ | ⟨hh, q⟩
        · exact .inl ⟨a, o, l, rfl, hh, hp1.pure st1 (itR_items z hh kv)⟩
        · refine .inr ⟨a, .dK l, rfl, hh, trivial, fun od => ⟨a, od, l, rfl, upd_same, ?_⟩⟩
          obtain ⟨ex, st2, kv⟩ := q od
          exact hp1 _ (w1.lock a (.frz od (.dK l))) ex st2 (itR_items (.inr rfl) upd_same kv)
theorem i_values {apos : Pos} (ha : PE X a (tE X.K W ma)) (hbase : attributeBase a "values" X.env (eval a X.env) = eval a X.env := by rfl) (hline : (apos.endLine == pos.line) = true := by rfl) :
    PI X tg (.Call (.Attribute a "values" apos) [] [] pos) (tI X.K W (valuesI ma)) :=
  PI.imp (pi_values (pe_frz ha) hbase hline) fun t H Q h => by
    obtain ⟨r, s, w, rfl, env, st, hp⟩ := h
    exact hp.bind env st fun x d s1 w1 e1 st1 r1 hp1 => by
      cases el : lockD s1 d with
      | none => rw [el] at hp1; exact hp1.elim
      | some ms =>
        obtain ⟨m, so2⟩ := ms
        rw [el] at hp1
        obtain ⟨a, l, rfl, q⟩ := lock_ok st1 r1 el
        rcases q with ⟨o, z, hh, kv, rfl⟩ | ⟨hh, q⟩
        · exact .inl ⟨a, o, l, rfl, hh, hp1.pure st1 (itR_vals z hh kv)⟩
        · refine .inr ⟨a, .dK l, rfl, hh, trivial, fun od => ⟨a, od, l, rfl, upd_same, ?_⟩⟩
          obtain ⟨ex, st2, kv⟩ := q od
          exact hp1 _ (w1.lock a (.frz od (.dK l))) ex st2 (itR_vals (.inr rfl) upd_same kv)
end
end Mp

set_option Elab.async false
set_option linter.all false
set_option maxRecDepth 100000
set_option maxHeartbeats 4000000
/-! Mp: comprehensions. -/
namespace Mp
open PySem PySem.Spec PyProof.Rows L2
def wipeE (r : En) : List Nat → En
  | [] => r
  | v :: vs => (wipeE r vs).set v none
open Classical in
noncomputable def lcF (c : Src) (g : DG) (tt : DM Bool) (te : DE) (r : En) : List D → List D → Sto → Res (List D)
  | [], acc, s => if SrcOk c s then .ok acc s else .bad
  | d :: l, acc, s => if SrcOk c s then (match g d r s with
    | none => .bad
    | some p => (match tt p.1 p.2 with
      | .ok k s1 => if k = true then (match te p.1 s1 with
        | .ok y s2 => if acc.length < sizeLine then lcF c g tt te r l (acc ++ [y]) s2 else .bad
        | _ => .bad) else lcF c g tt te r l acc s1
      | _ => .bad)) else .bad
noncomputable def lcM (k : Bool) (mi : DM Src) (g : DG) (tt : DM Bool) (te : DE) (vs : List Nat) : DE := bindM mi fun c => fun r s => match lcF c g tt te (wipeE r vs) c.its [] s with
  | .ok acc s' => newL k acc s'
  | _ => .bad
def yesM : DM Bool := pureM true
abbrev W0 : WX := fun _ _ _ _ => False
/-! ### targets that keep the rest -/
def tGw (K : Frag) (g : DG) (ns : List Nat) : TG := fun v t H Q => ∃ r s w d, w.H = H ∧ EnvR K w r t ∧ StR K w s ∧ Rep K w v d ∧ (match g d r s with
  | some p => ∀ t' w', Ext w w' → EnvR K w' p.1 t' → StR K w' p.2 → wipe t' ns = wipe t ns → Q t' w'.H
  | none => False)
def tGsw (K : Frag) (g : DGs) (ns : List Nat) : TGs := fun vs t H Q => ∃ r s w ds, w.H = H ∧ EnvR K w r t ∧ StR K w s ∧ Reps K w vs ds ∧ (match g ds r s with
  | some p => ∀ t' w', Ext w w' → EnvR K w' p.1 t' → StR K w' p.2 → wipe t' ns = wipe t ns → Q t' w'.H
  | none => False)
theorem set_comm' {T : Type} {l : List T} {i j : Nat} {x y : T} (h : i ≠ j) : (l.set i x).set j y = (l.set j y).set i x := List.set_comm x y h
theorem wipe_set {t : L2.St} {i : Nat} {x : Option V} : ∀ {ns : List Nat}, i ∈ ns → wipe (t.set i x) ns = wipe t ns
  | [], h => by simp at h
  | n :: ns, h => by
    unfold wipe
    by_cases hn : i ∈ ns
    · rw [wipe_set hn]
    · have e : i = n := by
        rcases List.mem_cons.mp h with h | h
        · exact h
        · exact absurd h hn
      subst e
      have key : ∀ {ms : List Nat}, i ∉ ms → wipe (t.set i x) ms = (wipe t ms).set i x := by
        intro ms
        induction ms with
        | nil => intro _; rfl
        | cons m ms ih =>
          intro hm
          have h1 : m ≠ i := fun z => hm (z ▸ List.mem_cons_self)
          have h2 : i ∉ ms := fun z => hm (List.mem_cons_of_mem _ z)
          unfold wipe
          rw [ih h2, set_comm' h1.symm]
      rw [key hn, List.set_set]
theorem wipe_env {K : Frag} {w : Wd} {r : En} {t : L2.St} (h : EnvR K w r t) : ∀ ns : List Nat, EnvR K w (wipeE r ns) (wipe t ns)
  | [] => h
  | n :: ns => (wipe_env h ns).unset n
section
variable {X : Cx} {a : Expr} {es : List Expr} {pos : Pos} {ns : List Nat}
theorem gw_name {i : Nat} {x : Str} (hN : X.N.Nodup) (hi : X.N[i]? = some x) (hx : Loc X.env.scope x) (hm : i ∈ ns) (hf : X.fn x = true ∨ X.env.scope.names.lookup x = some .local := by first | exact .inl rfl | exact .inr rfl | assumption) : PG X (.Name x pos) (tGw X.K (nameG i) ns) :=
  PG.imp (pg_name hN hi hx hf) fun v t H Q h => by
    obtain ⟨r, s, w, d, rfl, env, st, rv, hp⟩ := h
    exact hp _ w (Ext.refl w) (env.set rv i) st (wipe_set hm)
theorem gsw_nil : PGs X [] (tGsw X.K nilG ns) := PGs.imp pgs_nil fun v t H Q h => by
  obtain ⟨r, s, w, ds, rfl, env, st, rv, hp⟩ := h
  cases rv with
  | nil => exact ⟨rfl, hp _ w (Ext.refl w) env st rfl⟩
  | cons _ _ => exact hp.elim
theorem gsw_cons {g : DG} {g2 : DGs} (h1 : PG X a (tGw X.K g ns)) (h2 : PGs X es (tGsw X.K g2 ns)) (hs : (assignEach (a :: es) X.env).map (·.2) = assign a X.env :: (assignEach es X.env).map (·.2) := by rfl) : PGs X (a :: es) (tGsw X.K (consG g g2) ns) :=
  PGs.imp (pgs_cons h1 h2 hs) fun v t H Q h => by
    obtain ⟨r, s, w, ds, rfl, env, st, rv, hp⟩ := h
    cases rv with
    | nil => exact hp.elim
    | @cons v d vs ds r1 r2 =>
      refine ⟨v, vs, rfl, r, s, w, d, rfl, env, st, r1, ?_⟩
      unfold consG at hp
      dsimp only at hp
      cases e : g d r s with
      | none => rw [e] at hp; exact hp.elim
      | some p =>
        rw [e] at hp
        refine fun t' w' e' env' st' wi => ⟨p.1, p.2, w', ds, rfl, env', st', r2.ext e', ?_⟩
        have hp' : (match g2 ds p.1 p.2 with
          | some p => ∀ t' w', Ext w w' → EnvR X.K w' p.1 t' → StR X.K w' p.2 → wipe t' ns = wipe t ns → Q t' w'.H
          | none => False) := hp
        cases e2 : g2 ds p.1 p.2 with
        | none => rw [e2] at hp'; exact hp'.elim
        | some p2 =>
          rw [e2] at hp'
          exact fun t2 w2 x2 env2 st2 wi2 => hp' t2 w2 (e'.trans x2) env2 st2 (wi2.trans wi)
theorem gw_tup {k n : Nat} {g : DGs} (hc : X.calm = true) (h : PGs X es (tGsw X.K g ns)) (hn : (assignEach es X.env).length = n := by rfl) (hst : (assignEach es X.env).findIdx? (·.1) = none := by rfl) : PG X (.Tuple es k pos) (tGw X.K (tupG n g) ns) :=
  PG.imp (PG.or (pg_tup hc h hn hst) (pg_lst hc h hn hst)) fun v t H Q h => by
    obtain ⟨r, s, w, d, rfl, env, st, rv, hp⟩ := h
    unfold tupG at hp
    cases e : seqOf s d with
    | none => rw [e] at hp; exact hp.elim
    | some l =>
      rw [e] at hp
      dsimp only at hp
      obtain ⟨p, vs, rfl, hq, rs⟩ := seqOf_ok st rv e
      by_cases hl : l.length = n
      · rw [if_pos hl] at hp
        have hin : tGsw X.K g ns vs t w.H Q := ⟨r, s, w, l, rfl, env, st, rs, hp⟩
        rcases hq with hq | hq
        · exact .inr ⟨p, vs, rfl, hq, by rw [rs.length, hl], hin⟩
        · exact .inl ⟨p, vs, rfl, hq, by rw [rs.length, hl], hin⟩
      · rw [if_neg hl] at hp
        exact hp.elim
theorem ts_nil {W : WX} : PTs X [] (tT X.K W yesM) := ⟨fun pins s t H Q I h => by
  obtain ⟨r, so, w, rfl, env, st, hp⟩ := h
  exact pts_nil.run pins s t w.H Q I (hp.pure st rfl)⟩
theorem ts_one {W : WX} {mt : DM Bool} (h : PT X a (tT X.K W mt)) : PTs X [a] (tT X.K W mt) := pts_one h
end
/-! ### a pinned list -/
def Wd.pin (w : Wd) (p : Addr) (o : HO) : Wd := ⟨w.A, w.Z, fun a => w.P a ∨ a = p, upd w.H p o⟩
section
variable {K : Frag} {w w0 : Wd} {s : Sto} {p : Addr} {o : HO}
theorem Wd.pin_ext (st : StR K w s) (h : w.H p = none) : Ext w (w.pin p o) :=
  ⟨⟨fun _ _ h => h, fun _ h => h, fun a z => upd_ne fun e => st.fz a z (e ▸ h)⟩, fun _ h => .inl h, fun a z => upd_ne fun e => (st.pz a z).2 (e ▸ h)⟩
theorem Wd.pin_st (st : StR K w s) (h : w.H p = none) : StR K (w.pin p o) s := by
  have e := Wd.pin_ext (o := o) st h
  refine ⟨fun n ct q => ?_, fun n ct a q ha z => ?_, fun a z => ?_, st.inj, fun a z => ?_, st.new⟩
  · obtain ⟨a, h1, h2, h3⟩ := st.at_ n ct q
    obtain ⟨ob, ho, _⟩ := h3.some
    exact ⟨a, h1, h2, h3.same e (upd_ne (ne_of_none ho h))⟩
  · obtain ⟨b, h1, h2, h3⟩ := st.at_ n ct q
    obtain ⟨ob, ho, _⟩ := h3.some
    have eb : b = a := Option.some.inj (h1.symm.trans ha)
    subst eb
    exact z.elim (st.np n ct b q ha) (ne_of_none ho h)
  · rcases z with z | z
    · have ne : a ≠ p := fun q => (st.pz a z).2 (q ▸ h)
      exact ⟨(st.pz a z).1, by rw [show (w.pin p o).H a = w.H a from upd_ne ne]; exact (st.pz a z).2⟩
    · subst z
      exact ⟨fun q => st.fz a q h, by rw [show (w.pin a o).H a = some o from upd_same]; exact fun q => nomatch q⟩
  · have ne : a ≠ p := fun q => st.fz a z (q ▸ h)
    rw [show (w.pin p o).H a = w.H a from upd_ne ne]
    exact st.fz a z
theorem Wd.turn_ex0 (st : StR K w s) (hP : w.P p) : Ex0 w (w.put p o) := ⟨fun _ _ h => h, fun _ h => h, fun a z => upd_ne fun e => (st.pz p hP).1 (e ▸ z)⟩
theorem Wd.turn_ext (e : Ext w0 w) (h1 : ¬ w0.Z p) (h2 : ¬ w0.P p) : Ext w0 (w.put p o) :=
  ⟨⟨e.A, e.Z, fun a z => (show upd w.H p o a = w.H a from upd_ne fun q => h1 (q ▸ z)).trans (e.H a z)⟩, e.P, fun a z => (show upd w.H p o a = w.H a from upd_ne fun q => h2 (q ▸ z)).trans (e.HP a z)⟩
theorem Wd.turn_st (st : StR K w s) (hP : w.P p) : StR K (w.put p o) s := by
  have e := Wd.turn_ex0 (o := o) st hP
  refine ⟨fun n ct q => ?_, st.np, fun a z => ⟨(st.pz a z).1, ?_⟩, st.inj, fun a z => ?_, st.new⟩
  · obtain ⟨a, h1, h2, h3⟩ := st.at_ n ct q
    have ne : a ≠ p := fun q2 => st.np n ct a q h1 (q2 ▸ hP)
    exact ⟨a, h1, h2, h3.sam0 e (upd_ne ne)⟩
  · show upd w.H p o a ≠ none
    by_cases ha : a = p
    · rw [ha, upd_same]; exact fun q => nomatch q
    · rw [upd_ne ha]; exact (st.pz a z).2
  · show upd w.H p o a ≠ none
    by_cases ha : a = p
    · rw [ha, upd_same]; exact fun q => nomatch q
    · rw [upd_ne ha]; exact st.fz a z
/-- the pinned list is let go: frozen, or a cell -/
theorem Post.unpin {E : XK} {Q : VK} {k : Bool} {ds : List D} {vs : List V} (hp : Post K (Rep K) w0 E Q (Mp.newL k ds s)) (e : Ext w0 w) (st : StR K w s) (h1 : ¬ w0.P p) (hP : w.P p) (hh : w.H p = some (.lst vs)) (rs : Reps K w vs ds) : Q (.ref p) w.H := by
  have nz := (st.pz p hP).1
  cases k with
  | false =>
    have hp' : Post K (Rep K) w0 E Q (.ok (.lst ds) s) := hp
    let w2 : Wd := ⟨w.A, fun a => w.Z a ∨ a = p, fun a => w.P a ∧ a ≠ p, w.H⟩
    have e0 : Ex0 w w2 := ⟨fun _ _ h => h, fun _ h => .inl h, fun _ _ => rfl⟩
    have e2 : Ext w0 w2 := ⟨⟨e.A, fun a z => .inl (e.Z a z), e.H⟩, fun a z => ⟨e.P a z, fun q => h1 (q ▸ z)⟩, e.HP⟩
    refine hp' (.ref p) w2 e2 ⟨fun n ct q => ?_, fun n ct a q ha z => st.np n ct a q ha z.1, fun a z => ⟨fun q => q.elim (st.pz a z.1).1 z.2, (st.pz a z.1).2⟩, st.inj, fun a z => ?_, st.new⟩ (.lst (.inr rfl) hh (rs.ex0 e0))
    · obtain ⟨a, k1, k2, k3⟩ := st.at_ n ct q
      exact ⟨a, k1, k2.mono (w' := w2) fun (z : w.Z a ∨ a = p) => Or.elim z id fun z => absurd (z ▸ hP) (st.np n ct a q k1), k3.sam0 e0 rfl⟩
    · rcases z with z | z
      · exact st.fz a z
      · rw [z, show w2.H p = some (.lst vs) from hh]
        exact fun q => nomatch q
  | true =>
    have hp' : Post K (Rep K) w0 E Q (.ok (.cel s.length) (s ++ [some (.lst ds)])) := hp
    let w2 : Wd := ⟨fun m => if m = s.length then some p else w.A m, w.Z, fun a => w.P a ∧ a ≠ p, w.H⟩
    have hA : ∀ m a, w.A m = some a → w2.A m = some a := fun m a q => by
      have ne : ¬ m = s.length := fun z => by
        rw [st.new m (by omega)] at q
        exact nomatch q
      show (if m = s.length then some p else w.A m) = some a
      rw [if_neg ne]
      exact q
    have e0 : Ex0 w w2 := ⟨hA, fun _ h => h, fun _ _ => rfl⟩
    have e2 : Ext w0 w2 := ⟨⟨fun n a q => hA n a (e.A n a q), e.Z, e.H⟩, fun a z => ⟨e.P a z, fun q => h1 (q ▸ z)⟩, e.HP⟩
    have at' : ∀ m ct, (s ++ [some (Ct.lst ds)])[m]? = some (some ct) → (m < s.length ∧ s[m]? = some (some ct)) ∨ (m = s.length ∧ ct = .lst ds) := fun m ct q => by
      by_cases hm : m < s.length
      · rw [List.getElem?_append_left hm] at q
        exact .inl ⟨hm, q⟩
      · rw [List.getElem?_append_right (by omega)] at q
        by_cases h0 : m - s.length = 0
        · rw [h0] at q
          exact .inr ⟨by omega, by simpa using q.symm⟩
        · rw [List.getElem?_eq_none (by simp; omega)] at q
          cases q
    have AtN : w2.A s.length = some p := if_pos rfl
    have AtO : ∀ m, m < s.length → w2.A m = w.A m := fun m hm => if_neg (by omega)
    have npo : ∀ m ct a, s[m]? = some (some ct) → w.A m = some a → a ≠ p := fun m ct a q ha z => st.np m ct a q ha (z ▸ hP)
    refine hp' (.ref p) w2 e2 ⟨fun m ct q => ?_, fun m ct a q ha z => ?_, fun a z => st.pz a z.1, fun m k b x y qm qk hm hk => ?_, st.fz, fun m hm => ?_⟩ (.cel AtN)
    · rcases at' m ct q with ⟨hm, q⟩ | ⟨rfl, rfl⟩
      · obtain ⟨a, k1, k2, k3⟩ := st.at_ m ct q
        exact ⟨a, hA m a k1, k2, k3.sam0 e0 rfl⟩
      · exact ⟨p, AtN, nz, vs, hh, rs.ex0 e0⟩
    · rcases at' m ct q with ⟨hm, q⟩ | ⟨rfl, rfl⟩
      · rw [AtO m hm] at ha
        exact st.np m ct a q ha z.1
      · rw [AtN] at ha
        cases ha
        exact z.2 rfl
    · rcases at' m x qm with ⟨lm, qm'⟩ | ⟨rfl, rfl⟩
      · rcases at' k y qk with ⟨lk, qk'⟩ | ⟨rfl, rfl⟩
        · rw [AtO m lm] at hm
          rw [AtO k lk] at hk
          exact st.inj m k b x y qm' qk' hm hk
        · rw [AtO m lm] at hm
          rw [AtN] at hk
          cases hk
          exact absurd rfl (npo m x _ qm' hm)
      · rcases at' k y qk with ⟨lk, qk'⟩ | ⟨rfl, rfl⟩
        · rw [AtO k lk] at hk
          rw [AtN] at hm
          cases hm
          exact absurd rfl (npo k y _ qk' hk)
        · rfl
    · rw [List.length_append] at hm
      have hm' : s.length + 1 ≤ m := hm
      show (if m = s.length then some p else w.A m) = none
      rw [if_neg (by omega)]
      exact st.new m (by omega)
end
/-! ### the reading -/
theorem lc_imp {K : Frag} {W : WX} {k : Bool} {mi : DM Src} {g : DG} {tt : DM Bool} {te : DE} {ns : List Nat} {t : L2.St} {H : Hp} {Q : VK} (h : tE K W (lcM k mi g tt te ns) t H Q) : tLc (tI K W mi) (tGw K g ns) (tT K W0 tt) (tE K W0 te) ns t H Q := by
  obtain ⟨r, s, w, rfl, env, st, hp⟩ := h
  exact hp.bind env st fun J sc s1 w1 e1 st1 r1 hp1 => by
    obtain ⟨its, cl⟩ := sc
    intro Dn nD
    have hz : ¬ w1.Z Dn := fun z => st1.fz Dn z nD
    have hP : ¬ w1.P Dn := fun z => (st1.pz Dn z).2 nD
    have env1 := env.ext e1
    cases ef : lcF ⟨its, cl⟩ g tt te (wipeE r ns) its [] s1 with
    | exc C fs s' => simp only [ef] at hp1; exact hp1.elim
    | bad => simp only [ef] at hp1; exact hp1.elim
    | ok fin sf =>
      simp only [ef] at hp1
      refine ⟨fun i m H => i + m = its.length ∧ ∃ (w : Wd) (s : Sto) (acc : List D) (vs : List V), w.H = H ∧ Ext w1 w ∧ StR K w s ∧ w.P Dn ∧ w.H Dn = some (.lst vs) ∧ Reps K w vs acc ∧ lcF ⟨its, cl⟩ g tt te (wipeE r ns) (its.drop i) acc s = .ok fin sf,
        ⟨its.length, Nat.zero_add _, w1.pin Dn (.lst []), s1, [], [], rfl, Wd.pin_ext st1 nD, Wd.pin_st st1 nD, .inr rfl, upd_same, .nil, ef⟩, fun i m H h => ?_⟩
      obtain ⟨him, w2, s2, acc, vs, rfl, x2, st2, hP2, hh2, rs2, ef2⟩ := h
      cases m with
      | zero =>
        have hi : i = its.length := by omega
        subst hi
        rw [List.drop_length] at ef2
        unfold lcF at ef2
        by_cases ck : SrcOk ⟨its, cl⟩ s2
        · rw [if_pos ck] at ef2
          cases ef2
          exact .inl ⟨r1.stop w2 sf x2 st2 ck, Post.unpin hp1 x2 st2 hP hP2 hh2 rs2⟩
        · rw [if_neg ck] at ef2
          cases ef2
      | succ m =>
        have hlt : i < its.length := by omega
        have hd : its[i]? = some its[i] := List.getElem?_eq_getElem hlt
        rw [List.drop_eq_getElem_cons hlt] at ef2
        unfold lcF at ef2
        by_cases ck : SrcOk ⟨its, cl⟩ s2
        rotate_left
        · rw [if_neg ck] at ef2
          cases ef2
        rw [if_pos ck] at ef2
        obtain ⟨hgo, hy⟩ := r1.go i _ w2 s2 hd x2 st2 ck
        refine .inr ⟨hgo, fun H' => i + 1 + m = its.length ∧ ∃ (w : Wd) (s : Sto) (acc : List D) (vs : List V), w.H = H' ∧ Ext w1 w ∧ StR K w s ∧ w.P Dn ∧ w.H Dn = some (.lst vs) ∧ Reps K w vs acc ∧ lcF ⟨its, cl⟩ g tt te (wipeE r ns) (its.drop (i + 1)) acc s = .ok fin sf,
          fun H' q => ⟨m, Nat.lt_succ_self m, q⟩, fun x H' yl => ?_⟩
        obtain ⟨w3, x3, rfl, st3, rx⟩ := hy x H' yl
        refine ⟨wipeE r ns, s2, w3, its[i], rfl, (wipe_env env1 ns).ext (x2.trans x3), st3, rx, ?_⟩
        cases eg : g its[i] (wipeE r ns) s2 with
        | none => rw [eg] at ef2; cases ef2
        | some p =>
          rw [eg] at ef2
          dsimp only at ef2
          intro t4 w4 x4 env4 st4 wi4
          refine ⟨?_, ?_⟩
          · have ww : wipe (wipe t ns) ns = wipe t ns := by
              have key : ∀ ms : List Nat, (∀ j ∈ ms, j ∈ ns) → wipe (wipe t ms) ns = wipe t ns := by
                intro ms
                induction ms with
                | nil => intro _; rfl
                | cons j ms ih =>
                  intro hj
                  show wipe ((wipe t ms).set j none) ns = wipe t ns
                  rw [wipe_set (hj j List.mem_cons_self)]
                  exact ih fun q hq => hj q (List.mem_cons_of_mem _ hq)
              exact key ns fun j hj => hj
            rw [← ww]
            exact wi4
          · refine ⟨p.1, p.2, w4, rfl, env4, st4, ?_⟩
            cases et : tt p.1 p.2 with
            | exc C fs s' => rw [et] at ef2; cases ef2
            | bad => rw [et] at ef2; cases ef2
            | ok kk s5 =>
              rw [et] at ef2
              dsimp only at ef2
              intro b w5 x5 st5 eb
              subst eb
              have x25 := ((x2.trans x3).trans x4).trans x5
              have x5' := (x3.trans x4).trans x5
              cases b with
              | false => exact ⟨by omega, w5, s5, acc, vs, rfl, x25, st5, x5'.P Dn hP2, (x5'.HP Dn hP2).trans hh2, rs2.ext x5', ef2⟩
              | true =>
                refine ⟨p.1, s5, w5, rfl, env4.ext x5, st5, ?_⟩
                simp only [if_true] at ef2
                cases ee : te p.1 s5 with
                | exc C fs s' => rw [ee] at ef2; cases ef2
                | bad => rw [ee] at ef2; cases ef2
                | ok y s6 =>
                  rw [ee] at ef2
                  dsimp only at ef2
                  by_cases hl : acc.length < sizeLine
                  rotate_left
                  · rw [if_neg hl] at ef2
                    cases ef2
                  rw [if_pos hl] at ef2
                  intro v w6 x6 st6 rv
                  have x6' := x5'.trans x6
                  have P6 := x6'.P Dn hP2
                  have H6 : w6.H Dn = some (.lst vs) := (x6'.HP Dn hP2).trans hh2
                  have e0 := Wd.turn_ex0 (o := .lst (vs ++ [v])) st6 P6
                  refine ⟨vs, H6, by rw [rs2.length]; exact hl, by omega, w6.put Dn (.lst (vs ++ [v])), s6, acc ++ [y], vs ++ [v], rfl, Wd.turn_ext (x25.trans x6) hz hP, Wd.turn_st st6 P6, P6, upd_same, ?_, ef2⟩
                  exact ((rs2.ext x6').ex0 e0).append (.cons (rv.ex0 e0) .nil)
section
variable {X : Cx} {W : WX} {elt tg iter : Expr} {ifs : List Expr} {scope : Scope} {own : List (Str × Nat)} {pos : Pos} {mi : DM Src} {g : DG} {tt : DM Bool} {te : DE}
theorem e_lc (k : Bool) (hc : X.calm = true) (hN : X.N.Nodup) (hi : PI X tg iter (tI X.K W mi)) (ok : BlkOk X.N X.env.scope scope own)
    (hg : ∀ (s : Shared) (H : Hp) (C : Addr) (cl : List (Str × Addr)) (fp : List Addr), PG (X.blk s H scope (compEnvC scope cl C X.env) fp) tg (tGw X.K g (own.map (·.2))))
    (ht : ∀ (s : Shared) (H : Hp) (C : Addr) (cl : List (Str × Addr)) (fp : List Addr), PTs (X.blk s H scope (compEnvC scope cl C X.env) fp) ifs (tT X.K W0 tt))
    (he : ∀ (s : Shared) (H : Hp) (C : Addr) (cl : List (Str × Addr)) (fp : List Addr), PE (X.blk s H scope (compEnvC scope cl C X.env) fp) elt (tE X.K W0 te)) (hs : ∀ x, foldedSetIterable iter X.env x = pure x := by intro _; rfl) :
    PE X (.ListComp elt [⟨tg, iter, ifs, 0⟩] scope pos) (tE X.K W (lcM k mi g tt te (own.map (·.2)))) := PE.imp (pe_lc hc hN hi ok hg ht he hs) fun t H Q h => lc_imp h
theorem s_setLc {i : Nat} {y : Str} {py spos : Pos} (k : Bool) (hc : X.calm = true) (hN : X.N.Nodup) (hy : X.N[i]? = some y) (hyl : X.env.scope.names.lookup y = some .local)
    (hsw : swapsWith (.ListComp elt [⟨tg, iter, ifs, 0⟩] scope pos) (some (.Name y py)) spos.line X.env = pure true) (hi : PI X tg iter (tI X.K W mi)) (ok : BlkOk X.N X.env.scope scope own)
    (hg : ∀ (s : Shared) (H : Hp) (C : Addr) (cl : List (Str × Addr)) (fp : List Addr), PG (X.blk s H scope (compEnvC scope cl C X.env) fp) tg (tGw X.K g (own.map (·.2))))
    (ht : ∀ (s : Shared) (H : Hp) (C : Addr) (cl : List (Str × Addr)) (fp : List Addr), PTs (X.blk s H scope (compEnvC scope cl C X.env) fp) ifs (tT X.K W0 tt))
    (he : ∀ (s : Shared) (H : Hp) (C : Addr) (cl : List (Str × Addr)) (fp : List Addr), PE (X.blk s H scope (compEnvC scope cl C X.env) fp) elt (tE X.K W0 te)) (hs : ∀ x, foldedSetIterable iter X.env x = pure x := by intro _; rfl) :
    PS X (.Assign [.Name y py] (.ListComp elt [⟨tg, iter, ifs, 0⟩] scope pos) spos) (tS X.K W (setS i (lcM k mi g tt te (own.map (·.2))))) := PS.imp (ps_setLc hc hN hy hyl hsw hi ok hg ht he hs) fun E t H h => by
  obtain ⟨r, s, w, rfl, env, st, hp⟩ := h
  have h2 : tE X.K W (lcM k mi g tt te (own.map (·.2))) t w.H (fun x H1 => gName i x t H1 E.nx) := hp.bind env st fun x d s1 w1 e1 st1 r1 hp1 => hp1 _ w1 (Ext.refl w1) ((env.ext e1).set r1 i) st1
  exact lc_imp h2
end
end Mp

set_option Elab.async false
set_option linter.all false
set_option maxRecDepth 100000
set_option maxHeartbeats 4000000
/-! Mp: defs, calls, own classes. -/
namespace Mp
open PySem PySem.Spec PyProof.Rows L2
abbrev DF := List D → Sto → Res D
/-- a def's promise by its function on data -/
def spD (K : Frag) (m : DF) : Sp := fun vs H Q E => ∃ ds s w, w.H = H ∧ Reps K w vs ds ∧ StR K w s ∧ Post K (Rep K) w E Q (m ds s)
/-- the function of a body: its slots, its statement -/
def bodyX (n : Nat) (b : DS) : DF := fun ds s => match b (ds.map some ++ List.replicate (n - ds.length) none) s with
  | .nx _ s' => .ok .non s'
  | .rt d s' => .ok d s'
  | .exc C fs _ s' => .exc C fs s'
  | _ => .bad
/-- the parameters' values: k of them, the last ones with defaults -/
def argsD (k : Nat) (dd : List D) (ds : List D) : Option (List D) := if ds.length ≤ k ∧ k ≤ ds.length + dd.length then some (ds ++ dd.drop (ds.length + dd.length - k)) else none
def bodyM (k : Nat) (dd : List D) (n : Nat) (b : DS) : DF := fun ds s => match argsD k dd ds with
  | some es => bodyX n b es s
  | none => .bad
/-- a def with a star parameter behind k others -/
def bodyV (k : Nat) (n : Nat) (b : DS) : DF := fun ds s => if k ≤ ds.length ∧ ds.length ≤ 1000 then bodyX n b (ds.take k ++ [.tup (ds.drop k)]) s else .bad
def callM (m : DF) (a : DM (List D)) : DE := bindM a fun ds => fun _ s => m ds s
inductive Ak where
  | fld | prop (m : DF) | con (d : D)
def attrD (tb : List (Str × Ak)) (f : Str) (x : D) (s : Sto) : Res D := match insOf s x with
  | none => .bad
  | some (C, fs) => (match tb.lookup C with
    | some .fld => okO s (fs.lookup f)
    | some (.prop m) => m [x] s
    | some (.con d) => (match fs.lookup f with
      | none => .ok d s
      | some _ => .bad)
    | none => .bad)
def attrM (tb : List (Str × Ak)) (f : Str) (a : DE) : DE := bindM a fun x => fun _ s => attrD tb f x s
def methM (tb : List (Str × DF)) (m : Str) (o : DE) (a : DM (List D)) : DE := bindM o fun x => fun r s => match insOf s x with
  | none => .bad
  | some (C, fs) => (match fs.lookup m with
    | some _ => .bad
    | none => (match tb.lookup C with
      | none => .bad
      | some f => (bindM a fun ds => fun _ s => f (x :: ds) s) r s))
/-- a new instance: its __init__, then frozen or not -/
def freezeI (k : Bool) (n : Nat) (s : Sto) : Res D := if k = true then .ok (.cel n) s else (match s[n]? with
  | some (some (.ins C fs)) => .ok (.ins C fs) (s.set n none)
  | _ => .bad)
def makeM (k : Bool) (C : Str) (m : DF) (a : DM (List D)) : DE := bindM a fun ds => fun _ s => match m (.cel s.length :: ds) (s ++ [some (.ins C [])]) with
  | .ok .non s' => freezeI k s.length s'
  | .ok _ _ => .bad
  | .exc E fs s' => .exc E fs s'
  | .bad => .bad
def putD (f : Str) (d : D) : List (Str × D) → List (Str × D)
  | [] => [(f, d)]
  | (g, x) :: r => if g = f then (g, d) :: r else (g, x) :: putD f d r
/-- o.f = e -/
def fldS (tb : List Str) (f : Str) (o v : DE) : DS := thenS v fun y => thenS o fun x => fun r s => match x with
  | .cel n => (match s[n]? with
    | some (some (.ins C fs)) => if C ∈ tb ∧ fs.length < 1000 then .nx r (s.set n (some (.ins C (putD f y fs)))) else .bad
    | _ => .bad)
  | _ => .bad
/-! ### soundness -/
theorem KVR.lookup {K : Frag} {w : Wd} {f : Str} : ∀ {l : List (Str × V)} {m : List (Str × D)}, KVR K w l m → (match m.lookup f with | some d => ∃ v, l.lookup f = some v ∧ Rep K w v d | none => l.lookup f = none)
  | _, _, .nil => rfl
  | _, _, .cons (k := j) h r => by
    have ih := KVR.lookup (f := f) r
    by_cases e : f = j
    · subst e
      simp only [List.lookup_cons_self]
      exact ⟨_, rfl, h⟩
    · have hb : (f == j) = false := by simpa using e
      simp only [List.lookup_cons, hb]
      exact ih
theorem KVR.put {K : Frag} {w : Wd} {f : Str} {y : V} {d : D} (q : Rep K w y d) : ∀ {l : List (Str × V)} {m : List (Str × D)}, KVR K w l m → KVR K w (putF f y l) (putD f d m)
  | _, _, .nil => .cons q .nil
  | _, _, .cons (k := j) h r => by
    unfold putF putD
    by_cases e : j = f
    · rw [if_pos e, if_pos e]
      exact .cons q r
    · rw [if_neg e, if_neg e]
      exact .cons h (r.put q)
section
variable {P : Program} {w : World} {K : Frag} {mg : Str → Option Value} {base : Heap}
/-- room, and no repr under way -/
structure Rm (k : Nat) (A : Around) : Prop where
  rm : Room k A
  gd : A.guards = some []
theorem Rm.mono {j k : Nat} {A : Around} (r : Rm k A) (h : j ≤ k) : Rm j A := ⟨r.rm.mono h, r.gd⟩
theorem Rm.in1 {k : Nat} {A : Around} (r : Rm (k + 1) A) : Rm k A.in1 := ⟨r.rm.in1, r.gd⟩
theorem Rm.deeper {k : Nat} {A : Around} (r : Rm (k + 1) A) (env : Env) : Rm k (A.deeper env) := ⟨r.rm.deeper env, r.gd⟩
theorem Rm.make {k : Nat} {A : Around} (r : Rm (k + 1) A) (C : Addr) (us : List Value) (kw : List (Str × Value)) : Rm k (A.under (.builtin "type.__call__" ⟨.ref C :: us, kw⟩)) :=
  ⟨r.rm.make C us kw, by
    have e : Code.guards (.builtin "type.__call__" ⟨.ref C :: us, kw⟩) = [] := by
      unfold Code.guards
      exact if_neg (by show ¬ (guardIds.contains "type.__call__" = true); decide +kernel)
    show pushGuards (Code.guards (.builtin "type.__call__" ⟨.ref C :: us, kw⟩)) A.guards = _
    rw [e, r.gd]
    rfl⟩
/-- a promise by positional values, however they are bound, where no repr is under way -/
def FnG (P : Program) (w : World) (K : Frag) (mg : Str → Option Value) (base : Heap) (CX : CXT) (k : Nat) (f : Addr) (sp : Sp) : Prop :=
  ∀ (A : Around) (outer : List Env) (s : Shared) (H : Hp) (us : List Value) (vs : List V) (Q : VK) (E : XK), Rm k A → Env0 P w K mg base A outer s H → Vals vs us → sp vs H Q E → codeAny (model P w) A (.call (.ref f) ⟨us, []⟩) (CR CX outer P w H s Q E) s
theorem FnG.mono {CX : CXT} {j k : Nat} {f : Addr} {sp : Sp} (F : FnG P w K mg base CX j f sp) (h : j ≤ k) : FnG P w K mg base CX k f sp := fun A outer s H us vs Q E hr => F A outer s H us vs Q E (hr.mono h)
abbrev FnD (P : Program) (w : World) (K : Frag) (mg : Str → Option Value) (base : Heap) (k : Nat) (f : Addr) (m : DF) : Prop := FnG P w K mg base (L2.CX P w) k f (spD K m)
theorem env_start {u : Wd} {n : Nat} : ∀ {vs : List V} {ds : List D}, Reps K u vs ds → EnvR K u (ds.map some ++ List.replicate (n - ds.length) none) (vs.map some ++ List.replicate (n - vs.length) none) := fun {vs ds} rs => by
  refine ⟨by simp [rs.length], fun i d h => ?_⟩
  by_cases hi : i < ds.length
  · rw [List.getElem?_append_left (by simpa using hi), List.getElem?_map] at h
    cases e : ds[i]? with
    | none => rw [e] at h; cases h
    | some d' =>
      rw [e] at h
      cases h
      obtain ⟨v, hv, rv⟩ := rs.get e
      refine ⟨v, ?_, rv⟩
      rw [List.getElem?_append_left (by simpa [rs.length] using hi), List.getElem?_map, hv]
      rfl
  · rw [List.getElem?_append_right (by simpa using Nat.le_of_not_lt hi)] at h
    rw [List.getElem?_replicate] at h
    split at h <;> cases h
theorem body_end {n : Nat} {b : DS} {vs : List V} {ds : List D} {so : Sto} {u : Wd} {Q : VK} {E : XK} (rs : Reps K u vs ds) (st : StR K u so) (hp : Post K (Rep K) u E Q (bodyX n b ds so)) :
    tS K (fun c d _ H' => E c d H') b { nx := fun _ H' => Q .non H', rt := Q } (vs.map some ++ List.replicate (n - vs.length) none) u.H := by
  refine ⟨_, so, u, rfl, env_start (n := n) rs, st, ?_⟩
  unfold bodyX at hp
  cases e : b (ds.map some ++ List.replicate (n - ds.length) none) so with
  | nx r' s' => rw [e] at hp; exact fun t' w' e' _ st' => hp .non w' e' st' .non
  | rt d s' => rw [e] at hp; exact hp
  | bk r' s' => rw [e] at hp; exact hp.elim
  | ct r' s' => rw [e] at hp; exact hp.elim
  | exc C fs r' s' => rw [e] at hp; exact fun t' ed w' e' _ st' x' => hp ed w' e' st' x'
  | bad => rw [e] at hp; exact hp.elim
/-- what a def's derivation is -/
abbrev BodyD (P : Program) (w : World) (K : Frag) (mg : Str → Option Value) (base : Heap) (N : List Str) (qual : Str) (scope : Scope) (f : Addr) (k : Nat) (body : List Stmt) (b : DS) : Prop :=
  ∀ (cdv : Value) (A : Around) (outer : List Env) (s : Shared) (H : Hp) (E : XK), Rm k (A.deeper (envOfC qual scope s.heap.objs.size f cdv)) → PSs (cxOf (L2.CX P w) P w K mg base N qual scope f cdv A outer s H E) body (tS K (fun c d _ H' => E c d H') b)
/-- a def keeps the promise of its function on data, by the derivation of its body -/
theorem fn_ok {x qual : Str} {params : Arguments} {body : List Stmt} {scope : Scope} {dvs : List V} {kws : List (Str × V)} {f : Addr} {fd : FuncData} {N ps : List Str} {k : Nat} {b : DS} {dd : List D} (F : FunD K x qual params body scope dvs kws f fd) (S : FnScope N ps scope)
    (hD : ∀ w, Reps K w dvs dd) (hB : ∀ j, j ≤ dvs.length → ∃ ds, Vals (dvs.drop j) ds ∧ Binds K fd ps ds) (hbody : BodyD P w K mg base N qual scope f k body b) : FnD P w K mg base (k + 1) f (bodyM ps.length dd N.length b) := by
  intro A outer s H us vs Q E hr e0 r h
  obtain ⟨ds, so, u, rfl, rs, st, hp⟩ := h
  unfold bodyM argsD at hp
  have l1 := rs.length
  have l2 := (hD u).length
  split at hp
  · rename_i es he
    split at he
    · rename_i hc
      cases he
      obtain ⟨dv, rv, hb⟩ := hB (ds.length + dd.length - ps.length) (by omega)
      have rs2 := rs.append ((hD u).drop (ds.length + dd.length - ps.length))
      obtain ⟨oc, od, dV, kV, doc, pm, an, cdv, ct, osl, rfl, lk, hcd, hD1, hK⟩ := F.ex
      have hl : (vs ++ dvs.drop (ds.length + dd.length - ps.length)).length = ps.length := by
        rw [rs2.length, List.length_append, List.length_drop]
        omega
      have rr := r.append rv
      refine StX.run_bnd lk hcd S hr.rm e0 (G := fun xs H2 => xs = vs ++ dvs.drop (ds.length + dd.length - ps.length) ∧ H2 = u.H) (fun A' Ex Q' h => ?_) fun s2 H2 xs hx hr' => ?_
      · exact hb s us (e0.mod.kin.keeps fun b o e => (e0.bs b o e).1) (by rw [← rr.length]; exact hl) _ _ _ _ (h s u.H _ _ e0 Un.refl rfl (fun _ _ z => z) rr hl ⟨rfl, rfl⟩)
      · obtain ⟨rfl, rfl⟩ := hx
        exact ⟨_, hbody cdv A outer s2 u.H E (hr.deeper _), body_end rs2 st hp⟩
    · cases he
  · exact hp.elim
/-- .. without defaults -/
theorem fn_ok0 {x qual : Str} {params : Arguments} {body : List Stmt} {scope : Scope} {kws : List (Str × V)} {f : Addr} {fd : FuncData} {N ps : List Str} {k : Nat} {b : DS} (F : FunD K x qual params body scope [] kws f fd) (S : FnScope N ps scope)
    (hB : ∀ (kV doc pm : Value) (an : Option Addr) (cdv ct : Value) (us : List Value), us.length = ps.length → bindArgs (PySem.W.fnOf x qual params body scope .none kV doc pm an cdv ct) ⟨us, []⟩ = pure (ps.zip us)) (hbody : BodyD P w K mg base N qual scope f k body b) :
    FnD P w K mg base (k + 1) f (bodyM ps.length [] N.length b) :=
  fn_ok F S (fun _ => .nil) (fun j hj => ⟨[], by rw [List.drop_nil]; exact .nil, F.bindsN hB⟩) hbody
/-- a def f(a, .., *v) -/
theorem fn_okV {x qual : Str} {params : Arguments} {body : List Stmt} {scope : Scope} {kws : List (Str × V)} {f : Addr} {fd : FuncData} {N ps : List Str} {pv : Str} {k : Nat} {b : DS} (F : FunD K x qual params body scope [] kws f fd) (S : FnScope N (ps ++ [pv]) scope)
    (hB : ∀ (kV doc pm : Value) (an : Option Addr) (cdv ct : Value) (us rest : List Value), us.length = ps.length → bindArgs (PySem.W.fnOf x qual params body scope .none kV doc pm an cdv ct) ⟨us ++ rest, []⟩ = (newTuple rest >>= fun t => pure (ps.zip us ++ [(pv, t)])))
    (hbody : BodyD P w K mg base N qual scope f k body b) : FnD P w K mg base (k + 1) f (bodyV ps.length N.length b) := by
  obtain ⟨oc, od, dV, kV, doc, pm, an, cdv, ct, osl, rfl, lk, hcd, hD, hK⟩ := F.ex
  rcases hD with ⟨_, rfl⟩ | ⟨e, _⟩
  · intro A outer s H us vs Q E hr e0 r h
    obtain ⟨ds, so, u, rfl, rs, st, hp⟩ := h
    unfold bodyV at hp
    split at hp
    · rename_i hc
      have l1 := rs.length
      obtain ⟨u1, u2, eu, r1, r2⟩ := StX.vals_split (ws := vs.take ps.length) (rest := vs.drop ps.length) (by rw [List.take_append_drop]; exact r)
      subst eu
      have hn : u.H s.heap.objs.size = none := e0.hok.fresh (Nat.le_refl _)
      have hl1 : u1.length = ps.length := by
        rw [← r1.length, List.length_take]
        omega
      have hz : (vs.drop ps.length).length ≤ sizeLine := by
        rw [List.length_drop]
        exact Nat.le_trans (Nat.sub_le _ _) (Nat.le_trans (by omega : vs.length ≤ 1000) (by rw [PySem.sizeLine_eq]; omega))
      have e1 := Wd.frz_ext st (o := .tup (vs.drop ps.length)) hn
      have st1 := Wd.frz_st st (o := .tup (vs.drop ps.length)) hn
      have rsT : Reps K (u.frz s.heap.objs.size (.tup (vs.drop ps.length))) (vs.take ps.length ++ [V.ref s.heap.objs.size]) (ds.take ps.length ++ [.tup (ds.drop ps.length)]) :=
        ((rs.take ps.length).ext e1).append (.cons (.tup (.inl ⟨Wd.frz_z, Rd.of Wd.frz_h⟩) ((rs.drop ps.length).ext e1)) .nil)
      have hnew : ObjOk P w (upd u.H s.heap.objs.size (.tup (vs.drop ps.length))) (s.heap.push ({ cls := .type "tuple", data := .seq u2.toArray } : Obj)) s.heap.objs.size (.tup (vs.drop ps.length)) :=
        ⟨hz, u2, r2, _, Heap.get?_push_size _ rfl, rfl, _, rfl⟩
      have hun := StX.un_laid (fs := frs outer) (s := s) (o := ({ cls := .type "tuple", data := .seq u2.toArray } : Obj)) (u := .tup (vs.drop ps.length)) hn
      refine StX.run_bnd lk hcd S hr.rm e0 (G := fun xs H2 => xs = vs.take ps.length ++ [V.ref s.heap.objs.size] ∧ H2 = (u.frz s.heap.objs.size (.tup (vs.drop ps.length))).H) (fun A' Ex Q' h => ?_) fun s2 H2 xs hx hr' => ?_
      · rw [hB kV doc pm an cdv ct u1 u2 hl1]
        refine wpAny_bind (wpAny_newTuple (wpAny_pure ?_) (by rw [← r2.length]; exact hz))
        have q := h _ _ (vs.take ps.length ++ [V.ref s.heap.objs.size]) (u1 ++ [Value.ref s.heap.objs.size]) (StX.env0_laid e0 hnew) hun rfl (fun er s3 => StX.cxUp outer s u.H _ _ E er s3 hun (fun _ _ z => Heap.get?_push_of_some _ z) rfl) (r1.append (.cons rfl .nil)) (by rw [List.length_append, List.length_append, r1.length, hl1] <;> rfl) ⟨rfl, rfl⟩
        rw [List.zip_append hl1.symm] at q
        exact q
      · obtain ⟨rfl, rfl⟩ := hx
        exact ⟨_, hbody cdv A outer s2 _ E (hr.deeper _), body_end rsT st1 (Post.ext e1 hp)⟩
    · exact hp.elim
  · exact absurd rfl e
end
section
variable {X : Cx} {W : WX} {a b c o : Expr} {es : List Expr} {pos p apos : Pos} {ma mb mo : DE} {mr : DM (List D)} {m x : Str} {k : Nat} {f : Addr} {mf : DF}
theorem run_fnRD {pins : List (Addr × Obj)} {t : L2.St} {H : Hp} {s : Shared} {Q : VK} {E : XK} {us : List Value} {vs : List V} {sp : Sp} {CX : CXT} (F : FnG X.prog X.w X.K X.mg X.base CX k f sp) (hr : Rm k X.A) (hx : PassesAt CX X t E) (I : Inv X pins t H s) (r : Vals vs us) (h : sp vs H Q E) :
    wpAny (model X.prog X.w) X.A (call (.ref f) us) (EP X pins t Q) X.xe s := by
  refine wpAny_call (codeAny_mono (F X.A X.stack s H us vs Q E hr I.env0 r h) fun z s' hz => ?_)
  cases z with
  | error er => exact hx pins H s er s' I hz
  | ok fl =>
    cases fl with
    | ret u => exact I.after hz
    | _ => exact hz.elim
theorem sp_post {w : Wd} {s : Sto} {vs : List V} {dv : List D} {Q : VK} {E : XK} {K : Frag} (rs : Reps K w vs dv) (st : StR K w s) (hp : Post K (Rep K) w E Q (mf dv s)) : spD K mf vs w.H Q E := ⟨dv, s, w, rfl, rs, st, hp⟩
theorem sp_bind {w : Wd} {s : Sto} {r : En} {t : L2.St} {Q : VK} {K : Frag} (hp : Post K (Rep K) w (fun c d H' => W c d t H') Q (callM mf mr r s)) : Post K (Reps K) w (fun c d H' => W c d t H') (fun vs H1 => spD K mf vs H1 Q (WE W t)) (mr r s) := by
  unfold callM bindM at hp
  cases e : mr r s with
  | ok dv s1 =>
    rw [e] at hp
    exact fun vs w1 e1 st1 r1 => sp_post r1 st1 (Post.ext e1 hp)
  | exc C fs s1 => rw [e] at hp; exact hp
  | bad => rw [e] at hp; exact hp
/-- f(e, ..) -/
theorem e_call (tk : Takes X W) (F : FnD X.prog X.w X.K X.mg X.base k f mf) (hr : Rm k X.A) (hg : Gl X x) (hm : X.mg x = some (.ref f)) (hk : PySem.W.keepIn X.K (.ref f) = true)
    (ha : PA X (a :: es) (tA X.K W mr)) (hdb : (x == ("__debug__" : Str)) = false := by decide) (he : starEach (a :: es) X.env = (false, eval a X.env) :: starEach es X.env := by rfl) (hpl : (backTo pos (starEach es X.env)).any (·.1) = false := by rfl) :
    PE X (.Call (.Name x p) (a :: es) [] pos) (tE X.K W (callM mf mr)) := by
  refine ⟨fun pins s t H Q I h => ?_⟩
  obtain ⟨r, so, w, rfl, env, st, hp⟩ := h
  refine wpAny_Call_Name_kw (ld_glob I hg hm ?_ hdb)
  refine PySem.W.callWith_K (h₀ := X.base) I.ok.mod.kin hk (thn (ha.run pos pins s t w.H _ I ⟨r, so, w, rfl, env, st, sp_bind hp⟩) fun us s1 ⟨vs, H1, I1, rv, q⟩ => ⟨I1.kIn, ?_⟩) he hpl
  exact run_fnRD F hr (passAt tk t) I1 rv q
theorem e_call0 (tk : Takes X W) (F : FnD X.prog X.w X.K X.mg X.base k f mf) (hr : Rm k X.A) (hg : Gl X x) (hm : X.mg x = some (.ref f)) (hk : PySem.W.keepIn X.K (.ref f) = true)
    (hdb : (x == ("__debug__" : Str)) = false := by decide) : PE X (.Call (.Name x p) [] [] pos) (tE X.K W (callM mf nilA)) := by
  refine ⟨fun pins s t H Q I h => ?_⟩
  obtain ⟨r, so, w, rfl, env, st, hp⟩ := h
  refine wpAny_Call_Name_kw (ld_glob I hg hm ?_ hdb)
  exact PySem.W.callWith_K0 I.kIn hk (run_fnRD (us := []) (vs := []) F hr (passAt tk t) I .nil (sp_post .nil st hp))
/-! attributes -/
structure PropD (X : Cx) (C : Str) (f : Str) (m : DF) : Prop where
  cls : Cls X.K (He.ga X.K C)
  ex : ∃ (q g : Addr) (k : Nat), PropOf X.K (He.ga X.K C) f q g ∧ FnD X.prog X.w X.K X.mg X.base k g m ∧ Rm (k + 1) X.A
theorem getprop_R {C q g a0 dx : Addr} {fs : List (Str × V)} {nm : Str} {sp : Sp} {CX : CXT} {E : XK} {pins : List (Addr × Obj)} {t : L2.St} {H : Hp} {s : Shared} {Q : VK} {bb : Bool} {E1 : Value → Shared → Prop} (I : Inv X pins t H s) (ea : H a0 = some (.ins C dx fs)) (c : Cls X.K C) (hp : PropOf X.K C nm q g)
    (F : FnG X.prog X.w X.K X.mg X.base CX k g sp) (hr : Rm (k + 1) X.A) (hx : Passes CX X.nox E) (h : sp [.ref a0] H Q E) : wpAny (model X.prog X.w) X.A (getAttr (.ref a0) nm bb) (EP X pins t Q) E1 s := by
  obtain ⟨mA, O, _, _, _, _⟩ := ins_get I.hok ea
  obtain ⟨od, J, _⟩ := O.look
  obtain ⟨rest, hrec⟩ := hp.rec_
  have I1 := I.tok (s.toks + 1)
  have hc : (PySem.W.clsIn X.K C).isSome = true := by
    obtain ⟨cd, hc, _⟩ := PySem.W.any_some c.hd
    rw [hc]
    rfl
  have P1 := PySem.W.plainGet_of (c.get nm)
  refine PySem.W.get_bind I.kIn J P1.1 (PySem.W.findObj_data hc hp.at_ hp.get hp.tak) P1.2 (wpAny_call (PySem.W.prop_get (s := { s with toks := s.toks + 1 }) I.kIn hrec ?_))
  refine codeAny_mono (F X.A.in1 X.stack { s with toks := s.toks + 1 } H [.ref a0] [.ref a0] Q E hr.in1 I1.env0.in1 (.cons rfl .nil) h) fun z s' hz => ?_
  cases z with
  | error er => exact (hx pins t H _ er s' (I1.wish _) hz).elim
  | ok fl =>
    cases fl with
    | ret u =>
      obtain ⟨v, H2, I3, rv, q3⟩ := I1.after hz
      refine wpAny_of_eq (PySem.W.handedOut_of (handed_of rv)) ?_
      exact ⟨v, H2, I3, rv, q3⟩
    | _ => exact hz.elim
inductive ATab (X : Cx) (f : Str) : List (Str × Ak) → Prop
  | nil : ATab X f []
  | fld {C : Str} {r : List (Str × Ak)} : Cls X.K (He.ga X.K C) → NoAttr X.K (He.ga X.K C) f → ATab X f r → ATab X f ((C, .fld) :: r)
  | prop {C : Str} {m : DF} {r : List (Str × Ak)} : PropD X C f m → (∀ d s C fs s', m [d] s ≠ .exc C fs s') → ATab X f r → ATab X f ((C, .prop m) :: r)
  | con {C : Str} {d : D} {v : V} {u : Value} {r : List (Str × Ak)} : Cls X.K (He.ga X.K C) → Con X.K (He.ga X.K C) f v u → (∀ w, Rep X.K w v d) → ATab X f r → ATab X f ((C, .con d) :: r)
def AkOk (X : Cx) (f C : Str) : Ak → Prop
  | .fld => Cls X.K (He.ga X.K C) ∧ NoAttr X.K (He.ga X.K C) f
  | .prop m => PropD X C f m ∧ ∀ d s C fs s', m [d] s ≠ .exc C fs s'
  | .con d => Cls X.K (He.ga X.K C) ∧ ∃ v u, Con X.K (He.ga X.K C) f v u ∧ ∀ w, Rep X.K w v d
theorem ATab.get {f C : Str} {kd : Ak} : ∀ {tb : List (Str × Ak)}, ATab X f tb → tb.lookup C = some kd → AkOk X f C kd
  | _, .nil, h => by simp at h
  | _, .fld (C := E) h1 h2 r, h => by
    by_cases e : C = E
    · subst e
      rw [List.lookup_cons_self] at h
      cases h
      exact ⟨h1, h2⟩
    · have hb : (C == E) = false := by simpa using e
      rw [List.lookup_cons, hb] at h
      exact r.get h
  | _, .prop (C := E) h1 h2 r, h => by
    by_cases e : C = E
    · subst e
      rw [List.lookup_cons_self] at h
      cases h
      exact ⟨h1, h2⟩
    · have hb : (C == E) = false := by simpa using e
      rw [List.lookup_cons, hb] at h
      exact r.get h
  | _, .con (C := E) h1 h2 h3 r, h => by
    by_cases e : C = E
    · subst e
      rw [List.lookup_cons_self] at h
      cases h
      exact ⟨h1, _, _, h2, h3⟩
    · have hb : (C == E) = false := by simpa using e
      rw [List.lookup_cons, hb] at h
      exact r.get h
theorem e_attr {g : Str} {tb : List (Str × Ak)} (T : ATab X g tb) (ha : PE X a (tE X.K W ma)) (hab : attributeBase a g X.env (eval a X.env) = eval a X.env := by rfl) : PE X (.Attribute a g pos) (tE X.K W (attrM tb g ma)) := by
  refine ⟨fun pins s t H Q I h => ?_⟩
  obtain ⟨r, so, w, rfl, env, st, hp⟩ := h
  refine attr_of hab (thn (ha.run pins s t w.H (fun x H1 => ∃ d s1 w1, w1.H = H1 ∧ StR X.K w1 s1 ∧ Rep X.K w1 x d ∧ Post X.K (Rep X.K) w1 (fun c d H' => W c d t H') Q (attrD tb g d s1)) I (hp.bind env st fun x d s1 w1 e1 st1 r1 hp1 => ⟨d, s1, w1, rfl, st1, r1, hp1⟩)) fun v s1 h => ?_)
  obtain ⟨y, H1, I1, rx, d, so1, w1, rfl, st1, r1, hp1⟩ := h
  unfold attrD at hp1
  cases e : insOf so1 d with
  | none => rw [e] at hp1; exact hp1.elim
  | some q =>
    obtain ⟨C, fs⟩ := q
    rw [e] at hp1
    dsimp only at hp1
    obtain ⟨q, dx, l, rfl, hh, kv⟩ := insOf_ok st1 r1 e
    obtain rfl : v = Value.ref q := rx
    cases e2 : tb.lookup C with
    | none => rw [e2] at hp1; exact hp1.elim
    | some kd =>
      rw [e2] at hp1
      have A := T.get e2
      have g1 := kv.lookup (f := g)
      cases kd with
      | fld =>
        dsimp only at hp1
        cases e3 : fs.lookup g with
        | none => rw [e3] at hp1; exact hp1.elim
        | some d3 =>
          rw [e3] at g1 hp1
          obtain ⟨v3, hv3, rv3⟩ := g1
          exact getattr_ok I1 hh A.1 A.2 hv3 fun u' s2 I2 ru => ⟨v3, w1.H, I2, ru, hp1.pure st1 rv3⟩
      | prop mm =>
        obtain ⟨⟨hc, q2, g2, kk, hpo, F, hr⟩, nox⟩ := A
        refine getprop_R (E := fun _ _ _ => False) I1 hh hc hpo F hr (fun pins σ H s e s' _ z => ?_) ?_
        · obtain ⟨_, _, _, _, _, _, _, _, _, _, _, _, z⟩ := z
          exact z
        · refine sp_post (.cons r1 .nil) st1 ?_
          dsimp only at hp1
          cases e4 : mm [d] so1 with
          | ok d4 s4 => rw [e4] at hp1; exact hp1
          | exc E4 f4 s4 => exact absurd e4 (nox _ _ _ _ _)
          | bad => rw [e4] at hp1; exact hp1
      | con dc =>
        obtain ⟨hc, v3, u3, hcon, rep3⟩ := A
        dsimp only at hp1
        cases e3 : fs.lookup g with
        | some d3 => rw [e3] at hp1; exact hp1.elim
        | none =>
          rw [e3] at g1 hp1
          exact getcon_ok I1 hh hc hcon g1 fun s2 I2 => ⟨v3, w1.H, I2, hcon.rel, hp1.pure st1 (rep3 w1)⟩
/-! methods -/
structure MethD (X : Cx) (C m : Str) (mf : DF) : Prop where
  cls : Cls X.K (He.ga X.K C)
  ex : ∃ (g : Addr) (k : Nat), Meth X.K (He.ga X.K C) m g ∧ FnD X.prog X.w X.K X.mg X.base k g mf ∧ Rm k X.A
inductive MTab (X : Cx) (m : Str) : List (Str × DF) → Prop
  | nil : MTab X m []
  | cons {C : Str} {f : DF} {r : List (Str × DF)} : MethD X C m f → MTab X m r → MTab X m ((C, f) :: r)
theorem MTab.get {C : Str} {f : DF} : ∀ {tb : List (Str × DF)}, MTab X m tb → tb.lookup C = some f → MethD X C m f
  | _, .nil, h => by simp at h
  | _, .cons (C := E) h1 r, h => by
    by_cases e : C = E
    · subst e
      rw [List.lookup_cons_self] at h
      cases h
      exact h1
    · have hb : (C == E) = false := by simpa using e
      rw [List.lookup_cons, hb] at h
      exact r.get h
/-- the receiver is known, its method found -/
theorem meth_mid {tb : List (Str × DF)} {pins : List (Addr × Obj)} {t : L2.St} {Q : VK} {r : En} {so : Sto} {w : Wd} {s : Shared} (I : Inv X pins t w.H s) (ho : PE X o (tE X.K W mo)) (env : EnvR X.K w r t) (st : StR X.K w so) (hp : Post X.K (Rep X.K) w (fun c d H' => W c d t H') Q (methM tb m mo mr r so)) {Q2 : Value → Shared → Prop}
    (k : ∀ (q : Addr) (C : Str) (f : DF) (d : D) (s1 : Shared) (so1 : Sto) (w1 : Wd) (dx : Addr) (l : List (Str × V)), Inv X pins t w1.H s1 → Ext w w1 → StR X.K w1 so1 → Rep X.K w1 (.ref q) d → w1.H q = some (.ins (He.ga X.K C) dx l) → l.lookup m = none → tb.lookup C = some f →
      Post X.K (Rep X.K) w1 (fun c d H' => W c d t H') Q ((bindM mr fun ds => fun _ s => f (d :: ds) s) r so1) → Q2 (.ref q) s1) : wpAny (model X.prog X.w) X.A (eval o X.env) Q2 X.xe s := by
  refine thn (ho.run pins s t w.H (fun x H1 => ∃ d s1 w1, w1.H = H1 ∧ Ext w w1 ∧ StR X.K w1 s1 ∧ Rep X.K w1 x d ∧ Post X.K (Rep X.K) w1 (fun c d H' => W c d t H') Q (match insOf s1 d with
    | none => .bad
    | some (C, fs) => (match fs.lookup m with
      | some _ => .bad
      | none => (match tb.lookup C with
        | none => .bad
        | some f => (bindM mr fun ds => fun _ s => f (d :: ds) s) r s1)))) I (hp.bind env st fun x d s1 w1 e1 st1 r1 hp1 => ⟨d, s1, w1, rfl, e1, st1, r1, hp1⟩)) fun v s1 h => ?_
  obtain ⟨y, H1, I1, rx, d, so1, w1, rfl, e1, st1, r1, hp1⟩ := h
  cases e : insOf so1 d with
  | none => rw [e] at hp1; exact hp1.elim
  | some q =>
    obtain ⟨C, fs⟩ := q
    rw [e] at hp1
    dsimp only at hp1
    obtain ⟨q, dx, l, rfl, hh, kv⟩ := insOf_ok st1 r1 e
    obtain rfl : v = Value.ref q := rx
    have g1 := kv.lookup (f := m)
    cases e3 : fs.lookup m with
    | some d3 => rw [e3] at hp1; exact hp1.elim
    | none =>
      rw [e3] at g1 hp1
      dsimp only at hp1
      cases e2 : tb.lookup C with
      | none => rw [e2] at hp1; exact hp1.elim
      | some f =>
        rw [e2] at hp1
        exact k q C f d s1 so1 w1 dx l I1 e1 st1 r1 hh g1 e2 hp1
theorem meth_bind {w : Wd} {so : Sto} {r : En} {t : L2.St} {Q : VK} {K : Frag} {q : Addr} {d : D} (r1 : Rep K w (.ref q) d) (hp : Post K (Rep K) w (fun c d H' => W c d t H') Q ((bindM mr fun ds => fun _ s => mf (d :: ds) s) r so)) :
    Post K (Reps K) w (fun c d H' => W c d t H') (fun vs H2 => spD K mf (.ref q :: vs) H2 Q (WE W t)) (mr r so) := by
  unfold bindM at hp
  cases e : mr r so with
  | ok dv s3 =>
    rw [e] at hp
    exact fun vs w3 e3 st3 r3 => sp_post (.cons (r1.ext e3) r3) st3 (Post.ext e3 hp)
  | exc C fs s3 => rw [e] at hp; exact hp
  | bad => rw [e] at hp; exact hp
theorem e_meth {pl : Sem Bool} {tb : List (Str × DF)} (tk : Takes X W) (T : MTab X m tb) (ho : PE X o (tE X.K W mo)) (ha : PA X (a :: es) (tA X.K W mr))
    (hst : starEach (a :: es) X.env = (false, eval a X.env) :: starEach es X.env := by rfl) (hpl : (backTo pos (starEach es X.env)).any (·.1) = false := by rfl)
    (ht : eval (.Call (.Attribute o m apos) (a :: es) [] pos) X.env = (eval o X.env >>= fun ov => standAt apos.atName >>= fun _ => holding [ov] (getMethod ov m pl) >>= fun z => callWith pos z.1 z.2 (backTo pos (starEach (a :: es) X.env)) (backToKw pos (keywordEach [] X.env))) := by rfl) :
    PE X (.Call (.Attribute o m apos) (a :: es) [] pos) (tE X.K W (methM tb m mo mr)) := by
  refine ⟨fun pins s t H Q I h => ?_⟩
  obtain ⟨r, so, w, rfl, env, st, hp⟩ := h
  refine PySem.W.methodCall_KW (pl := pl) (meth_mid I ho env st hp fun q C f d s1 so1 w1 dx l I1 e1 st1 r1 hh g1 e2 hp1 => ?_) ht
  obtain ⟨hc, g, kk, hm, F, hr⟩ := T.get e2
  refine getmeth_ok I1 hh hc hm g1 ?_
  refine PySem.W.callWith_K (first := [.ref q]) (h₀ := X.base) I1.ok.mod.kin hm.kp (thn (ha.run pos pins s1 t w1.H (fun vs H2 => spD X.K f (.ref q :: vs) H2 Q (WE W t)) I1 ⟨r, so1, w1, rfl, env.ext e1, st1, meth_bind r1 hp1⟩) fun us s2 z => ?_) hst hpl
  obtain ⟨vs, H2, I2, rv, q2⟩ := z
  exact ⟨I2.kIn, run_fnRD (us := .ref q :: us) (vs := .ref q :: vs) F hr (passAt tk t) I2 (.cons rfl rv) q2⟩
theorem e_meth0 {pl : Sem Bool} {tb : List (Str × DF)} (tk : Takes X W) (T : MTab X m tb) (ho : PE X o (tE X.K W mo))
    (ht : eval (.Call (.Attribute o m apos) [] [] pos) X.env = (eval o X.env >>= fun ov => standAt apos.atName >>= fun _ => holding [ov] (getMethod ov m pl) >>= fun z => callWith pos z.1 z.2 (backTo pos (starEach [] X.env)) (backToKw pos (keywordEach [] X.env))) := by rfl) :
    PE X (.Call (.Attribute o m apos) [] [] pos) (tE X.K W (methM tb m mo nilA)) := by
  refine ⟨fun pins s t H Q I h => ?_⟩
  obtain ⟨r, so, w, rfl, env, st, hp⟩ := h
  refine PySem.W.methodCall_KW (pl := pl) (meth_mid I ho env st hp fun q C f d s1 so1 w1 dx l I1 e1 st1 r1 hh g1 e2 hp1 => ?_) ht
  obtain ⟨hc, g, kk, hm, F, hr⟩ := T.get e2
  refine getmeth_ok I1 hh hc hm g1 ?_
  exact PySem.W.callWith_K0 (first := [.ref q]) I1.kIn hm.kp (run_fnRD (us := [.ref q]) (vs := [.ref q]) F hr (passAt tk t) I1 (.cons rfl .nil) (sp_post (.cons r1 .nil) st1 hp1))
/-- o.m( *e) -/
structure MethB (X : Cx) (C m : Str) (mf : DF) : Prop where
  cls : Cls X.K (He.ga X.K C)
  ex : ∃ (g : Addr) (k : Nat), BMeth X.K (He.ga X.K C) m g ∧ FnD X.prog X.w X.K X.mg X.base k g mf ∧ Rm k X.A
inductive BTab (X : Cx) (m : Str) : List (Str × DF) → Prop
  | nil : BTab X m []
  | cons {C : Str} {f : DF} {r : List (Str × DF)} : MethB X C m f → BTab X m r → BTab X m ((C, f) :: r)
theorem BTab.get {C : Str} {f : DF} : ∀ {tb : List (Str × DF)}, BTab X m tb → tb.lookup C = some f → MethB X C m f
  | _, .nil, h => by simp at h
  | _, .cons (C := E) h1 r, h => by
    by_cases e : C = E
    · subst e
      rw [List.lookup_cons_self] at h
      cases h
      exact h1
    · have hb : (C == E) = false := by simpa using e
      rw [List.lookup_cons, hb] at h
      exact r.get h
def starA (e : DE) : DM (List D) := bindM e fun x => fun _ s => match x with
  | .tup l => .ok l s
  | _ => .bad
theorem e_methS {tb : List (Str × DF)} (tk : Takes X W) (T : BTab X m tb) (ho : PE X o (tE X.K W mo)) (ha : PE X a (tE X.K W ma)) (hbase : attributeBase o m X.env (eval o X.env) = eval o X.env := by rfl) :
    PE X (.Call (.Attribute o m apos) [.Starred a p] [] pos) (tE X.K W (methM tb m mo (starA ma))) := by
  refine ⟨fun pins s t H Q I h => ?_⟩
  obtain ⟨r, so, w, rfl, env, st, hp⟩ := h
  refine starcall_of hbase (meth_mid I ho env st hp fun q C f d s1 so1 w1 dx l I1 e1 st1 r1 hh g1 e2 hp1 => ?_)
  obtain ⟨hc, g, kk, hm, F, hr⟩ := T.get e2
  refine getbound_ok I1 hh hc hm g1 fun q1 s2 hq1 I2 => ?_
  refine PySem.W.ks_call (P := PySem.W.MethP X.K q1 g (.ref q)) rfl (PySem.W.keeps_M hm.fi) (PySem.W.ks_lone ?_)
  have e3 := Wd.frz_ext st1 (o := .met g q) hq1
  have st3 := Wd.frz_st st1 (o := .met g q) hq1
  have hp3 := Post.ext e3 hp1
  refine thn (ha.run pins s2 t (w1.frz q1 (.met g q)).H (fun y H2 => ∃ b vs, y = .ref b ∧ SqT X.K H2 b vs ∧ H2 q1 = some (.met g q) ∧ spD X.K f (.ref q :: vs) H2 Q (WE W t)) I2 ⟨r, so1, w1.frz q1 (.met g q), rfl, (env.ext e1).ext e3, st3, ?_⟩) fun v s3 h3 => ?_
  · unfold starA bindM at hp3
    cases e : ma r so1 with
    | bad => rw [e] at hp3; exact hp3
    | exc C fs s3 => rw [e] at hp3; exact hp3
    | ok dv s4 =>
      rw [e] at hp3
      intro y w5 e5 st5 r5
      have hp5 := Post.ext e5 hp3
      dsimp only at hp5
      cases dv with
      | tup l =>
        cases r5 with
        | tup ht rs =>
          refine ⟨_, _, rfl, ht.sq, (e5.H q1 Wd.frz_z).trans Wd.frz_h, ?_⟩
          exact sp_post (.cons ((r1.ext e3).ext e5) rs) st5 hp5
      | _ => exact hp5.elim
  · obtain ⟨y, H2, I3, ry, b, vs, ey, hs, hmt, hsp⟩ := h3
    subst ey
    obtain rfl : v = Value.ref b := ry
    refine star_tup I3 hs fun us s4 I4 rv => ⟨met_P I4 hmt, ?_⟩
    refine wpAny_call (PySem.W.method_call (met_P I4 hmt).1 ?_)
    refine codeAny_mono (F X.A X.stack s4 H2 (.ref q :: us) (.ref q :: vs) Q (WE W t) hr I4.env0 (.cons rfl rv) hsp) fun z s' hz => ?_
    cases z with
    | error er => exact passAt tk t pins H2 s4 er s' I4 hz
    | ok fl =>
      cases fl with
      | ret u => exact I4.after hz
      | _ => exact hz.elim
/-! making -/
theorem run_makeAt {pins : List (Addr × Obj)} {t : L2.St} {H : Hp} {s : Shared} {Q : VK} {E : XK} {us : List Value} {vs : List V} {C : Addr} {CX : CXT} {sp : Sp} (M : Mk X.K C f) (F : FnG X.prog X.w X.K X.mg X.base CX k f sp) (hr : Rm (k + 1) X.A)
    (hx : PassesAt CX X t E) (I : Inv X pins t H s) (r : Vals vs us)
    (h : ∀ x dx, H x = none → H dx = none → dx ≠ x → sp (.ref x :: vs) (upd (upd H dx (.own x)) x (.ins C dx [])) (fun v H2 => v = .non ∧ Q (.ref x) H2) E) : wpAny (model X.prog X.w) X.A (call (.ref C) us) (EP X pins t Q) X.xe s := by
  have h0 := h (s.heap.objs.size + 1) s.heap.objs.size (I.hok.fresh (Nat.le_succ _)) (I.hok.fresh (Nat.le_refl _)) (Nat.ne_of_lt (Nat.lt_succ_self _))
  have J := Inv.made (C := C) I
  have rr : Vals (V.ref (s.heap.objs.size + 1) :: vs) (Value.ref (s.heap.objs.size + 1) :: us) := .cons rfl r
  refine wpAny_call (make_map (f := f) I.kIn M.makes M.init (beq_iff_eq.mp M.fn) (codeAny_mono (F _ X.stack _ _ (.ref (s.heap.objs.size + 1) :: us) _ _ E (hr.make C us []) (J.env0.make C us []) rr h0) fun z s' hz => ?_))
  cases z with
  | error er => exact hx pins _ _ er s' J hz
  | ok fl =>
    cases fl with
    | ret u =>
      obtain ⟨v, H3, J3, rv, ev, q3⟩ := J.after hz
      subst ev
      exact ⟨rv, ⟨.ref (s.heap.objs.size + 1), H3, J3, rfl, q3⟩⟩
    | next => exact hz.elim
    | brk => exact hz.elim
    | cont => exact hz.elim
/-- what the making of an instance asks -/
theorem make_mid {w : Wd} {s : Sto} {vs : List V} {dv : List D} {t : L2.St} {Q : VK} {E : XK} {cc : Str} {kk : Bool} (st : StR X.K w s) (rs : Reps X.K w vs dv)
    (hp : Post X.K (Rep X.K) w E Q (match mf (.cel s.length :: dv) (s ++ [some (.ins cc [])]) with
      | .ok .non s' => freezeI kk s.length s'
      | .ok _ _ => .bad
      | .exc E fs s' => .exc E fs s'
      | .bad => .bad)) :
    ∀ x dx, w.H x = none → w.H dx = none → dx ≠ x → spD X.K mf (.ref x :: vs) (upd (upd w.H dx (.own x)) x (.ins (He.ga X.K cc) dx [])) (fun v H2 => v = .non ∧ Q (.ref x) H2) E := fun x dx nx ndx ne => by
  have e1 := Wd.put_ext st (o := .own x) ndx
  have st1 := Wd.put_st st (o := .own x) ndx
  have nx1 : (w.put dx (.own x)).H x = none := (upd_ne fun z => ne z.symm).trans nx
  have e2 := Wd.cell_ext st1 (o := .ins (He.ga X.K cc) dx []) nx1
  have st2 : StR X.K ((w.put dx (.own x)).cell s.length x (.ins (He.ga X.K cc) dx [])) (s ++ [some (.ins cc [])]) := Wd.cell_st st1 nx1 ⟨dx, [], upd_same, .nil⟩
  have hA : ((w.put dx (.own x)).cell s.length x (.ins (He.ga X.K cc) dx [])).A s.length = some x := if_pos rfl
  have rs2 : Reps X.K ((w.put dx (.own x)).cell s.length x (.ins (He.ga X.K cc) dx [])) (.ref x :: vs) (.cel s.length :: dv) := .cons (.cel hA) (rs.ext (e1.trans e2))
  refine ⟨_, _, (w.put dx (.own x)).cell s.length x (.ins (He.ga X.K cc) dx []), rfl, rs2, st2, ?_⟩
  have hp2 := Post.ext (e1.trans e2) hp
  cases e : mf (.cel s.length :: dv) (s ++ [some (.ins cc [])]) with
  | bad => rw [e] at hp2; exact hp2
  | exc E2 fs s2 => rw [e] at hp2; exact hp2
  | ok d s3 =>
    rw [e] at hp2
    intro v w3 e3 st3 rv
    cases rv with
    | non =>
      refine ⟨rfl, ?_⟩
      have A3 := e3.A _ _ hA
      have hp3 := Post.ext e3 hp2
      dsimp only at hp3
      unfold freezeI at hp3
      cases kk with
      | true => exact hp3.pure st3 (.cel A3)
      | false =>
        have hp4 : Post X.K (Rep X.K) w3 E Q (match s3[s.length]? with
          | some (some (.ins C fs)) => .ok (.ins C fs) (s3.set s.length none)
          | _ => .bad) := hp3
        cases e5 : s3[s.length]? with
        | none => rw [e5] at hp4; exact hp4.elim
        | some oc =>
          rw [e5] at hp4
          cases oc with
          | none => exact hp4.elim
          | some ct =>
            cases ct with
            | ins C fs =>
              obtain ⟨a1, h1, hz, dx1, l, hh, kv⟩ := st3.at_ _ _ e5
              have ea : a1 = x := Option.some.inj (h1.symm.trans A3)
              subst ea
              exact hp4 (.ref a1) (w3.ice a1) Wd.ice_ext (Wd.ice_st st3 e5 h1) (.insK (.inr rfl) hh (kv.ext Wd.ice_ext))
            | _ => exact hp4.elim
    | _ => exact hp2.elim
theorem e_make {cc : Str} (kk : Bool) (tk : Takes X W) (M : Mk X.K (He.ga X.K cc) f) (F : FnD X.prog X.w X.K X.mg X.base k f mf) (hr : Rm (k + 1) X.A) (hg : Gl X cc) (hm : X.mg cc = some (.ref (He.ga X.K cc)))
    (ha : PA X (a :: es) (tA X.K W mr)) (hdb : (cc == ("__debug__" : Str)) = false := by decide) (he : starEach (a :: es) X.env = (false, eval a X.env) :: starEach es X.env := by rfl) (hpl : (backTo pos (starEach es X.env)).any (·.1) = false := by rfl) :
    PE X (.Call (.Name cc p) (a :: es) [] pos) (tE X.K W (makeM kk cc mf mr)) := by
  refine ⟨fun pins s t H Q I h => ?_⟩
  obtain ⟨r, so, w, rfl, env, st, hp⟩ := h
  refine wpAny_Call_Name_kw (ld_glob I hg hm ?_ hdb)
  refine PySem.W.callWith_K (h₀ := X.base) I.ok.mod.kin M.kp (thn (ha.run pos pins s t w.H (fun vs H2 => ∀ x dx, H2 x = none → H2 dx = none → dx ≠ x → spD X.K mf (.ref x :: vs) (upd (upd H2 dx (.own x)) x (.ins (He.ga X.K cc) dx [])) (fun v H3 => v = .non ∧ Q (.ref x) H3) (WE W t)) I ?_) fun us s2 z => ?_) he hpl
  · refine ⟨r, so, w, rfl, env, st, ?_⟩
    unfold makeM bindM at hp
    cases e : mr r so with
    | ok dv s3 =>
      rw [e] at hp
      exact fun vs w3 e3 st3 r3 => make_mid (t := t) st3 r3 (Post.ext e3 hp)
    | exc C fs s3 => rw [e] at hp; exact hp
    | bad => rw [e] at hp; exact hp
  · obtain ⟨vs, H2, I2, rv, q2⟩ := z
    exact ⟨I2.kIn, run_makeAt (E := WE W t) M F hr (passAt tk t) I2 rv q2⟩
theorem e_make0 {cc : Str} (kk : Bool) (tk : Takes X W) (M : Mk X.K (He.ga X.K cc) f) (F : FnD X.prog X.w X.K X.mg X.base k f mf) (hr : Rm (k + 1) X.A) (hg : Gl X cc) (hm : X.mg cc = some (.ref (He.ga X.K cc)))
    (hdb : (cc == ("__debug__" : Str)) = false := by decide) : PE X (.Call (.Name cc p) [] [] pos) (tE X.K W (makeM kk cc mf nilA)) := by
  refine ⟨fun pins s t H Q I h => ?_⟩
  obtain ⟨r, so, w, rfl, env, st, hp⟩ := h
  refine wpAny_Call_Name_kw (ld_glob I hg hm ?_ hdb)
  exact PySem.W.callWith_K0 I.kIn M.kp (run_makeAt (us := []) (vs := []) (E := WE W t) M F hr (passAt tk t) I .nil (make_mid (t := t) st .nil hp))
/-! o.f = e -/
theorem s_fld {tb : List Str} {g : Str} {pos' : Pos} (hT : ∀ C ∈ tb, Cls X.K (He.ga X.K C) ∧ NoAttr X.K (He.ga X.K C) g) (ho : PE X o (tE X.K W mo)) (hv : PE X a (tE X.K W ma)) (hs : swapsWith a (some (.Attribute o g pos')) pos.line X.env = pure false := by rfl) :
    PS X (.Assign [.Attribute o g pos'] a pos) (tS X.K W (fldS tb g mo ma)) := PS.imp (ps_fld ho hv hs) fun E t H h => by
  obtain ⟨r, s, w, rfl, env, st, hp⟩ := h
  exact hp.bind env st fun y dy s1 w1 e1 st1 r1 hp1 => hp1.bind (env.ext e1) st1 fun x d s2 w2 e2 st2 r2 hp2 => by
    cases r2 with
    | @cel n a0 hA =>
      dsimp only at hp2
      cases e5 : s2[n]? with
      | none => rw [e5] at hp2; exact hp2.elim
      | some oc =>
        rw [e5] at hp2
        cases oc with
        | none => exact hp2.elim
        | some ct =>
          cases ct with
          | ins C fs =>
            dsimp only at hp2
            split at hp2
            · rename_i hc
              obtain ⟨hc1, hc2⟩ := hT C hc.1
              obtain ⟨a1, h1, hz, dx1, l, hh, kv⟩ := st2.at_ _ _ e5
              have ea : a1 = a0 := Option.some.inj (h1.symm.trans hA)
              subst ea
              have nP := st2.np n _ a1 e5 h1
              have e3 : Ext w2 (w2.put a1 (.ins (He.ga X.K C) dx1 (putF g y l))) := Wd.mut_ext hz nP
              refine ⟨a1, _, dx1, l, rfl, hh, hc1, hc2, by rw [kv.length]; exact hc.2, ?_⟩
              refine hp2 t (w2.put a1 (.ins (He.ga X.K C) dx1 (putF g y l))) e3 (((env.ext e1).ext e2).ext e3) (Wd.mut_st st2 e5 h1 hz ⟨dx1, _, upd_same, ?_⟩)
              exact (kv.ext e3).put ((r1.ext e2).ext e3)
            · exact hp2.elim
          | _ => exact hp2.elim
    | _ => exact hp2.elim
end
end Mp

set_option Elab.async false
set_option linter.all false
set_option maxRecDepth 100000
set_option maxHeartbeats 4000000
/-! Mp: exceptions of the program: class C(B) whose __init__ says B.__init__(self, text) and stores one field or none. -/
namespace Mp
open PySem PySem.Spec PyProof.Rows L2
/-! ### the base -/
structure BaseX (B newId initId : String) (bm : List Value) : Prop where
  F : ExcBaseFacts B newId initId bm
  pass : ∀ self : Value, refuseLoop self "__setattr__" bm = pure ()
  ob : bm.contains (.type "object") = true
  boot : bootBuiltins (Str.ofString B) = some (.type B)
  typ : typeOf (.type B) = pure (.type "type")
  nn : Str.ofString B ≠ "__name__"
  nd : (Str.ofString B == ("__debug__" : Str)) = false
  stub : Manifest.isStub B = false
  hand : PySem.W.handedIn (.builtin initId) = true
  fnd : ∀ K : Frag, PySem.W.findCls K (.type B) (.type "type") "__init__" = some (.val (.builtin initId))
abbrev mValue : List Value := [.type "ValueError", .type "Exception", .type "BaseException", .type "object"]
abbrev mLookup : List Value := [.type "LookupError", .type "Exception", .type "BaseException", .type "object"]
abbrev mArith : List Value := [.type "ArithmeticError", .type "Exception", .type "BaseException", .type "object"]
abbrev mOver : List Value := [.type "OverflowError", .type "ArithmeticError", .type "Exception", .type "BaseException", .type "object"]
abbrev mRun : List Value := [.type "RuntimeError", .type "Exception", .type "BaseException", .type "object"]
theorem bxValue : BaseX "ValueError" "ValueError.__new__" "ValueError.__init__" mValue := ⟨F.excBase_ValueError, F.store_ValueError.passes, by decide +kernel, by decide +kernel, by kernel_rfl, by decide +kernel, by decide +kernel, by decide +kernel, by decide +kernel, fun K => by kernel_rfl⟩
theorem bxLookup : BaseX "LookupError" "LookupError.__new__" "LookupError.__init__" mLookup := ⟨F.excBase_LookupError, F.store_LookupError.passes, by decide +kernel, by decide +kernel, by kernel_rfl, by decide +kernel, by decide +kernel, by decide +kernel, by decide +kernel, fun K => by kernel_rfl⟩
theorem bxArith : BaseX "ArithmeticError" "ArithmeticError.__new__" "ArithmeticError.__init__" mArith := ⟨F.excBase_ArithmeticError, F.store_ArithmeticError.passes, by decide +kernel, by decide +kernel, by kernel_rfl, by decide +kernel, by decide +kernel, by decide +kernel, by decide +kernel, fun K => by kernel_rfl⟩
theorem bxOver : BaseX "OverflowError" "OverflowError.__new__" "OverflowError.__init__" mOver := ⟨F.excBase_OverflowError, F.store_OverflowError.passes, by decide +kernel, by decide +kernel, by kernel_rfl, by decide +kernel, by decide +kernel, by decide +kernel, by decide +kernel, fun K => by kernel_rfl⟩
theorem bxRun : BaseX "RuntimeError" "RuntimeError.__new__" "RuntimeError.__init__" mRun := ⟨F.excBase_RuntimeError, F.store_RuntimeError.passes, by decide +kernel, by decide +kernel, by kernel_rfl, by decide +kernel, by decide +kernel, by decide +kernel, by decide +kernel, fun K => by kernel_rfl⟩
/-! ### the class -/
def exB (K : Frag) (C : Addr) (bm : List Value) (newId : String) : Bool := match K.lookup C with
  | some ⟨.type c, _, .cls cd, sl⟩ => decide (c = "type") && (cd.hasDict && (!cd.hasDel && (decide (cd.mro = .ref C :: bm) && (match sl.toList with
    | [_, _, _, _, some (.builtin n), _] => decide (n = newId)
    | _ => false))))
  | _ => false
theorem exB_ok {K : Frag} {C : Addr} {bm : List Value} {newId : String} (h : exB K C bm newId = true) : ∃ nm q N bs sn sub ab col dd k0 k1 k2 k3 k5, K.lookup C = some (excClassObj nm q C N bs bm true sn sub ab col dd k0 k1 k2 k3 k5 newId) := by
  unfold exB at h
  cases e : K.lookup C with
  | none => rw [e] at h; cases h
  | some o =>
    obtain ⟨oc, od, dt, sl⟩ := o
    rw [e] at h
    cases oc with
    | type c =>
      cases dt with
      | cls cd =>
        obtain ⟨h1, h⟩ := He.ba h
        obtain ⟨h2, h⟩ := He.ba h
        obtain ⟨h3, h⟩ := He.ba h
        obtain ⟨h4, h5⟩ := He.ba h
        have e1 := of_decide_eq_true h1
        have e4 := of_decide_eq_true h4
        have e3 : cd.hasDel = false := by simpa using h3
        obtain ⟨nm, bs, mro, ns, qn, hd, sn, sub, ab, col, del⟩ := cd
        dsimp only at h2 e3 e4
        subst e1 e3 e4 h2
        obtain ⟨sl⟩ := sl
        dsimp only at h5
        split at h5
        · have e5 := of_decide_eq_true h5
          subst e5
          exact ⟨nm, qn, ns, bs, sn, sub, ab, col, od, _, _, _, _, _, rfl⟩
        · cases h5
      | _ => cases h
    | _ => cases dt <;> cases h
structure OexB (K : Frag) (C : Addr) (B newId initId : String) (bm : List Value) : Prop where
  base : BaseX B newId initId bm
  cls : ∃ nm q N bs sn sub ab col dd k0 k1 k2 k3 k5, K.lookup C = some (excClassObj nm q C N bs bm true sn sub ab col dd k0 k1 k2 k3 k5 newId)
  sa : PySem.W.findIn K (.ref C) "__setattr__" = some (some (.builtin "object.__setattr__"))
  exC : PySem.W.subIn K (.ref C) (.type "BaseException") = some true
  tyC : PySem.W.typeIn K (.ref C) = some (.type "type")
  kC : PySem.W.keepIn K (.ref C) = true
section
open Builtin Builtin.ObjectAttr PySem.HandSPX
variable {prog : Program} {w : World} {A : Around} {E : Value → Shared → Prop} {R : Result → Shared → Prop} {hp : Heap} {g : Array GenState} {d : Drawn} {t : Nat} {os : OsState}
/-- self.name = v, the first one, on an exception -/
theorem exc_store {K : Frag} {name : Str} {tk : Tok} {v : Value} {x C : Addr} {fv : Array Value} {cd : ClassData} (X : K.In hp) (hx : hp.get? x = some { cls := .ref C, data := .fields fv }) (hcd : W.clsIn K C = some cd)
    (hne : cd.mro.isEmpty = false) (hob : cd.mro.contains (.type "object") = true) (hps : ∀ self, refuseLoop self "__setattr__" cd.mro = pure ()) (hh : cd.hasDict = true) (ha : W.findIn K (.ref C) name = some none)
    (hq : ∀ h' tk' dx, (∀ b o, b ≠ x → hp.get? b = some o → h'.get? b = some o) → hp.objs.size ≤ dx → dx ≠ x → h'.get? x = some { cls := .ref C, dict := some dx, data := .fields fv } → h'.Ns1 dx (fun y => if y = name then some v else none) → R (.ok (.ret .none)) ⟨h', g, d, tk', os⟩) :
    codeAny (model prog w) A (.call (.builtin "object.__setattr__") ⟨[.ref x, .str name tk, v], []⟩) R ⟨hp, g, d, t, os⟩ := by
  have J : W.InstAt hp x { cls := .ref C, data := .fields fv } C none := ⟨hx, rfl, rfl, trivial⟩
  have nx : x ≠ hp.objs.size := Nat.ne_of_lt (Heap.lt_size hx)
  have sub : W.Looks (model prog w) hp (isInstance (.ref x) (.type "object")) true := J.type.andThen (W.looks_mroIn X (by unfold W.mroIn; rw [hcd, Option.bind_some, if_neg (by rw [hne]; decide), hob]))
  refine codeAny_call_builtin F.store_object.slot.plain F.store_object.entry (@W.check_slot (model prog w) _ _ ⟨hp, g, d, t, os⟩ "object.__setattr__" "object" "__setattr__" (.ref x) [.str name tk, v] [] _ F.store_object.kind F.store_object.split sub (F.store_object.args _ _ _) ?_)
  have lm : W.Looks (model prog w) hp (mroOf (.ref C)) cd.mro := (W.looks_clsIn X hcd).andThen .now
  have ln : W.Looks (model prog w) hp (storeTaker? none) none := .now
  have lc : W.Looks (model prog w) hp (classData C) cd := W.looks_clsIn X hcd
  rw [W.osa_eq, refuse_eq]
  refine wpAny_bind (wpAny_bind (J.type.at (wpAny_bind (lm.at ?_))))
  rw [hps]
  refine wpAny_pure (wpAny_bind (J.type.at (wpAny_bind ((W.looks_findIn X ha).at (wpAny_bind (ln.at ?_))))))
  show wpAny _ _ (storeInOwnDict (.ref x) (.ref C) (.str name tk) name v false) _ _ _
  obtain ⟨nm, bs, mro, ns, qn, hd, sn, sb, ab, col, del⟩ := cd
  cases (show hd = true from hh)
  unfold storeInOwnDict ownDictForStores
  repeat (first | with_reducible refine store_in_new ?_ ?_ | with_reducible refine wpAny_loadPart_at hx ?_ | with_reducible refine lc.at ?_ | wp_step)
  · exact ⟨_, #[], _, (Heap.get?_update_ne _ _ _ _ nx.symm).trans (Heap.get?_push_at rfl rfl), rfl, fun e he => absurd he (by simp), fun _ => rfl⟩
  · intro h' tk' hn' hs
    refine hq h' tk' hp.objs.size (fun b o hb ho => (hs.2 b (Nat.ne_of_lt (Heap.lt_size ho))).trans ((Heap.get?_update_ne _ _ _ _ hb).trans (Heap.get?_push_of_some _ ho))) (Nat.le_refl _) nx.symm ?_ hn'
    exact (hs.2 x nx).trans (Heap.get?_update_self _ (Heap.get?_push_of_some _ hx) rfl)
end
section
variable {X : Cx} {pins : List (Addr × Obj)} {t : L2.St} {H : Hp} {s : Shared} {a C : Addr} {f : Str} {y : V} {u : Value} {Q : Unit → Shared → Prop} {E : Value → Shared → Prop} {A : Around} {B newId initId : String} {bm : List Value}
theorem ostB (T : OexB X.K C B newId initId bm) (I : Inv X pins t H s) (e : H a = some (exo a C none)) (hno : PySem.W.findIn X.K (.ref C) f = some none) (ry : RelV y u)
    (h : ∀ dx s', H dx = none → dx ≠ a → Inv X pins t (upd (upd H dx (exd dx [(f, y)])) a (exo a C (some dx))) s' → Q () s') : wpAny (model X.prog X.w) A (setAttr (.ref a) f u) Q E s := by
  obtain ⟨nm, q, N, bs, sn, sub, ab, col, dd, k0, k1, k2, k3, k5, hC⟩ := T.cls
  have hcl : PySem.W.clsIn X.K C = some { name := nm, bases := bs, mro := .ref C :: bm, ns := N, qualname := q, hasDict := true, slotNames := sn, subclasses := sub, abstract := ab, collection := col, hasDel := false } := by
    unfold PySem.W.clsIn
    rw [hC] <;> rfl
  obtain ⟨t1, ho⟩ := exo_at I.hok e
  obtain ⟨hp, g, d, tk, os⟩ := s
  refine PySem.W.set_plain I.kIn (ox := { cls := .ref C, dict := none, data := .fields #[.ref t1, .none, .none, .none, .bool false, .none] }) (od := none) ⟨ho, rfl, rfl, trivial⟩ T.sa ?_
  refine exc_store I.kIn ho hcl rfl (by show (Value.ref C :: bm).contains (.type "object") = true; rw [List.contains_cons, T.base.ob, Bool.or_true]) (fun self => (refuseLoop_ref self "__setattr__" C bm).trans (T.base.pass self)) rfl hno fun h' tk' dx k dn dne hx hn => ?_
  have hnd : H dx = none := I.hok.fresh dn
  have nd : ∀ {b : Addr} {o : Obj}, hp.get? b = some o → b ≠ dx := fun {b o} z => Nat.ne_of_lt (Nat.lt_of_lt_of_le (Heap.lt_size z) dn)
  have na : ∀ {b : Addr}, H b = none → b ≠ a := fun {b} n z => by
    rw [z, e] at n
    cases n
  have U : Un X.fs [] H (upd (upd H dx (exd dx [(f, y)])) a (exo a C (some dx))) hp h' :=
    ⟨fun b o z n _ _ => k b o (na n) z, fun b o z n _ _ => ⟨o.slots, k b o (na n) z⟩, fun b o z n _ => by rw [upd_ne (na n), upd_ne (nd z)]; exact n,
      fun b o z _ => by
        by_cases hb : b = a
        · exact ⟨_, hb ▸ hx⟩
        · exact ⟨o, k b o hb z⟩,
      fun b xs z => by rw [upd_ne (at_ne e z exo_tup), upd_ne (ne_of_none z hnd)]; exact z, fun b o v z => by rw [upd_ne (at_ne e z exo_frz), upd_ne (ne_of_none z hnd)]; exact z,
      fun b ps z => ⟨#[], by rw [upd_ne (at_ne e z exo_tbl), upd_ne (ne_of_none z hnd), z]; simp⟩⟩
  refine h dx _ hnd dne (I.un (t' := tk') U fun b o z => ?_)
  by_cases hb : b = a
  · subst hb
    rw [upd_same] at z
    cases z
    exact exo_ok hx
  · rw [upd_ne hb] at z
    by_cases hd : b = dx
    · subst hd
      rw [upd_same] at z
      cases z
      exact exd_ok hn (relO_put (fs := []) ry fun _ => trivial)
    · rw [upd_ne hd] at z
      refine (I.hok b o z).stay (fun c v hc y => k c v (hc.elim (fun hc => hc ▸ hb) fun hc => at_ne e hc exo_own) y) (fun c hc => ?_) fun c xs hc => ?_
      · rw [upd_ne (at_ne e hc exo_own), upd_ne (ne_of_none hc hnd)]
        exact hc
      · rw [upd_ne (at_ne e hc exo_tup), upd_ne (ne_of_none hc hnd)]
        exact hc
theorem oinitB {us : List Value} {Q : Value → Shared → Prop} (T : OexB X.K C B newId initId bm) (I : Inv X pins t H s) (e : H a = some (exo a C none)) (hl : us.length ≤ sizeLine) (h : ∀ s', Inv X pins t H s' → Q .none s') : wpAny (model X.prog X.w) A (call (.builtin initId) (.ref a :: us)) Q E s := by
  obtain ⟨nm, q, N, bs, sn, sub, ab, col, dd, k0, k1, k2, k3, k5, hC⟩ := T.cls
  obtain ⟨t1, ho⟩ := exo_at I.hok e
  obtain ⟨hp, g, d, tk, os⟩ := s
  refine wpAny_call (PySem.HandSPX.init_base T.base.F (fun _ => rfl) (I.kIn _ _ hC) ho hl fun h' t2 k hx => ?_)
  have J := I.write (t' := tk) (x := a) (e := a) (o := exo a C none) (by rw [e]; exact trivial) (.inl rfl) k ⟨_, hx⟩ (exo_ok hx)
  have eu : upd H a (exo a C none) = H := by
    funext b
    by_cases hb : b = a
    · rw [hb, upd_same, e]
    · rw [upd_ne hb]
  exact h _ (eu ▸ J)
end
section
variable {X : Cx} {o e : Expr} {es : List Expr} {to te : TE} {ta : TA} {f : Str} {p p' p1 p2 pos : Pos} {B newId initId : String} {bm : List Value}
/-- B.__init__(self, ..) -/
def tIniB (K : Frag) (B newId initId : String) (bm : List Value) (ta : TA) : TE := fun t H Q => ta t H fun vs H1 => ∃ (a C : Addr) (ws : List V), vs = .ref a :: ws ∧ ws.length ≤ 1000 ∧ OexB K C B newId initId bm ∧ H1 a = some (exo a C none) ∧ Q .non H1
theorem pe_initB {pl : Sem Bool} (hB : BaseX B newId initId bm) (hg : Gl X (Str.ofString B)) (hm : X.mg (Str.ofString B) = none) (ha : PA X (e :: es) ta)
    (hc : eval (.Call (.Attribute (.Name (Str.ofString B) p1) "__init__" p2) (e :: es) [] pos) X.env = (eval (.Name (Str.ofString B) p1) X.env >>= fun ov => standAt p2.atName >>= fun _ => holding [ov] (getMethod ov "__init__" pl) >>= fun z => callWith pos z.1 z.2 (backTo pos (starEach (e :: es) X.env)) (backToKw pos (keywordEach [] X.env))) := by rfl)
    (he : starEach (e :: es) X.env = (false, eval e X.env) :: starEach es X.env := by rfl) (hpl : (backTo pos (starEach es X.env)).any (·.1) = false := by rfl) :
    PE X (.Call (.Attribute (.Name (Str.ofString B) p1) "__init__" p2) (e :: es) [] pos) (tIniB X.K B newId initId bm ta) := by
  refine ⟨fun pins s t H Q I h => ?_⟩
  refine PySem.W.methodCall_KW (ld_blt I hg hm hB.boot ?_ hB.nn hB.nd) hc
  obtain ⟨m, fr⟩ := I.fr
  refine PySem.W.method_type fr I.ok.mod.kin hB.typ hB.stub (hB.fnd X.K) hB.hand ?_
  show wpAny _ _ (callWith pos (Value.builtin initId) [] (backTo pos (starEach (e :: es) X.env)) []) _ _ _
  refine PyProof.Rows.callWith_method1 (thn (ha.run pos pins _ t H _ (I.tok _) h) fun us s1 z => ?_) he hpl
  obtain ⟨vs, H1, I1, r1, a, C, ws, rfl, hl, T, ea, q⟩ := z
  cases r1 with
  | @cons _ u0 _ ur ra rr =>
    obtain rfl : u0 = Value.ref a := ra
    exact oinitB T I1 ea (by rw [← Paired.length rr, sizeLine_eq]; omega) fun s' J => ⟨.non, H1, J, rfl, q⟩
/-- self.f = e, on an exception that has no field yet -/
def tOstB (K : Frag) (B newId initId : String) (bm : List Value) (f : Str) (to te : TE) : TS := fun E t H => te t H fun y H1 => to t H1 fun x H2 => ∃ a C : Addr, x = .ref a ∧ OexB K C B newId initId bm ∧ PySem.W.findIn K (.ref C) f = some none ∧ H2 a = some (exo a C none) ∧
  ∀ dx, H2 dx = none → dx ≠ a → E.nx t (upd (upd H2 dx (exd dx [(f, y)])) a (exo a C (some dx)))
theorem ps_ostB (ho : PE X o to) (he : PE X e te) (hs : swapsWith e (some (.Attribute o f p')) pos.line X.env = pure false := by rfl) : PS X (.Assign [.Attribute o f p'] e pos) (tOstB X.K B newId initId bm f to te) := by
  refine ⟨fun pins s t H E I h => ?_⟩
  refine plainObj_wpAny_Assign_Attribute (thn (he.run pins s t H _ I h) fun v s1 z1 => ?_) hs
  obtain ⟨y, H1, I1, r1, q1⟩ := z1
  refine thn (ho.run pins s1 t H1 _ I1 q1) fun u s2 z2 => ?_
  obtain ⟨x, H2, I2, r2, a, C, rfl, T, hno, ea, q⟩ := z2
  obtain rfl : u = Value.ref a := r2
  exact ostB T I2 ea hno r1 fun dx s' n ne J => ⟨t, _, J, q dx n ne⟩
end
/-! ### __init__ -/
/-- with one field: B.__init__(self, text); self.f = f -/
def spI1 (C : Addr) (f : Str) : Sp := fun vs H Q _ => ∃ (a : Addr) (v : V), vs = [.ref a, v] ∧ H a = some (exo a C none) ∧ ∀ dx, H dx = none → dx ≠ a → Q .non (upd (upd H dx (exd dx [(f, v)])) a (exo a C (some dx)))
def spI0 (C : Addr) : Sp := fun vs H Q _ => ∃ a : Addr, vs = [.ref a] ∧ H a = some (exo a C none) ∧ Q .non H
section
variable {P : Program} {w : World} {K : Frag} {mg : Str → Option Value} {base : Heap} {B newId initId : String} {bm : List Value} {x qual f : Str} {params : Arguments} {scope : Scope} {g C : Addr} {fd : FuncData} {z : Str} {p0 p1 p2 p3 p4 p5 p6 p7 p8 p9 : Pos} {j : Nat}
theorem init_eq {env : Env} (hL : (p2.endLine == p5.line) = true) : eval (.Call (.Attribute (.Name (Str.ofString B) p1) "__init__" p2) [.Name "self" p3, .Constant (.str z) j p4] [] p5) env = (eval (.Name (Str.ofString B) p1) env >>= fun ov => standAt p2.atName >>= fun _ => holding [ov] (getMethod ov "__init__" (plainOf (.Name (Str.ofString B) p1) env)) >>= fun q => callWith p5 q.1 q.2 (backTo p5 (starEach [.Name "self" p3, .Constant (.str z) j p4] env)) (backToKw p5 (keywordEach [] env))) := by
  show (eval (.Name (Str.ofString B) p1) env >>= fun ov => standAt p2.atName >>= fun _ => methodCall (.Name (Str.ofString B) p1) "__init__" p2 p5 env ov 2 (backTo p5 (starEach [.Name "self" p3, .Constant (.str z) j p4] env)) (backToKw p5 (keywordEach [] env))) = _
  congr 1
  funext ov
  congr 1
  funext _
  rw [mcall_line (n := 2) rfl hL]
theorem fn_init1 (F : FunD K x qual params [.Expr (.Call (.Attribute (.Name (Str.ofString B) p1) "__init__" p2) [.Name "self" p3, .Constant (.str z) j p4] [] p5) p6, .Assign [.Attribute (.Name "self" p7) f p8] (.Name f p9) p0] scope [] [] g fd) (S : FnScope ["self", f] ["self", f] scope)
    (hL : (p2.endLine == p5.line) = true) (hG : scope.names.lookup (Str.ofString B) = some .globalImplicit) (h1 : (f == ("__debug__" : Str)) = false) (h2 : (f == ("__classdict__" : Str)) = false) (hm : mg (Str.ofString B) = none) (T : OexB K C B newId initId bm) (hno : PySem.W.findIn K (.ref C) f = some none) :
    FnOk P w K mg base (L2.CX P w) 1 g fd ["self", f] (spI1 C f) := by
  refine F.ok S (fun vs H Q E h => ?_) (fun cdv A outer s H vs Q E hr h => ?_)
  · obtain ⟨a, v, rfl, _⟩ := h
    rfl
  · obtain ⟨a, v, rfl, ea, q⟩ := h
    have v0 : Vis scope "self" := (S.par "self" (by simp)).elim .inl fun h => .inr (.inl h)
    have v1 : Vis scope f := (S.par f (by simp)).elim .inl fun h => .inr (.inl h)
    refine ⟨_, pss_cons (ps_expr (pe_initB (pl := plainOf (.Name (Str.ofString B) p1) _) T.base hG hm (pa_cons (pe_var (i := 0) rfl v0) (pa_cons pe_str pa_nil)) (init_eq hL))) (pss_one (ps_ostB (B := B) (newId := newId) (initId := initId) (bm := bm) (pe_var (i := 0) rfl v0) (pe_var (i := 1) rfl v1 h1 h2))), ?_⟩
    exact ⟨_, rfl, a, C, _, rfl, by show 1 ≤ 1000; decide, T, ea, _, rfl, _, rfl, a, C, rfl, T, hno, ea, q⟩
theorem fn_init0 (F : FunD K x qual params [.Expr (.Call (.Attribute (.Name (Str.ofString B) p1) "__init__" p2) [.Name "self" p3, .Constant (.str z) j p4] [] p5) p6] scope [] [] g fd) (S : FnScope ["self"] ["self"] scope)
    (hL : (p2.endLine == p5.line) = true) (hG : scope.names.lookup (Str.ofString B) = some .globalImplicit) (hm : mg (Str.ofString B) = none) (T : OexB K C B newId initId bm) : FnOk P w K mg base (L2.CX P w) 1 g fd ["self"] (spI0 C) := by
  refine F.ok S (fun vs H Q E h => ?_) (fun cdv A outer s H vs Q E hr h => ?_)
  · obtain ⟨a, rfl, _⟩ := h
    rfl
  · obtain ⟨a, rfl, ea, q⟩ := h
    have v0 : Vis scope "self" := (S.par "self" (by simp)).elim .inl fun h => .inr (.inl h)
    refine ⟨_, pss_one (ps_expr (pe_initB (pl := plainOf (.Name (Str.ofString B) p1) _) T.base hG hm (pa_cons (pe_var (i := 0) rfl v0) (pa_cons pe_str pa_nil)) (init_eq hL))), ?_⟩
    exact ⟨_, rfl, a, C, _, rfl, by show 1 ≤ 1000; decide, T, ea, q⟩
end
end Mp

set_option Elab.async false
set_option linter.all false
set_option maxRecDepth 100000
set_option maxHeartbeats 4000000
/-! Mp: raise, try. -/
namespace Mp
open PySem PySem.Spec PyProof.Rows L2
section
variable {X : Cx} {pins : List (Addr × Obj)} {t : L2.St} {H1 H2 : Hp} {hp hp2 h2 : Heap} {g1 g2 : Array GenState} {d1 d2 : Drawn} {t1 t2 : Nat} {os1 os2 : OsState} {a C : Addr}
/-- an exception without fields is let go -/
theorem mk_none {Q : XK} (T : Raises X (.ref C)) (I1 : Inv X pins t H1 ⟨hp, g1, d1, t1, os1⟩) (ha : hp.objs.size ≤ a) (k : ∀ b o, hp.get? b = some o → hp2.get? b = some o) (un : Un (frs X.stack) [] (upd H1 a (exo a C none)) (upd H1 a (exo a C none)) hp2 h2)
    (hok : HOk X.prog X.w (upd H1 a (exo a C none)) h2) (ho : os2 = os1) (hb : AllBare g2) (q : Q (.ref C) none H1) : MkP X pins t Q (.ref a) ⟨h2, g2, d2, t2, os2⟩ := by
  obtain ⟨t0, hoe⟩ := exo_at hok (C := C) (e := a) upd_same
  have hn : H1 a = none := I1.hok.fresh ha
  obtain ⟨G, gk', gn'⟩ := restrict h2 fun b => decide (b ≠ a)
  have gk : ∀ b, b ≠ a → G.get? b = h2.get? b := fun b hb => gk' b (decide_eq_true hb)
  have ge : G.get? a = none := gn' a (by simp)
  have na : ∀ {b : Addr} {o : Obj}, hp.get? b = some o → b ≠ a := fun {b o} z => Nat.ne_of_lt (Nat.lt_of_lt_of_le (Heap.lt_size z) ha)
  have up : ∀ {b : Addr}, b ≠ a → H1 b = none → upd H1 a (exo a C none) b = none := fun {b} hb n => (upd_ne hb).trans n
  have U : Un (frs X.stack) [] H1 H1 hp G := ⟨fun b o z n hf hx => (gk b (na z)).trans (un.keep b o (k b o z) (up (na z) n) hf hx), fun b o z n hf hx => by
      rw [gk b (na z)]
      exact un.slot b o (k b o z) (up (na z) n) hf hx, fun b o z n hx => n, fun b o z hx => by
      rw [gk b (na z)]
      exact un.there b o (k b o z) hx, fun b xs z => z, fun b o v z => z, fun b ps z => ⟨#[], by rw [z]; simp⟩⟩
  have hok3 : HOk X.prog X.w H1 G := fun b o z => by
    have hba : b ≠ a := ne_of_none z hn
    refine (hok b o ((upd_ne hba).trans z)).stay (fun c v hc y => ?_) (fun c hc => ?_) fun c xs hc => ?_
    · have hca : c ≠ a := by
        rcases hc with hc | hc
        · exact hc ▸ hba
        · exact at_ne upd_same hc exo_own
      rw [gk c hca]
      exact y
    · rw [upd_ne (at_ne upd_same hc exo_own)] at hc
      exact hc
    · rw [upd_ne (at_ne upd_same hc exo_tup)] at hc
      exact hc
  have J : Inv X pins t H1 ⟨G, g2, d2, t2, os2⟩ := I1.call' (ch := []) ho U hok3 hb fun b z => absurd z (by simp)
  refine ⟨a, _, _, ⟨G, g2, d2, t2, os2⟩, H1, .ref C, none, rfl, J, fun b o z => ?_, ge, hoe, ⟨rfl, rfl⟩, rfl, rfl, hn, rfl, hb, T, q⟩
  by_cases hba : b = a
  · rw [hba, ge] at z
    cases z
  · exact (gk b hba).symm.trans z
end
section
variable {X : Cx} {e : Expr} {ta : TA} {f x : Str} {p pos : Pos} {B newId initId : String} {bm : List Value} {C fI : Addr} {k : Nat} {fd : FuncData}
/-- what the written part says of an exception's class and its __init__ -/
structure ExcD (X : Cx) (C : Addr) (B newId initId : String) (bm : List Value) (fI : Addr) : Prop where
  T : OexB X.K C B newId initId bm
  ini : PySem.W.findIn X.K (.ref C) "__init__" = some (some (.ref fI))
  fn : PySem.W.typeIn X.K (.ref fI) = some (.type "function")
theorem pmkB1 (T : ExcD X C B newId initId bm fI) (F1 : FnOk X.prog X.w X.K X.mg X.base (L2.CX X.prog X.w) k fI fd ["self", f] (spI1 C f)) (hr : Room (k + 1) X.A) (hb : Binds X.K fd ["self", f] []) (hg : Gl X x) (hm : X.mg x = some (.ref C)) (ha : PA X [e] ta)
    (hdb : (x == ("__debug__" : Str)) = false := by decide) (he : starEach [e] X.env = (false, eval e X.env) :: starEach [] X.env := by rfl) :
    PMk X (.Call (.Name x p) [e] [] pos) (fun t H Q => ta t H fun vs H1 => ∃ v, vs = [v] ∧ ∀ d, H1 d = none → Q (.ref C) (some d) (upd H1 d (.xd [(f, v)]))) := by
  intro pins s t H Q I h
  obtain ⟨nm, q, N, bs, sn, sub, ab, col, dd, k0, k1, k2, k3, k5, hC⟩ := T.T.cls
  refine wpAny_Call_Name_kw (ld_glob I hg hm ?_ hdb)
  refine PySem.W.callWith_K (h₀ := X.base) I.ok.mod.kin T.T.kC (thn (ha.run pos pins s t H _ I h) fun us s1 z => ?_) he rfl
  obtain ⟨vs, H1, I1, r1, v, rfl, q1⟩ := z
  refine ⟨I1.kIn, ?_⟩
  show wpAny _ _ (call (.ref C) us) _ _ _
  obtain ⟨hp, g, dr, tk, os⟩ := s1
  cases r1 with
  | @cons _ u _ _ ru rr =>
    cases rr
    have hsz : hp.objs.size ≤ hp.objs.size + 1 := Nat.le_succ _
    have hn : H1 (hp.objs.size + 1) = none := I1.hok.fresh hsz
    have kk : ∀ b o, hp.get? b = some o → ((hp.push (PySem.W.kdv_tup [u])).push (PySem.HandSPX.excO C hp.objs.size)).get? b = some o := fun b o z => Heap.get?_push_of_some _ (Heap.get?_push_of_some _ z)
    have hget : ((hp.push (PySem.W.kdv_tup [u])).push (PySem.HandSPX.excO C hp.objs.size)).get? (hp.objs.size + 1) = some (PySem.HandSPX.excO C hp.objs.size) := by heap_get
    have I2 := I1.laid (t' := tk) (a := hp.objs.size + 1) (o := exo (hp.objs.size + 1) C none) (h' := (hp.push (PySem.W.kdv_tup [u])).push (PySem.HandSPX.excO C hp.objs.size)) kk hsz (exo_ok hget)
    have rv : Vals [V.ref (hp.objs.size + 1), v] [Value.ref (hp.objs.size + 1), u] := .cons rfl (.cons ru .nil)
    have hq : spI1 C f [.ref (hp.objs.size + 1), v] (upd H1 (hp.objs.size + 1) (exo (hp.objs.size + 1) C none)) (fun z H2 => z = .non ∧ ∃ d, H1 d = none ∧ d ≠ hp.objs.size + 1 ∧ H2 = upd (upd (upd H1 (hp.objs.size + 1) (exo (hp.objs.size + 1) C none)) d (exd d [(f, v)])) (hp.objs.size + 1) (exo (hp.objs.size + 1) C (some d))) (fun _ _ _ => False) :=
      ⟨_, v, rfl, upd_same, fun dx ndx ne => ⟨rfl, dx, (upd_ne ne).symm.trans ndx, ne, rfl⟩⟩
    refine wpAny_call (PySem.HandSPX.call_own T.T.base.F (fun _ => rfl) (I1.kIn _ _ hC) (PySem.W.looks_findIn I1.kIn T.ini) (fun self => PySem.W.bind_fn I1.kIn self T.fn) (by show 1 ≤ sizeLine; decide)
      (codeAny_mono (F1.run _ X.stack _ _ ⟨[.ref (hp.objs.size + 1), u], []⟩ [.ref (hp.objs.size + 1), u] _ _ (fun _ _ _ => False) (hr.make C [u] []) (I2.env0.make C [u] []) (hb _ [.ref (hp.objs.size + 1), u] I2.kIn rfl) rv hq) fun r s' hz => ?_))
    cases r with
    | error er =>
      obtain ⟨_, _, _, _, _, _, _, _, _, _, _, _, z⟩ := hz
      exact z.elim
    | ok fl =>
      cases fl with
      | ret w =>
        obtain ⟨z, H2, osE, bareE, unE, hokE, rz, ez, d, nd, ne, eH⟩ := hz
        subst ez
        obtain ⟨h2, g2, d2, t2, os'⟩ := s'
        have ea : H2 (hp.objs.size + 1) = some (exo (hp.objs.size + 1) C (some d)) := by rw [eH, upd_same]
        have ed : H2 d = some (exd d [(f, v)]) := by rw [eH, upd_ne ne, upd_same]
        refine ⟨rz, mk_end (raises_own T.T.exC T.T.tyC) I1 hsz kk unE hokE osE bareE ea ed nd ?_⟩
        have eq : upd (del H2 (hp.objs.size + 1)) d (.xd [(f, v)]) = upd H1 d (.xd [(f, v)]) := by
          funext b
          by_cases hb : b = d
          · rw [hb, upd_same, upd_same]
          · rw [upd_ne hb, upd_ne hb]
            by_cases hb2 : b = hp.objs.size + 1
            · rw [hb2, del_same, hn]
            · rw [del_ne hb2, eH, upd_ne hb2, upd_ne hb, upd_ne hb2]
        rw [eq]
        exact q1 d nd
      | next => exact hz.elim
      | brk => exact hz.elim
      | cont => exact hz.elim
theorem pmkB0 (T : ExcD X C B newId initId bm fI) (F1 : FnOk X.prog X.w X.K X.mg X.base (L2.CX X.prog X.w) k fI fd ["self"] (spI0 C)) (hr : Room (k + 1) X.A) (hb : Binds X.K fd ["self"] []) (hg : Gl X x) (hm : X.mg x = some (.ref C)) (hdb : (x == ("__debug__" : Str)) = false := by decide) :
    PMk X (.Call (.Name x p) [] [] pos) (fun t H Q => Q (.ref C) none H) := by
  intro pins s t H1 Q I1 q1
  obtain ⟨nm, q, N, bs, sn, sub, ab, col, dd, k0, k1, k2, k3, k5, hC⟩ := T.T.cls
  refine wpAny_Call_Name_kw (ld_glob I1 hg hm ?_ hdb)
  refine PySem.W.callWith_K0 I1.kIn T.T.kC ?_
  show wpAny _ _ (call (.ref C) []) _ _ _
  obtain ⟨hp, g, dr, tk, os⟩ := s
  have hsz : hp.objs.size ≤ hp.objs.size + 1 := Nat.le_succ _
  have kk : ∀ b o, hp.get? b = some o → ((hp.push (PySem.W.kdv_tup [])).push (PySem.HandSPX.excO C hp.objs.size)).get? b = some o := fun b o z => Heap.get?_push_of_some _ (Heap.get?_push_of_some _ z)
  have hget : ((hp.push (PySem.W.kdv_tup [])).push (PySem.HandSPX.excO C hp.objs.size)).get? (hp.objs.size + 1) = some (PySem.HandSPX.excO C hp.objs.size) := by heap_get
  have I2 := I1.laid (t' := tk) (a := hp.objs.size + 1) (o := exo (hp.objs.size + 1) C none) (h' := (hp.push (PySem.W.kdv_tup [])).push (PySem.HandSPX.excO C hp.objs.size)) kk hsz (exo_ok hget)
  have rv : Vals [V.ref (hp.objs.size + 1)] [Value.ref (hp.objs.size + 1)] := .cons rfl .nil
  have hq : spI0 C [.ref (hp.objs.size + 1)] (upd H1 (hp.objs.size + 1) (exo (hp.objs.size + 1) C none)) (fun z H2 => z = .non ∧ H2 = upd H1 (hp.objs.size + 1) (exo (hp.objs.size + 1) C none)) (fun _ _ _ => False) := ⟨_, rfl, upd_same, rfl, rfl⟩
  refine wpAny_call (PySem.HandSPX.call_own T.T.base.F (fun _ => rfl) (I1.kIn _ _ hC) (PySem.W.looks_findIn I1.kIn T.ini) (fun self => PySem.W.bind_fn I1.kIn self T.fn) (by show 0 ≤ sizeLine; decide)
    (codeAny_mono (F1.run _ X.stack _ _ ⟨[.ref (hp.objs.size + 1)], []⟩ [.ref (hp.objs.size + 1)] _ _ (fun _ _ _ => False) (hr.make C [] []) (I2.env0.make C [] []) (hb _ [.ref (hp.objs.size + 1)] I2.kIn rfl) rv hq) fun r s' hz => ?_))
  cases r with
  | error er =>
    obtain ⟨_, _, _, _, _, _, _, _, _, _, _, _, z⟩ := hz
    exact z.elim
  | ok fl =>
    cases fl with
    | ret w =>
      obtain ⟨z, H2, osE, bareE, unE, hokE, rz, ez, eH⟩ := hz
      subst ez
      subst eH
      obtain ⟨h2, g2, d2, t2, os'⟩ := s'
      exact ⟨rz, mk_none (raises_own T.T.exC T.T.tyC) I1 hsz kk unE hokE osE bareE q1⟩
    | next => exact hz.elim
    | brk => exact hz.elim
    | cont => exact hz.elim
end
/-! ### on data -/
def raiseS (C f : Str) (m : DM (List D)) : DS := thenS m fun ds => fun r s => match ds with
  | [d] => .exc C [(f, d)] r s
  | _ => .bad
def raise0S (C : Str) : DS := fun r s => .exc C [] r s
section
variable {X : Cx} {W : WX} {a : Expr} {f cc : Str} {p pos pos2 : Pos} {B newId initId : String} {bm : List Value} {fI : Addr} {k : Nat} {fd : FuncData} {mr : DM (List D)}
theorem s_raise1 (hc : X.calm = true) (tk : Takes X W) (T : ExcD X (He.ga X.K cc) B newId initId bm fI) (F1 : FnOk X.prog X.w X.K X.mg X.base (L2.CX X.prog X.w) k fI fd ["self", f] (spI1 (He.ga X.K cc) f)) (hr : Room (k + 1) X.A) (hb : Binds X.K fd ["self", f] []) (hg : Gl X cc) (hm : X.mg cc = some (.ref (He.ga X.K cc))) (ha : PA X [a] (tA X.K W mr))
    (hdb : (cc == ("__debug__" : Str)) = false := by decide) (he : starEach [a] X.env = (false, eval a X.env) :: starEach [] X.env := by rfl) : PS X (.Raise (some (.Call (.Name cc p) [a] [] pos)) none pos2) (tS X.K W (raiseS cc f mr)) :=
  PS.imp (ps_raise hc tk (pmkB1 T F1 hr hb hg hm ha hdb he)) fun E t H h => by
    obtain ⟨r, s, w, rfl, env, st, hp⟩ := h
    exact hp.bind env st fun vs ds s1 w1 e1 st1 r1 hp1 => by
      cases r1 with
      | nil => exact hp1.elim
      | @cons v d vs ds q r2 =>
        cases r2 with
        | cons _ _ => exact hp1.elim
        | nil =>
          refine ⟨v, rfl, fun dx ndx => ?_⟩
          have e2 := Wd.frz_ext st1 (o := .xd [(f, v)]) ndx
          exact hp1 t (some dx) (w1.frz dx (.xd [(f, v)])) e2 ((env.ext e1).ext e2) (Wd.frz_st st1 ndx) ⟨Wd.frz_z, _, Wd.frz_h, .cons (q.ext e2) .nil⟩
theorem s_raise0 (hc : X.calm = true) (tk : Takes X W) (T : ExcD X (He.ga X.K cc) B newId initId bm fI) (F1 : FnOk X.prog X.w X.K X.mg X.base (L2.CX X.prog X.w) k fI fd ["self"] (spI0 (He.ga X.K cc))) (hr : Room (k + 1) X.A) (hb : Binds X.K fd ["self"] []) (hg : Gl X cc) (hm : X.mg cc = some (.ref (He.ga X.K cc)))
    (hdb : (cc == ("__debug__" : Str)) = false := by decide) : PS X (.Raise (some (.Call (.Name cc p) [] [] pos)) none pos2) (tS X.K W (raise0S cc)) :=
  PS.imp (ps_raise hc tk (pmkB0 T F1 hr hb hg hm hdb)) fun E t H h => by
    obtain ⟨r, s, w, rfl, env, st, hp⟩ := h
    exact hp t none w (Ext.refl w) env st rfl
end
end Mp

set_option Elab.async false
set_option linter.all false
set_option maxRecDepth 100000
set_option maxHeartbeats 4000000
/-! Mp: built-in functions. -/
namespace Mp
open PySem PySem.Spec PyProof.Rows L2
/-! ### on data -/
def absD (ds : List D) (s : Sto) : Res D := match ds with
  | [.int i] => .ok (.int (if i < 0 then -i else i)) s
  | _ => .bad
def intD (ds : List D) (s : Sto) : Res D := match ds with
  | [.int i] => .ok (.int i) s
  | [.bl b] => .ok (.int (if b then 1 else 0)) s
  | _ => .bad
def strD (ds : List D) (s : Sto) : Res D := match ds with
  | [.int i] => if i.natAbs.log2 < 1920 then .ok (.str (toString i)) s else .bad
  | _ => .bad
def lenD (ds : List D) (s : Sto) : Res D := match ds with
  | [.str z] => if z.length ≤ sizeLine then .ok (.int (z.length : Nat)) s else .bad
  | [x] => (match seqOf s x with
    | some l => .ok (.int (l.length : Nat)) s
    | none => .bad)
  | _ => .bad
def listD (k : Bool) (ds : List D) (s : Sto) : Res D := match ds with
  | [x] => (match seqOf s x with
    | some l => newL k l s
    | none => .bad)
  | _ => .bad
def tupleD (ds : List D) (s : Sto) : Res D := match ds with
  | [x] => (match seqOf s x with
    | some l => .ok (.tup l) s
    | none => .bad)
  | _ => .bad
def bools : List D → Option (List Bool)
  | [] => some []
  | .bl b :: r => (bools r).map fun l => b :: l
  | _ => none
def intsOf : List D → Option (List Int)
  | [] => some []
  | .int b :: r => (intsOf r).map fun l => b :: l
  | _ => none
def allD (ds : List D) (s : Sto) : Res D := match ds with
  | [x] => (match (lstOf s x).bind bools with
    | some l => .ok (.bl (l.all id)) s
    | none => .bad)
  | _ => .bad
def anyD (ds : List D) (s : Sto) : Res D := match ds with
  | [x] => (match (lstOf s x).bind bools with
    | some l => .ok (.bl (l.any id)) s
    | none => .bad)
  | _ => .bad
def sumD (ds : List D) (s : Sto) : Res D := match ds with
  | [x] => (match (lstOf s x).bind intsOf with
    | some l => .ok (.int l.sum) s
    | none => .bad)
  | _ => .bad
inductive Tg where
  | bt (n : String) | own (C : Str)
def tagD (s : Sto) : D → Option Tg
  | .non => some (.bt "NoneType")
  | .bl _ => some (.bt "bool")
  | .int _ => some (.bt "int")
  | .str _ => some (.bt "str")
  | .tup _ => some (.bt "tuple")
  | .lst _ => some (.bt "list")
  | .dct _ => some (.bt "dict")
  | .ins C _ => some (.own C)
  | .cel n => (match s[n]? with
    | some (some (.lst _)) => some (.bt "list")
    | some (some (.dct _)) => some (.bt "dict")
    | some (some (.rod _)) => some (.bt "dict")
    | some (some (.ins C _)) => some (.own C)
    | _ => none)
  | _ => none
/-- which own classes are which: own of own, built-in of own (never), own of built-in -/
structure Isi where
  cs : List Str
  oo : List ((Str × Str) × Bool)
  bo : List Str
  ob : List ((Str × String) × Bool)
def isiT (it : Isi) : Tg → D → Option Bool
  | .bt a, .ty b => kitB a b
  | .bt _, .glo C => if C ∈ it.bo then some false else none
  | .own C, .glo E => if C ∈ it.cs then it.oo.lookup (C, E) else none
  | .own C, .ty b => if C ∈ it.cs then it.ob.lookup (C, b) else none
  | _, _ => none
def isiD (it : Isi) (ds : List D) (s : Sto) : Res D := match ds with
  | [x, c] => (match tagD s x with
    | some t => (match isiT it t c with
      | some b => .ok (.bl b) s
      | none => .bad)
    | none => .bad)
  | _ => .bad
/-! ### soundness -/
def VRC (K : Frag) (r : List V → Hp → VK → Prop) (f : DF) : Prop := ∀ w s xs ds Q E, StR K w s → Reps K w xs ds → Post K (Rep K) w E Q (f ds s) → r xs w.H Q
section
variable {X : Cx} {W : WX} {a : Expr} {es : List Expr} {pos p : Pos} {mr : DM (List D)} {x : Str} {f : DF} {r : List V → Hp → VK → Prop} {id T : String}
theorem e_callB (hc : CallR X (.builtin id) r) (hv : VRC X.K r f) (hg : Gl X x) (hm : X.mg x = none) (hb : bootBuiltins x = some (.builtin id)) (ha : PA X (a :: es) (tA X.K W mr)) (hn : x ≠ "__name__" := by decide) (hdb : (x == ("__debug__" : Str)) = false := by decide)
    (he : starEach (a :: es) X.env = (false, eval a X.env) :: starEach es X.env := by rfl) (hpl : (backTo pos (starEach es X.env)).any (·.1) = false := by rfl) : PE X (.Call (.Name x p) (a :: es) [] pos) (tE X.K W (argM f mr)) :=
  PE.imp (pe_callB hc hg hm hb ha hn hdb he hpl) fun t H Q h => by
    obtain ⟨r, s, w, rfl, env, st, hp⟩ := h
    exact hp.bind env st fun vs ds s1 w1 e1 st1 r1 hp1 => hv w1 s1 vs ds Q _ st1 r1 hp1
theorem e_callTy (hc : CallR X (.type T) r) (hv : VRC X.K r f) (hg : Gl X x) (hm : X.mg x = none) (hb : bootBuiltins x = some (.type T)) (ha : PA X (a :: es) (tA X.K W mr)) (hn : x ≠ "__name__" := by decide) (hdb : (x == ("__debug__" : Str)) = false := by decide)
    (he : starEach (a :: es) X.env = (false, eval a X.env) :: starEach es X.env := by rfl) (hpl : (backTo pos (starEach es X.env)).any (·.1) = false := by rfl) : PE X (.Call (.Name x p) (a :: es) [] pos) (tE X.K W (argM f mr)) :=
  PE.imp (pe_callTy hc hg hm hb ha hn hdb he hpl) fun t H Q h => by
    obtain ⟨r, s, w, rfl, env, st, hp⟩ := h
    exact hp.bind env st fun vs ds s1 w1 e1 st1 r1 hp1 => hv w1 s1 vs ds Q _ st1 r1 hp1
theorem v_abs : VRC X.K (fun xs H Q => ∃ i, xs = [.int i] ∧ Q (.int (if i < 0 then -i else i)) H) absD := fun w s xs ds Q E st rs hp => by
  unfold absD at hp
  split at hp
  · cases rs with | cons q r => cases q; cases r; exact ⟨_, rfl, hp.pure st (.int _)⟩
  · exact hp.elim
theorem v_int : VRC X.K (fun xs H Q => (∃ i, xs = [.int i] ∧ Q (.int i) H) ∨ ∃ k, xs = [.bl k] ∧ Q (.int (if k then 1 else 0)) H) intD := fun w s xs ds Q E st rs hp => by
  unfold intD at hp
  split at hp
  · cases rs with | cons q r => cases q; cases r; exact .inl ⟨_, rfl, hp.pure st (.int _)⟩
  · cases rs with | cons q r => cases q; cases r; exact .inr ⟨_, rfl, hp.pure st (.int _)⟩
  · exact hp.elim
theorem v_str : VRC X.K (fun xs H Q => ∃ i, xs = [.int i] ∧ i.natAbs.log2 < 1920 ∧ Q (.str (toString i)) H) strD := fun w s xs ds Q E st rs hp => by
  unfold strD at hp
  split at hp
  · cases rs with
    | cons q r =>
      cases q
      cases r
      split at hp
      · rename_i hl
        exact ⟨_, rfl, hl, hp.pure st (.str _)⟩
      · exact hp.elim
  · exact hp.elim
theorem v_len : VRC X.K (fun xs H Q => ∃ x n, xs = [x] ∧ LenV X.K x H n ∧ Q (.int (n : Nat)) H) lenD := fun w s xs ds Q E st rs hp => by
  unfold lenD at hp
  split at hp
  · cases rs with
    | cons q r =>
      cases q
      cases r
      split at hp
      · rename_i z hl
        exact ⟨_, _, rfl, ⟨hl, rfl⟩, hp.pure st (.int _)⟩
      · exact hp.elim
  · cases rs with
    | cons q r =>
      cases r
      split at hp
      · rename_i l el
        obtain ⟨p, vs, rfl, hq, rs⟩ := seqOf_ok st q el
        refine ⟨_, vs.length, rfl, ?_, by rw [rs.length]; exact hp.pure st (.int _)⟩
        rcases hq with hq | hq
        · exact .inl ⟨vs, hq, rfl⟩
        · exact .inr ⟨vs, hq, rfl⟩
      · exact hp.elim
  · exact hp.elim
theorem v_list {k : Bool} : VRC X.K (fun xs H Q => ∃ p ys, xs = [.ref p] ∧ (SqL X.K H p ys ∨ SqT X.K H p ys) ∧ ∀ l, H l = none → Q (.ref l) (upd H l (.lst ys))) (listD k) := fun w s xs ds Q E st rs hp => by
  unfold listD at hp
  split at hp
  · cases rs with
    | cons q r =>
      cases r
      split at hp
      · rename_i l el
        obtain ⟨p, vs, rfl, hq, rs⟩ := seqOf_ok st q el
        exact ⟨p, vs, rfl, hq, hp.newL st rs⟩
      · exact hp.elim
  · exact hp.elim
theorem v_tuple1 {w : Wd} {s : Sto} {v : V} {Q : VK} {E : XK} (st : StR X.K w s) : ∀ {d : D}, Rep X.K w v d → Post X.K (Rep X.K) w E Q (match seqOf s d with | some l => .ok (.tup l) s | none => .bad) →
    ∃ p ys, [v] = [V.ref p] ∧ ((SqL X.K w.H p ys ∧ ∀ l, w.H l = none → Q (.ref l) (upd w.H l (.tup ys))) ∨ (SqT X.K w.H p ys ∧ Q (.ref p) w.H)) := fun {d} q hp => by
  have key : ∀ l, lstOf s d = some l → Post X.K (Rep X.K) w E Q (.ok (.tup l) s) → ∃ p ys, [v] = [V.ref p] ∧ ((SqL X.K w.H p ys ∧ ∀ l, w.H l = none → Q (.ref l) (upd w.H l (.tup ys))) ∨ (SqT X.K w.H p ys ∧ Q (.ref p) w.H)) := fun l el hp => by
    obtain ⟨p, vs, rfl, hq, rs⟩ := lstOf_ok st q el
    exact ⟨p, vs, rfl, .inl ⟨hq, hp.frz st fun p np => rep_newT st rs np⟩⟩
  cases d with
  | tup l =>
    cases q with
    | tup hh rs => exact ⟨_, _, rfl, .inr ⟨hh.sq, hp.pure st (.tup hh rs)⟩⟩
  | _ =>
    split at hp
    · rename_i l el
      exact key l el hp
    · exact hp.elim
theorem v_tuple : VRC X.K (fun xs H Q => ∃ p ys, xs = [.ref p] ∧ ((SqL X.K H p ys ∧ ∀ l, H l = none → Q (.ref l) (upd H l (.tup ys))) ∨ (SqT X.K H p ys ∧ Q (.ref p) H))) tupleD := fun w s xs ds Q E st rs hp => by
  unfold tupleD at hp
  split at hp
  · cases rs with
    | cons q r =>
      cases r
      exact v_tuple1 st q hp
  · exact hp.elim
theorem bools_ok {K : Frag} {w : Wd} : ∀ {ds : List D} {vs : List V} {l : List Bool}, Reps K w vs ds → bools ds = some l → vs = l.map V.bl
  | [], _, _, h, e => by
    cases h
    cases e
    rfl
  | d :: r, _, _, h, e => by
    cases h with
    | cons h1 h2 =>
      cases d with
      | bl b =>
        cases h1
        have e' : (bools r).map (fun l => b :: l) = some _ := e
        cases q : bools r with
        | none => rw [q] at e'; cases e'
        | some l2 =>
          rw [q] at e'
          cases e'
          rw [bools_ok h2 q]
          rfl
      | _ => cases e
theorem intsOf_ok {K : Frag} {w : Wd} : ∀ {ds : List D} {vs : List V} {l : List Int}, Reps K w vs ds → intsOf ds = some l → vs = l.map V.int
  | [], _, _, h, e => by
    cases h
    cases e
    rfl
  | d :: r, _, _, h, e => by
    cases h with
    | cons h1 h2 =>
      cases d with
      | int b =>
        cases h1
        have e' : (intsOf r).map (fun l => b :: l) = some _ := e
        cases q : intsOf r with
        | none => rw [q] at e'; cases e'
        | some l2 =>
          rw [q] at e'
          cases e'
          rw [intsOf_ok h2 q]
          rfl
      | _ => cases e
theorem v_all : VRC X.K (rAll X.K) allD := fun w s xs ds Q E st rs hp => by
  unfold allD at hp
  split at hp
  · cases rs with
    | cons q r =>
      cases r
      split at hp
      · rename_i l el
        obtain ⟨l1, e1, e2⟩ := Option.bind_eq_some_iff.mp el
        obtain ⟨p, vs, rfl, hq, rs⟩ := lstOf_ok st q e1
        have ev := bools_ok rs e2
        subst ev
        exact ⟨p, l, rfl, hq, hp.pure st (.bl _)⟩
      · exact hp.elim
  · exact hp.elim
theorem v_any : VRC X.K (rAny X.K) anyD := fun w s xs ds Q E st rs hp => by
  unfold anyD at hp
  split at hp
  · cases rs with
    | cons q r =>
      cases r
      split at hp
      · rename_i l el
        obtain ⟨l1, e1, e2⟩ := Option.bind_eq_some_iff.mp el
        obtain ⟨p, vs, rfl, hq, rs⟩ := lstOf_ok st q e1
        have ev := bools_ok rs e2
        subst ev
        exact ⟨p, l, rfl, hq, hp.pure st (.bl _)⟩
      · exact hp.elim
  · exact hp.elim
theorem v_sum : VRC X.K (rSum X.K) sumD := fun w s xs ds Q E st rs hp => by
  unfold sumD at hp
  split at hp
  · cases rs with
    | cons q r =>
      cases r
      split at hp
      · rename_i l el
        obtain ⟨l1, e1, e2⟩ := Option.bind_eq_some_iff.mp el
        obtain ⟨p, vs, rfl, hq, rs⟩ := lstOf_ok st q e1
        have ev := intsOf_ok rs e2
        subst ev
        exact ⟨p, l, rfl, hq, hp.pure st (.int _)⟩
      · exact hp.elim
  · exact hp.elim
/-! isinstance -/
structure TyC (K : Frag) (C : Addr) : Prop where
  cl : Cls K C
  ha : PySem.W.findIn K (.ref C) "__class__" = some (some (.builtin "object.__class__"))
  hn : PySem.W.specialIn K (.builtin "object.__class__") "__get__" = some (some (.builtin "getset_descriptor.__get__"))
  htk : PySem.W.takesIn K (.builtin "object.__class__") = some true
  hm : PySem.W.mroIn K C (.type "object") = some true
abbrev tyNames : List String := ["NoneType", "bool", "int", "str", "list", "tuple", "dict"]
structure IsiOk (K : Frag) (it : Isi) : Prop where
  cs : ∀ C ∈ it.cs, TyC K (He.ga K C)
  oo : ∀ q ∈ it.oo, PySem.W.kitOne K (.ref (He.ga K q.1.1)) (.ref (He.ga K q.1.2)) = some q.2
  bo : ∀ C ∈ it.bo, ∀ n ∈ tyNames, PySem.W.kitOne K (.type n) (.ref (He.ga K C)) = some false
  ob : ∀ q ∈ it.ob, PySem.W.kitOne K (.ref (He.ga K q.1.1)) (.type q.1.2) = some q.2
def TgOk (K : Frag) (w : Wd) (v : V) : Tg → Prop
  | .bt n => TyX K w.H v (.type n) ∧ n ∈ tyNames
  | .own C => ∃ a dx fs, v = .ref a ∧ w.H a = some (.ins (He.ga K C) dx fs)
theorem tag_ok {K : Frag} {w : Wd} {s : Sto} {v : V} {d : D} {t : Tg} (st : StR K w s) (r : Rep K w v d) (h : tagD s d = some t) : TgOk K w v t := by
  cases r with
  | non => cases h; exact ⟨.base .non, by simp⟩
  | bl b => cases h; exact ⟨.base (.bl b), by simp⟩
  | int i => cases h; exact ⟨.base (.int i), by simp⟩
  | str z => cases h; exact ⟨.base (.str z), by simp⟩
  | tup hh rs =>
    cases h
    refine ⟨?_, by simp⟩
    rcases hh with ⟨_, hh | ⟨o, hh⟩⟩ | ⟨o, its, n, hk, hc, _⟩
    · exact .base (.tup hh)
    · exact .fTuple hh
    · exact .kTuple hk hc
  | lst z hh rs => cases h; exact ⟨.base (.lst hh), by simp⟩
  | dct z hh hl rs => cases h; exact ⟨.fDict hh, by simp⟩
  | ins z hh hl rs => cases h; exact ⟨_, _, _, rfl, hh⟩
  | @cel n a0 hA =>
    unfold tagD at h
    dsimp only at h
    cases e : s[n]? with
    | none => rw [e] at h; cases h
    | some oc =>
      cases oc with
      | none => rw [e] at h; cases h
      | some ct =>
        rw [e] at h
        cases ct with
        | lst l =>
          cases h
          obtain ⟨a1, h1, _, vs, hh, rs⟩ := st.at_ n _ e
          have ea : a1 = a0 := Option.some.inj (h1.symm.trans hA)
          subst ea
          exact ⟨.base (.lst hh), by simp⟩
        | dct l =>
          cases h
          obtain ⟨a1, h1, _, vs, hh, rs⟩ := st.at_ n _ e
          have ea : a1 = a0 := Option.some.inj (h1.symm.trans hA)
          subst ea
          exact ⟨.base (.dK hh), by simp⟩
        | rod l =>
          cases h
          obtain ⟨a1, h1, _, o, vs, _, hh, rs⟩ := st.at_ n _ e
          have ea : a1 = a0 := Option.some.inj (h1.symm.trans hA)
          subst ea
          exact ⟨.fDict hh, by simp⟩
        | ins C l =>
          cases h
          obtain ⟨a1, h1, _, dx, vs, hh, rs⟩ := st.at_ n _ e
          have ea : a1 = a0 := Option.some.inj (h1.symm.trans hA)
          subst ea
          exact ⟨_, _, _, rfl, hh⟩
        | tab x => cases h
  | _ => cases h
theorem look_mem {T : Type} [BEq T] [LawfulBEq T] {k : T} {b : Bool} : ∀ {l : List (T × Bool)}, l.lookup k = some b → (k, b) ∈ l
  | [], h => by cases h
  | (k2, b2) :: l, h => by
    rw [List.lookup_cons] at h
    split at h
    · rename_i hk
      have e1 := eq_of_beq hk
      cases h
      rw [e1]
      exact List.mem_cons_self
    · exact List.mem_cons_of_mem _ (look_mem h)
theorem v_isi {it : Isi} (O : IsiOk X.K it) : VRC X.K (rIsi X.K) (isiD it) := fun w s xs ds Q E st rs hp => by
  unfold isiD at hp
  split at hp
  · cases rs with
    | cons q r =>
      cases r with
      | cons q2 r =>
        cases r
        split at hp
        · rename_i t et
          have h1 := tag_ok st q et
          split at hp
          · rename_i b eb
            cases t with
            | bt n =>
              cases q2 with
              | ty m => exact ⟨_, _, _, _, b, rfl, .ty m, h1.1, kit_ty eb, hp.pure st (.bl _)⟩
              | glo C =>
                have eb' : (if C ∈ it.bo then some false else none) = some b := eb
                split at eb'
                · rename_i hc
                  cases eb'
                  exact ⟨_, _, _, _, false, rfl, .own _, h1.1, O.bo C hc n h1.2, hp.pure st (.bl _)⟩
                · cases eb'
              | _ => cases eb
            | own C =>
              obtain ⟨a, dx, fs, rfl, hh⟩ := h1
              cases q2 with
              | ty m =>
                have eb' : (if C ∈ it.cs then it.ob.lookup (C, m) else none) = some b := eb
                split at eb'
                · rename_i hc
                  obtain ⟨c1, c2, c3, c4, c5⟩ := O.cs C hc
                  exact ⟨_, _, _, _, b, rfl, .ty m, .base (.ins hh c1 c2 c3 c4 c5), O.ob _ (look_mem (k := (C, m)) eb'), hp.pure st (.bl _)⟩
                · cases eb'
              | glo E =>
                have eb' : (if C ∈ it.cs then it.oo.lookup (C, E) else none) = some b := eb
                split at eb'
                · rename_i hc
                  obtain ⟨c1, c2, c3, c4, c5⟩ := O.cs C hc
                  exact ⟨_, _, _, _, b, rfl, .own _, .base (.ins hh c1 c2 c3 c4 c5), O.oo _ (look_mem (k := (C, E)) eb'), hp.pure st (.bl _)⟩
                · cases eb'
              | _ => cases eb
          · exact hp.elim
        · exact hp.elim
  · exact hp.elim
end
end Mp

set_option Elab.async false
set_option linter.all false
set_option maxRecDepth 100000
set_option maxHeartbeats 4000000
/-! Mp: dicts, stores by key or place, x op= e, append. -/
namespace Mp
open PySem PySem.Spec PyProof.Rows L2
/-! ### on data -/
def putA {T U : Type} [DecidableEq T] (l : List (T × U)) (k : T) (v : U) : List (T × U) := if (l.any fun p => decide (p.1 = k)) = true then l.map (fun p => if p.1 = k then (p.1, v) else p) else l ++ [(k, v)]
def mergeA {T U : Type} [DecidableEq T] (l more : List (T × U)) : List (T × U) := more.foldl (fun acc p => putA acc p.1 p.2) l
def pairsM : List (DE × DE) → DM (List (D × D))
  | [] => pureM []
  | (k, v) :: r => bindM k fun x => bindM v fun y => bindM (pairsM r) fun l => pureM ((x, y) :: l)
def keyed : List (D × D) → Option (List (Key × D))
  | [] => some []
  | (k, v) :: r => (keyD k).bind fun x => (keyed r).map fun l => (x, v) :: l
/-- {k: v, ..}, a new cell -/
def dispM (l : List (DE × DE)) : DE := bindM (pairsM l) fun ps => fun _ s => match keyed ps with
  | some kvs => if kvs.length ≤ 15 then .ok (.cel s.length) (s ++ [some (.dct (mergeA [] kvs))]) else .bad
  | none => .bad
/-- o[k] = v: a cell's dict or list -/
def putI (o k v : D) (s : Sto) : Option Sto := match o with
  | .cel n => (match s[n]? with
    | some (some (.dct m)) => (match keyD k with
      | some q => if m.length < sizeLine then some (s.set n (some (.dct (putA m q v)))) else none
      | none => none)
    | some (some (.lst l)) => (match k with
      | .int i => (match ixN l.length i with
        | some j => some (s.set n (some (.lst (l.set j v))))
        | none => none)
      | _ => none)
    | _ => none)
  | _ => none
def subS (o k v : DE) : DS := thenS v fun y => thenS o fun x => thenS k fun z => fun r s => match putI x z y s with
  | some s' => .nx r s'
  | none => .bad
/-- xs.append(e) on a cell -/
def appD (x : D) (ds : List D) (s : Sto) : Res D := match x with
  | .cel n => (match s[n]? with
    | some (some (.lst l)) => (match ds with
      | [d] => if l.length < sizeLine then .ok .non (s.set n (some (.lst (l ++ [d])))) else .bad
      | _ => .bad)
    | _ => .bad)
  | _ => .bad
def bmM (f : D → List D → Sto → Res D) (o : DE) (a : DM (List D)) : DE := bindM o fun x => bindM a fun ds => fun _ s => f x ds s
/-! ### soundness -/
section
variable {K : Frag} {w : Wd}
theorem KVR.any {T : Type} [DecidableEq T] {k : T} : ∀ {l : List (T × V)} {m : List (T × D)}, KVR K w l m → (l.any fun p => decide (p.1 = k)) = (m.any fun p => decide (p.1 = k))
  | _, _, .nil => rfl
  | _, _, .cons h r => by
    rw [List.any_cons, List.any_cons, r.any]
theorem KVR.mapP {T : Type} [DecidableEq T] {k : T} {y : V} {d : D} (q : Rep K w y d) : ∀ {l : List (T × V)} {m : List (T × D)}, KVR K w l m → KVR K w (l.map fun p => if p.1 = k then (p.1, y) else p) (m.map fun p => if p.1 = k then (p.1, d) else p)
  | _, _, .nil => .nil
  | _, _, .cons (k := j) h r => by
    rw [List.map_cons, List.map_cons]
    by_cases e : j = k
    · rw [if_pos e, if_pos e]
      exact .cons q (r.mapP q)
    · rw [if_neg e, if_neg e]
      exact .cons h (r.mapP q)
theorem KVR.app {T : Type} : ∀ {l l2 : List (T × V)} {m m2 : List (T × D)}, KVR K w l m → KVR K w l2 m2 → KVR K w (l ++ l2) (m ++ m2)
  | _, _, _, _, .nil, r => r
  | _, _, _, _, .cons h t, r => .cons h (t.app r)
theorem KVR.putK {T : Type} [DecidableEq T] {k : T} {y : V} {d : D} (q : Rep K w y d) {l : List (T × V)} {m : List (T × D)} (r : KVR K w l m) : KVR K w (L2.putK l k y) (putA m k d) := by
  unfold L2.putK putA
  rw [r.any]
  by_cases e : (m.any fun p => decide (p.1 = k)) = true
  · rw [if_pos e, if_pos e]
    exact r.mapP q
  · rw [if_neg e, if_neg e]
    exact r.app (.cons q .nil)
theorem KVR.merge : ∀ {l2 : List (Key × V)} {m2 : List (Key × D)} {l : List (Key × V)} {m : List (Key × D)}, KVR K w l m → KVR K w l2 m2 → KVR K w (mergeK l l2) (mergeA m m2)
  | _, _, _, _, r, .nil => r
  | _, _, _, _, r, .cons h t => (r.putK h).merge t
inductive RPs (K : Frag) (w : Wd) : List (V × V) → List (D × D) → Prop
  | nil : RPs K w [] []
  | cons {x y : V} {a b : D} {l : List (V × V)} {m : List (D × D)} : Rep K w x a → Rep K w y b → RPs K w l m → RPs K w ((x, y) :: l) ((a, b) :: m)
theorem RPs.ext {w' : Wd} (e : Ext w w') : ∀ {l : List (V × V)} {m : List (D × D)}, RPs K w l m → RPs K w' l m
  | _, _, .nil => .nil
  | _, _, .cons h k r => .cons (h.ext e) (k.ext e) (r.ext e)
theorem keyed_ok : ∀ {l : List (V × V)} {m : List (D × D)} {kvs : List (Key × D)}, RPs K w l m → keyed m = some kvs → ∃ kv : List (Key × V), l = kv.map (fun p => (kV p.1, p.2)) ∧ KVR K w kv kvs
  | _, _, _, .nil, h => by
    cases h
    exact ⟨[], rfl, .nil⟩
  | _, _, _, .cons (a := a) (b := b) (m := m) h k r, e => by
    have e' : ((keyD a).bind fun x => (keyed m).map fun l => (x, b) :: l) = some _ := e
    cases q1 : keyD a with
    | none => rw [q1] at e'; cases e'
    | some z =>
      cases q2 : keyed m with
      | none => rw [q1, q2] at e'; cases e'
      | some kvs2 =>
        rw [q1, q2] at e'
        cases e'
        obtain ⟨kv, rfl, hr⟩ := keyed_ok r q2
        exact ⟨(z, _) :: kv, by rw [keyD_ok h q1]; rfl, .cons k hr⟩
end
theorem pairs_imp {K : Frag} {W : WX} {r : En} {t : L2.St} : ∀ {l : List (DE × DE)} {w : Wd} {s : Sto} {Q : List (V × V) → Hp → Prop}, EnvR K w r t → StR K w s → Post K (RPs K) w (fun c d H' => W c d t H') Q (pairsM l r s) → tPairs (l.map fun p => (tE K W p.1, tE K W p.2)) t w.H Q
  | [], w, s, Q, env, st, hp => hp.pure st .nil
  | (k, v) :: l, w, s, Q, env, st, hp => hp.bind env st fun x d s1 w1 e1 st1 r1 hp1 => hp1.bind (env.ext e1) st1 fun y d2 s2 w2 e2 st2 r2 hp2 => by
    refine pairs_imp ((env.ext e1).ext e2) st2 ?_
    unfold bindM at hp2
    cases e : pairsM l r s2 with
    | ok ps s3 =>
      rw [e] at hp2
      exact fun z w3 e3 st3 r3 => hp2 _ w3 e3 st3 (.cons ((r1.ext e2).ext e3) (r2.ext e3) r3)
    | exc C fs s3 => rw [e] at hp2; exact hp2
    | bad => rw [e] at hp2; exact hp2
/-- the pinned thing becomes a cell -/
theorem unpin_cell {K : Frag} {w0 w : Wd} {s : Sto} {p : Addr} {ct : Ct} (e : Ext w0 w) (st : StR K w s) (h1 : ¬ w0.P p) (hP : w.P p) (hc : CtR K w p ct) :
    ∃ w2 : Wd, w2.H = w.H ∧ Ext w0 w2 ∧ StR K w2 (s ++ [some ct]) ∧ Rep K w2 (.ref p) (.cel s.length) := by
  have nz := (st.pz p hP).1
  let w2 : Wd := ⟨fun m => if m = s.length then some p else w.A m, w.Z, fun a => w.P a ∧ a ≠ p, w.H⟩
  have hA : ∀ m a, w.A m = some a → w2.A m = some a := fun m a q => by
    have ne : ¬ m = s.length := fun z => by
      rw [st.new m (by omega)] at q
      exact nomatch q
    show (if m = s.length then some p else w.A m) = some a
    rw [if_neg ne]
    exact q
  have e0 : Ex0 w w2 := ⟨hA, fun _ h => h, fun _ _ => rfl⟩
  have at' : ∀ m c, (s ++ [some ct])[m]? = some (some c) → (m < s.length ∧ s[m]? = some (some c)) ∨ (m = s.length ∧ c = ct) := fun m c q => by
    by_cases hm : m < s.length
    · rw [List.getElem?_append_left hm] at q
      exact .inl ⟨hm, q⟩
    · rw [List.getElem?_append_right (by omega)] at q
      by_cases h0 : m - s.length = 0
      · rw [h0] at q
        exact .inr ⟨by omega, by simpa using q.symm⟩
      · rw [List.getElem?_eq_none (by simp; omega)] at q
        cases q
  have AtN : w2.A s.length = some p := if_pos rfl
  have AtO : ∀ m, m < s.length → w2.A m = w.A m := fun m hm => if_neg (by omega)
  have npo : ∀ m c a, s[m]? = some (some c) → w.A m = some a → a ≠ p := fun m c a q ha z => st.np m c a q ha (z ▸ hP)
  refine ⟨w2, rfl, ⟨⟨fun n a q => hA n a (e.A n a q), e.Z, e.H⟩, fun a z => ⟨e.P a z, fun q => h1 (q ▸ z)⟩, e.HP⟩, ⟨fun m c q => ?_, fun m c a q ha z => ?_, fun a z => st.pz a z.1, fun m k b x y qm qk hm hk => ?_, st.fz, fun m hm => ?_⟩, .cel AtN⟩
  · rcases at' m c q with ⟨hm, q⟩ | ⟨rfl, rfl⟩
    · obtain ⟨a, k1, k2, k3⟩ := st.at_ m c q
      exact ⟨a, hA m a k1, k2, k3.sam0 e0 rfl⟩
    · exact ⟨p, AtN, NZ.of nz, hc.sam0 e0 rfl⟩
  · rcases at' m c q with ⟨hm, q⟩ | ⟨rfl, rfl⟩
    · rw [AtO m hm] at ha
      exact st.np m c a q ha z.1
    · rw [AtN] at ha
      cases ha
      exact z.2 rfl
  · rcases at' m x qm with ⟨lm, qm'⟩ | ⟨rfl, rfl⟩
    · rcases at' k y qk with ⟨lk, qk'⟩ | ⟨rfl, rfl⟩
      · rw [AtO m lm] at hm
        rw [AtO k lk] at hk
        exact st.inj m k b x y qm' qk' hm hk
      · rw [AtO m lm] at hm
        rw [AtN] at hk
        cases hk
        exact absurd rfl (npo m x _ qm' hm)
    · rcases at' k y qk with ⟨lk, qk'⟩ | ⟨rfl, rfl⟩
      · rw [AtO k lk] at hk
        rw [AtN] at hm
        cases hm
        exact absurd rfl (npo k y _ qk' hk)
      · rfl
  · rw [List.length_append] at hm
    have hm' : s.length + 1 ≤ m := hm
    show (if m = s.length then some p else w.A m) = none
    rw [if_neg (by omega)]
    exact st.new m (by omega)
section
variable {X : Cx} {W : WX} {a b o : Expr} {es : List Expr} {pos pos' p apos : Pos} {ma mb mo : DE} {mr : DM (List D)}
theorem pp_nil : PPs X pos [] [] (([] : List (DE × DE)).map fun p => (tE X.K W p.1, tE X.K W p.2)) := pps_nil
theorem pp_cons {ks : List (Option Expr)} {vs : List Expr} {l : List (DE × DE)} (hk : PE X a (tE X.K W ma)) (hv : PE X b (tE X.K W mb)) (hr : PPs X pos ks vs (l.map fun p => (tE X.K W p.1, tE X.K W p.2))) : PPs X pos (some a :: ks) (b :: vs) (((ma, mb) :: l).map fun p => (tE X.K W p.1, tE X.K W p.2)) := pps_cons hk hv hr
theorem e_disp {ks : List (Option Expr)} {vs : List Expr} {l : List (DE × DE)} (h : PPs X pos ks vs (l.map fun p => (tE X.K W p.1, tE X.K W p.2))) (hall : ks.all (·.isSome) = true := by rfl) (hl : ks.length = vs.length := by rfl) (h0 : ks ≠ [] := by exact fun z => nomatch z) (h15 : ks.length ≤ 15 := by decide) :
    PE X (.Dict ks vs pos) (tE X.K W (dispM l)) := PE.imp (pe_disp h hall hl h0 h15) fun t H Q h => by
  obtain ⟨r, s, w, rfl, env, st, hp⟩ := h
  intro q nq
  have hP : ¬ w.P q := fun z => (st.pz q z).2 nq
  have hz : ¬ w.Z q := fun z => st.fz q z nq
  have e1 := Wd.pin_ext (o := .dK []) st nq
  refine pairs_imp (w := w.pin q (.dK [])) (env.ext e1) (Wd.pin_st st nq) ?_
  unfold dispM bindM at hp
  cases e : pairsM l r s with
  | exc C fs s3 => rw [e] at hp; exact Post.ext e1 hp
  | bad => rw [e] at hp; exact hp
  | ok ps s3 =>
    rw [e] at hp
    dsimp only at hp
    intro vs2 w3 e3 st3 r3
    have P3 : w3.P q := e3.P q (.inr rfl)
    have H3 : w3.H q = some (.dK []) := (e3.HP q (.inr rfl)).trans upd_same
    refine ⟨H3, ?_⟩
    cases ek : keyed ps with
    | none => rw [ek] at hp; exact hp.elim
    | some kvs =>
      rw [ek] at hp
      dsimp only at hp
      obtain ⟨kv, rfl, hr⟩ := keyed_ok r3 ek
      by_cases hl : kvs.length ≤ 15
      · rw [if_pos hl] at hp
        refine ⟨kv, rfl, by rw [hr.length]; exact hl, ?_⟩
        have x4 := Wd.turn_ext (o := .dK (mergeK [] kv)) (e1.trans e3) hz hP
        have st4 := Wd.turn_st (o := .dK (mergeK [] kv)) st3 P3
        have e0 := Wd.turn_ex0 (o := .dK (mergeK [] kv)) st3 P3
        obtain ⟨w5, h5, x5, st5, r5⟩ := unpin_cell (ct := .dct (mergeA [] kvs)) x4 st4 hP P3 ⟨mergeK [] kv, upd_same, KVR.merge .nil (hr.ex0 e0)⟩
        have z := hp (.ref q) w5 x5 st5 r5
        rw [h5] at z
        exact z
      · rw [if_neg hl] at hp
        exact hp.elim
/-! stores -/
theorem set_dict (hu : X.A.units + 1 < cLine) : PSet X (fun o i v H Q => ∃ a H', o = .ref a ∧ DPut H a i v H' ∧ Q H') := fun pins s t H o i v ov iv u Q I ro ri rv h => by
  obtain ⟨q, H', rfl, g, k⟩ := h
  obtain rfl : ov = Value.ref q := ro
  exact d_setItem hu I g ri rv fun s3 I3 => ⟨H', I3, k⟩
theorem PSet.or {t t' : TSet} (h : PSet X t) (h' : PSet X t') : PSet X (fun o i v H Q => t o i v H Q ∨ t' o i v H Q) := fun pins s σ H o i v ov iv u Q I ro ri rv q => q.elim (h pins s σ H o i v ov iv u Q I ro ri rv) (h' pins s σ H o i v ov iv u Q I ro ri rv)
theorem putI_ok {w : Wd} {s s' : Sto} {x z y : V} {dx dz dy : D} {Q : Hp → Prop} (st : StR X.K w s) (rx : Rep X.K w x dx) (rz : Rep X.K w z dz) (ry : Rep X.K w y dy) (h : putI dx dz dy s = some s') (k : ∀ w', Ext w w' → StR X.K w' s' → Q w'.H) :
    (∃ a H', x = .ref a ∧ DPut w.H a z y H' ∧ Q H') ∨ (∃ p xs i j, x = V.ref p ∧ z = .int i ∧ w.H p = some (.lst xs) ∧ ixN xs.length i = some j ∧ Q (upd w.H p (.lst (xs.set j y)))) := by
  cases rx with
  | @cel n a0 hA =>
    unfold putI at h
    dsimp only at h
    cases e : s[n]? with
    | none => rw [e] at h; cases h
    | some oc =>
      cases oc with
      | none => rw [e] at h; cases h
      | some ct =>
        rw [e] at h
        obtain ⟨a1, h1, hz, hc⟩ := st.at_ n _ e
        have ea : a1 = a0 := Option.some.inj (h1.symm.trans hA)
        subst ea
        have hP := st.np n _ a1 e h1
        cases ct with
        | dct m =>
          dsimp only at h
          obtain ⟨l, hh, kv⟩ := hc
          cases ek : keyD dz with
          | none => rw [ek] at h; cases h
          | some q =>
            rw [ek] at h
            dsimp only at h
            split at h
            · rename_i hl
              cases h
              have e3 : Ext w (w.put a1 (.dK (L2.putK l q y))) := Wd.mut_ext hz hP
              refine .inl ⟨a1, _, rfl, .inl ⟨l, q, hh, keyD_ok rz ek, by rw [kv.length]; exact hl, rfl⟩, ?_⟩
              exact k (w.put a1 (.dK (L2.putK l q y))) e3 (Wd.mut_st st e h1 hz ⟨_, upd_same, (kv.ext e3).putK (ry.ext e3)⟩)
            · cases h
        | lst l =>
          dsimp only at h
          obtain ⟨vs, hh, rs⟩ := hc
          cases rz with
          | int i =>
            dsimp only at h
            cases ei : ixN l.length i with
            | none => rw [ei] at h; cases h
            | some j =>
              rw [ei] at h
              cases h
              have e3 : Ext w (w.put a1 (.lst (vs.set j y))) := Wd.mut_ext hz hP
              refine .inr ⟨a1, vs, i, j, rfl, rfl, hh, by rw [rs.length]; exact ei, ?_⟩
              exact k (w.put a1 (.lst (vs.set j y))) e3 (Wd.mut_st st e h1 hz ⟨_, upd_same, (rs.ext e3).set (ry.ext e3) j⟩)
          | _ => cases h
        | ins C l => cases h
        | rod l => cases h
        | tab x => cases h
  | _ => cases h
theorem s_sub {mk : DE} (hu : X.A.units + 1 < cLine) (ho : PE X o (tE X.K W mo)) (hk : PE X b (tE X.K W mk)) (hv : PE X a (tE X.K W ma)) (hs : swapsWithSole [.Subscript o b p] a pos.line X.env = pure false := by rfl) (hw : swappedStores [.Subscript o b p] a X.env = pure none := by rfl)
    (h1 : (assignEach [.Subscript o b p] X.env).map (·.2) = [assign (.Subscript o b p) X.env] := by rfl)
    (hA : ∀ v, assign (.Subscript o b p) X.env v = (holding [v] (eval o X.env) >>= fun ov => holding [v, ov] (eval b X.env) >>= fun iv => standAt p >>= fun _ => holding [v, ov, iv] (setItem ov iv v) >>= fun _ => release [v, ov, iv] []) := by intro _; rfl) :
    PS X (.Assign [.Subscript o b p] a pos) (tS X.K W (subS mo mk ma)) := PS.imp (ps_asg hv (pg_sub ho hk (PSet.or (set_dict hu) set_list) hA) hs hw h1) fun E t H h => by
  obtain ⟨r, s, w, rfl, env, st, hp⟩ := h
  exact hp.bind env st fun y dy s1 w1 e1 st1 r1 hp1 => hp1.bind (env.ext e1) st1 fun x dx s2 w2 e2 st2 r2 hp2 => hp2.bind ((env.ext e1).ext e2) st2 fun z dz s3 w3 e3 st3 r3 hp3 => by
    cases e : putI dx dz dy s3 with
    | none => rw [e] at hp3; exact hp3.elim
    | some s4 =>
      rw [e] at hp3
      have q := putI_ok (Q := fun H3 => E.nx t H3) st3 (r2.ext e3) r3 ((r1.ext e2).ext e3) e fun w4 e4 st4 => hp3 t w4 e4 ((((env.ext e1).ext e2).ext e3).ext e4) st4
      rcases q with q | q
      · exact .inl q
      · obtain ⟨p1, xs, i, j, h1, h2, h3, h4, h5⟩ := q
        exact .inr ⟨p1, xs, i, j, h1, h2, h3, h4, h5⟩
/-! x op= e -/
theorem ip_mul : PIp X .Mult (fun x y H Q => ∃ i j, x = .int i ∧ y = .int j ∧ CMulW i j ∧ Q (.int (i * j)) H) := fun pins s t H x y v u Q I r1 r2 h => by
  obtain ⟨i, j, rfl, rfl, hc, q⟩ := h
  obtain ⟨t1, rfl⟩ := r1
  obtain ⟨t2, rfl⟩ := r2
  exact PyProof.Rows.imul_int ⟨.int _, H, I.tok _, ⟨_, rfl⟩, q⟩ hc.ok
theorem s_augG {op : Operator} {ti : TIp} {f : D → D → Sto → Res D} {i : Nat} {x : Str} (ho : PIp X op ti) (hvr : ∀ w s x y a b Q E, StR X.K w s → Rep X.K w x a → Rep X.K w y b → Post X.K (Rep X.K) w E Q (f a b s) → ti x y w.H Q)
    (hN : X.N.Nodup) (hi : X.N[i]? = some x) (hx : Loc X.env.scope x) (he : PE X a (tE X.K W ma)) (hf : X.fn x = true ∨ X.env.scope.names.lookup x = some .local := by first | exact .inl rfl | exact .inr rfl | assumption) :
    PS X (.AugAssign (.Name x pos') op a pos) (tS X.K W (augS i f ma)) := PS.imp (ps_aug hN hi hx he ho hf) fun E t H h => by
  obtain ⟨r, s, w, rfl, env, st, hp⟩ := h
  have hp' : PostS X.K w W E (thenS (vM i) (fun x0 => thenS ma fun y0 => fun r s => match f x0 y0 s with
    | .ok d s' => .nx (r.set i (some d)) s'
    | .exc C fs s' => .exc C fs r s'
    | .bad => .bad) r s) := by
    have e : augS i f ma r s = thenS (vM i) (fun x0 => thenS ma fun y0 => fun r s => match f x0 y0 s with
      | .ok d s' => .nx (r.set i (some d)) s'
      | .exc C fs s' => .exc C fs r s'
      | .bad => .bad) r s := by
      unfold augS thenS binM bindM
      cases vM i r s with
      | ok d s1 =>
        dsimp only
        cases ma r s1 with
        | ok d2 s2 =>
          dsimp only
          cases f d d2 s2 <;> rfl
        | _ => rfl
      | _ => rfl
    rw [← e]
    exact hp
  unfold thenS vM at hp'
  cases e : r[i]? with
  | none => rw [e] at hp'; exact hp'.elim
  | some od =>
    cases od with
    | none => rw [e] at hp'; exact hp'.elim
    | some d =>
      rw [e] at hp'
      obtain ⟨v, h1, h2⟩ := env.2 i d e
      refine ⟨v, h1, ?_⟩
      have hp2 : PostS X.K w W E (thenS ma (fun y0 => fun r s => match f d y0 s with
        | .ok d s' => .nx (r.set i (some d)) s'
        | .exc C fs s' => .exc C fs r s'
        | .bad => .bad) r s) := hp'
      exact hp2.bind env st fun y dy s1 w1 e1 st1 r1 hp1 => hvr w1 s1 v y d dy _ (fun c d H' => W c d t H') st1 (h2.ext e1) r1 (by
        cases ef : f d dy s1 with
        | ok d3 s3 =>
          rw [ef] at hp1
          exact fun x w3 e3 st3 r3 => hp1 _ w3 e3 (((env.ext e1).ext e3).set r3 i) st3
        | exc C fs s3 =>
          rw [ef] at hp1
          exact fun ed w3 e3 st3 x3 => hp1 t ed w3 e3 ((env.ext e1).ext e3) st3 x3
        | bad => rw [ef] at hp1; exact hp1)
def mulI (x y : D) (s : Sto) : Res D := match x with
  | .int i => (match y with
    | .int j => if mulC i j = true then .ok (.int (i * j)) s else .bad
    | _ => .bad)
  | _ => .bad
def addI (x y : D) (s : Sto) : Res D := match x with
  | .int i => (match y with
    | .int j => .ok (.int (i + j)) s
    | _ => .bad)
  | _ => .bad
theorem s_augAdd {i : Nat} {x : Str} (hN : X.N.Nodup) (hi : X.N[i]? = some x) (hx : Loc X.env.scope x) (he : PE X a (tE X.K W ma)) (hf : X.fn x = true ∨ X.env.scope.names.lookup x = some .local := by first | exact .inl rfl | exact .inr rfl | assumption) :
    PS X (.AugAssign (.Name x pos') .Add a pos) (tS X.K W (augS i addI ma)) := s_augG ip_add (fun w s x y a b Q E st rx ry hp => by
  unfold addI at hp
  cases rx with
  | int i =>
    cases ry with
    | int j => exact ⟨i, j, rfl, rfl, hp.pure st (.int _)⟩
    | _ => exact hp.elim
  | _ => exact hp.elim) hN hi hx he hf
theorem s_augSub {i : Nat} {x : Str} (hN : X.N.Nodup) (hi : X.N[i]? = some x) (hx : Loc X.env.scope x) (he : PE X a (tE X.K W ma)) (hf : X.fn x = true ∨ X.env.scope.names.lookup x = some .local := by first | exact .inl rfl | exact .inr rfl | assumption) :
    PS X (.AugAssign (.Name x pos') .Sub a pos) (tS X.K W (augS i subD ma)) := s_augG ip_sub (fun w s x y a b Q E st rx ry hp => by
  unfold subD at hp
  cases rx with
  | int i =>
    cases ry with
    | int j => exact ⟨i, j, rfl, rfl, hp.pure st (.int _)⟩
    | _ => exact hp.elim
  | _ => exact hp.elim) hN hi hx he hf
theorem s_augMul {i : Nat} {x : Str} (hN : X.N.Nodup) (hi : X.N[i]? = some x) (hx : Loc X.env.scope x) (he : PE X a (tE X.K W ma)) (hf : X.fn x = true ∨ X.env.scope.names.lookup x = some .local := by first | exact .inl rfl | exact .inr rfl | assumption) :
    PS X (.AugAssign (.Name x pos') .Mult a pos) (tS X.K W (augS i mulI ma)) := s_augG ip_mul (fun w s x y a b Q E st rx ry hp => by
  unfold mulI at hp
  cases rx with
  | int i =>
    cases ry with
    | int j =>
      dsimp only at hp
      split at hp
      · rename_i hc
        exact ⟨i, j, rfl, rfl, of_decide_eq_true (p := i.natAbs.log2 + j.natAbs.log2 < 1000000) hc, hp.pure st (.int _)⟩
      · exact hp.elim
    | _ => exact hp.elim
  | _ => exact hp.elim) hN hi hx he hf
end
end Mp

set_option Elab.async false
set_option linter.all false
set_option maxRecDepth 100000
set_option maxHeartbeats 4000000
/-! Mp: try. -/
namespace Mp
open PySem PySem.Spec PyProof.Rows L2
/-! ### on data -/
def noExc : Fl → Fl
  | .exc _ _ _ _ => .bad
  | f => f
/-- try: body except c: suite; tb: which of the package's errors c is -/
def tryS (mb : DS) (tb : List (Str × Bool)) (mh : DS) : DS := fun r s => match mb r s with
  | .exc C fs r' s' => (match tb.lookup C with
    | some true => noExc (mh r' s')
    | some false => .exc C fs r' s'
    | none => .bad)
  | f => f
def offS (i : Nat) : Fl → Fl
  | .nx r s => .nx (r.set i none) s
  | .bk r s => .bk (r.set i none) s
  | .ct r s => .ct (r.set i none) s
  | .rt d s => .rt d s
  | _ => .bad
open Classical in
noncomputable def joinF (f : Addr → Option Addr → Fl) : Fl := if ∀ a d, f a d = f 0 none then f 0 none else .bad
theorem joinF_of {f : Addr → Option Addr → Fl} (h : ∀ a d, f a d = f 0 none) : joinF f = f 0 none := if_pos h
noncomputable def tryAsS (i : Nat) (E : Str) (mb : DS) (tb : List (Str × Bool)) (mh : Addr → Option Addr → List (Str × D) → DS) : DS := fun r s => match mb r s with
  | .exc C fs r' s' => (match tb.lookup C with
    | some true => if C = E then joinF (fun a d => offS i (mh a d fs (r'.set i (some (.exn a d C fs))) s')) else .bad
    | some false => .exc C fs r' s'
    | none => .bad)
  | f => f
/-- e.f of the caught one -/
def exnM (a : Addr) (d : Option Addr) (f : Str) (m : DE) : DE := bindM m fun x => fun _ s => match x with
  | .exn a' d' _ fs => if a' = a ∧ d' = d then okO s (fs.lookup f) else .bad
  | _ => .bad
/-! ### soundness -/
def ExTab (K : Frag) (c : Value) (tb : List (Str × Bool)) : Prop := ∀ q ∈ tb, PySem.W.exmOne K (.ref (He.ga K q.1)) c = some q.2
section
variable {X : Cx} {W : WX} {x n : Str} {c : Value} {body suite : List Stmt} {b0 : Stmt} {np pos pos' : Pos} {mb mh : DS} {tb : List (Str × Bool)}
theorem noExc_post {K : Frag} {w : Wd} {W W' : WX} {E : Ends} : ∀ {f : Fl}, PostS K w W E (noExc f) → PostS K w W' E f
  | .nx _ _, h => h
  | .rt _ _, h => h
  | .bk _ _, h => h
  | .ct _ _, h => h
  | .exc _ _ _ _, h => h.elim
  | .bad, h => h
theorem s_try (hs : X.stack = X.env :: X.outer) (hf : X.env.frame = some X.env.locals) (hc : Names X x c) (tk : Takes X W) (T : ExTab X.K c tb)
    (hb : ∀ (W' : WX) (pn : List (Addr × Obj)) (xe : Value → Shared → Prop), Takes (X.tr pn xe) W' → PassesOwn (model X.prog X.w) X.A X.env xe → PSs (X.tr pn xe) body (tS X.K W' mb))
    (hsu : ∀ (a : Addr) (oe : Obj) (cls : Value) (d : Option Addr) (pn : List (Addr × Obj)), Zc cls d oe → (∃ vs, oe.data = .fields vs) → PSs (X.suite a ((a, oe) :: pn)) (b0 :: suite) (tS X.K W0 mh)) :
    PS X (.Try body [.ExceptHandler (some (.Name x np)) none (b0 :: suite) pos'] [] [] pos) (tS X.K W (tryS mb tb mh)) :=
  PS.imp (ps_try_only (tb := fun W' => tS X.K W' mb) (ts := fun _ _ _ => tS X.K W0 mh) hs hf hc tk hb hsu) fun E t H h => by
    obtain ⟨r, s, w, rfl, env, st, hp⟩ := h
    refine ⟨r, s, w, rfl, env, st, ?_⟩
    unfold tryS at hp
    cases e : mb r s with
    | exc C fs r' s' =>
      rw [e] at hp
      dsimp only at hp
      intro t' ed w' e' env' st' x'
      cases e2 : tb.lookup C with
      | none => rw [e2] at hp; exact hp.elim
      | some k =>
        rw [e2] at hp
        refine ⟨k, T _ (look_mem e2), fun hk a _ => ?_, fun hk => ?_⟩
        · subst hk
          exact ⟨r', s', w', rfl, env', st', noExc_post (PostS.ext e' hp)⟩
        · subst hk
          exact hp t' ed w' e' env' st' x'
    | nx r' s' => rw [e] at hp; exact hp
    | rt d s' => rw [e] at hp; exact hp
    | bk r' s' => rw [e] at hp; exact hp
    | ct r' s' => rw [e] at hp; exact hp
    | bad => rw [e] at hp; exact hp
theorem s_tryAs {i : Nat} {E : Str} {mh : Addr → Option Addr → List (Str × D) → DS} (hs : X.stack = X.env :: X.outer) (hf : X.env.frame = some X.env.locals) (hN : X.N.Nodup) (hi : X.N[i]? = some n) (hln : X.env.kindOf n = some .local) (hc : Names X x c) (tk : Takes X W) (T : ExTab X.K c tb)
    (hb : ∀ (W' : WX) (pn : List (Addr × Obj)) (xe : Value → Shared → Prop), Takes (X.tr pn xe) W' → PassesOwn (model X.prog X.w) X.A X.env xe → PSs (X.tr pn xe) body (tS X.K W' mb))
    (hsu : ∀ (a : Addr) (oe : Obj) (d : Option Addr) (pn : List (Addr × Obj)) (fs : List (Str × D)), Zc (.ref (He.ga X.K E)) d oe → (∃ vs, oe.data = .fields vs) → PSs (X.suite a ((a, oe) :: pn)) (b0 :: suite) (tS X.K W0 (mh a d fs))) :
    PS X (.Try body [.ExceptHandler (some (.Name x np)) (some n) (b0 :: suite) pos'] [] [] pos) (tS X.K W (tryAsS i E mb tb mh)) :=
  PS.imp (ps_try_as (i := i) (tb := fun W' => tS X.K W' mb) (ts := fun a cls d E0 t H => ∃ fs, cls = .ref (He.ga X.K E) ∧ tS X.K W0 (mh a d fs) E0 t H) hs hf hN hi hln hc tk hb fun a oe cls d pn hz hd => ⟨fun pins s t H E0 I z => by
      obtain ⟨fs, rfl, z⟩ := z
      exact (hsu a oe d pn fs hz hd).run pins s t H E0 I z⟩) fun E0 t H h => by
    obtain ⟨r, s, w, rfl, env, st, hp⟩ := h
    refine ⟨r, s, w, rfl, env, st, ?_⟩
    unfold tryAsS at hp
    cases e : mb r s with
    | exc C fs r' s' =>
      rw [e] at hp
      dsimp only at hp
      intro t' ed w' e' env' st' x'
      cases e2 : tb.lookup C with
      | none => rw [e2] at hp; exact hp.elim
      | some k =>
        rw [e2] at hp
        refine ⟨k, T _ (look_mem e2), fun hk a _ => ?_, fun hk => ?_⟩
        · subst hk
          dsimp only at hp
          by_cases hC : C = E
          · rw [if_pos hC] at hp
            subst hC
            unfold joinF at hp
            split at hp
            · rename_i hj
              rw [← hj a ed] at hp
              refine ⟨fs, rfl, r'.set i (some (.exn a ed C fs)), s', w', rfl, env'.set (Rep.exnK x') i, st', ?_⟩
              have hp2 := PostS.ext e' hp
              dsimp only at hp2
              cases e3 : mh a ed fs (r'.set i (some (.exn a ed C fs))) s' with
              | nx r3 s3 => rw [e3] at hp2; exact fun t4 w4 e4 env4 st4 => hp2 _ w4 e4 (env4.unset i) st4
              | bk r3 s3 => rw [e3] at hp2; exact fun t4 w4 e4 env4 st4 => hp2 _ w4 e4 (env4.unset i) st4
              | ct r3 s3 => rw [e3] at hp2; exact fun t4 w4 e4 env4 st4 => hp2 _ w4 e4 (env4.unset i) st4
              | rt d3 s3 => rw [e3] at hp2; exact hp2
              | exc C3 f3 r3 s3 => rw [e3] at hp2; exact hp2.elim
              | bad => rw [e3] at hp2; exact hp2.elim
            · exact hp.elim
          · rw [if_neg hC] at hp
            exact hp.elim
        · subst hk
          exact hp t' ed w' e' env' st' x'
    | nx r' s' => rw [e] at hp; exact hp
    | rt d s' => rw [e] at hp; exact hp
    | bk r' s' => rw [e] at hp; exact hp
    | ct r' s' => rw [e] at hp; exact hp
    | bad => rw [e] at hp; exact hp
theorem e_exn {a : Addr} {oe : Obj} {d : Option Addr} {pn : List (Addr × Obj)} {C f : Str} {e : Expr} {m : DE} (T : XfC X.K (He.ga X.K C)) (hno : PySem.W.findIn X.K (.ref (He.ga X.K C)) f = some none) (hz : Zc (.ref (He.ga X.K C)) d oe) (hf : ∃ vs, oe.data = .fields vs)
    (he : PE (X.suite a ((a, oe) :: pn)) e (tE X.K W m)) (hb : attributeBase e f X.env (eval e X.env) = eval e X.env := by rfl) : PE (X.suite a ((a, oe) :: pn)) (.Attribute e f pos) (tE X.K W (exnM a d f m)) :=
  PE.imp (pe_xf T hno hz hf he hb) fun t H Q h => by
    obtain ⟨r, s, w, rfl, env, st, hp⟩ := h
    exact hp.bind env st fun v dv s1 w1 e1 st1 r1 hp1 => by
      cases dv with
      | exn a' d' C' fs =>
        dsimp only at hp1
        obtain ⟨rfl, hx⟩ := r1.exn_inv
        split at hp1
        · rename_i hq
          obtain ⟨rfl, rfl⟩ := hq
          refine ⟨rfl, rfl, ?_⟩
          cases d' with
          | none =>
            cases hx
            exact hp1.elim
          | some dd =>
            obtain ⟨z, l, hl, kv⟩ := hx
            have g := kv.lookup (f := f)
            cases eg : fs.lookup f with
            | none => rw [eg] at hp1; exact hp1.elim
            | some d3 =>
              rw [eg] at g hp1
              obtain ⟨v3, h3, r3⟩ := g
              exact ⟨dd, l, v3, rfl, hl, h3, hp1.pure st1 r3⟩
        · exact hp1.elim
      | _ => exact hp1.elim
end
end Mp

set_option Elab.async false
set_option linter.all false
set_option maxRecDepth 100000
set_option maxHeartbeats 4000000
/-! Mp: methods that say super().m(..). -/
namespace Mp
open PySem PySem.Spec PyProof.Rows L2
/-- statements whose own code stands on top of the stack -/
structure QSs (X : Cx) (c : Code) (st : List Stmt) (t : TS) : Prop where
  run : ∀ (pins : List (Addr × Obj)) (s : Shared) (σ : L2.St) (H : Hp) (D : Ends), Inv X pins σ H s → t D σ H → PySem.wpAt (model X.prog X.w) X.A c (execs st X.env) (SP X pins D) X.xe s
section
variable {X : Cx} {W : WX} {c : Code} {st : Stmt} {rest : List Stmt} {m1 m2 : DS}
theorem q_of {l : List Stmt} {t : TS} (h : PSs X l t) : QSs X c l t := ⟨fun pins s σ H D I q => wpAt_of_wpAny (h.run pins s σ H D I q)⟩
theorem q_cons (h1 : PS X st (tS X.K W m1)) (h2 : QSs X c rest (tS X.K W m2)) : QSs X c (st :: rest) (tS X.K W (seqS m1 m2)) := by
  refine ⟨fun pins s σ H D I h => ?_⟩
  have q := seq_imp h
  refine ks_wpAt_execs_cons (wpAt_of_wpAny (thn (h1.run pins s σ H { D with nx := tS X.K W m2 D } I q) fun f s1 q => ?_))
  cases f with
  | next =>
    obtain ⟨σ', H', I', q⟩ := q
    exact h2.run pins s1 σ' H' D I' q
  | ret v => exact q
  | brk => exact q
  | cont => exact q
end
/-- super().m(a, ..): by the class of the instance -/
def superM (tb : List (Str × DF)) (a : DM (List D)) : DE := bindM (vM 0) fun x => fun r s => match insOf s x with
  | none => .bad
  | some (C, _) => (match tb.lookup C with
    | none => .bad
    | some f => (bindM a fun ds => fun _ s => f (x :: ds) s) r s)
def superS (tb : List (Str × DF)) (a : DM (List D)) : DS := thenS (superM tb a) fun _ => fun r s => .nx r s
structure SupF (X : Cx) (D : Addr) (C m : Str) (mf : DF) : Prop where
  cls : (PySem.W.clsIn X.K (He.ga X.K C)).isSome = true
  sub : PySem.W.mroIn X.K (He.ga X.K C) (.ref D) = some true
  ex : ∃ (g : Addr) (k : Nat), PySem.W.ks_superIn X.K (He.ga X.K C) D m = some (some (.ref g)) ∧ PySem.W.typeIn X.K (.ref g) = some (.type "function") ∧ PySem.W.fnIn X.K g = true ∧ FnD X.prog X.w X.K X.mg X.base k g mf ∧ Rm k X.A
inductive STab (X : Cx) (D : Addr) (m : Str) : List (Str × DF) → Prop
  | nil : STab X D m []
  | cons {C : Str} {f : DF} {r : List (Str × DF)} : SupF X D C m f → STab X D m r → STab X D m ((C, f) :: r)
theorem STab.get {X : Cx} {D : Addr} {m C : Str} {f : DF} : ∀ {tb : List (Str × DF)}, STab X D m tb → tb.lookup C = some f → SupF X D C m f
  | _, .nil, h => by simp at h
  | _, .cons (C := E) h1 r, h => by
    by_cases e : C = E
    · subst e
      rw [List.lookup_cons_self] at h
      cases h
      exact h1
    · have hb : (C == E) = false := by simpa using e
      rw [List.lookup_cons, hb] at h
      exact r.get h
/-- what a method's context has where super() may be said -/
structure SupX (X : Cx) (Dc f cc cda : Addr) (me : Str) : Prop where
  fu : X.env.func = some f
  co : X.env.code = .ref cda
  cl : X.env.cells.lookup ("__class__" : Str) = some cc
  ks : X.env.kindOf "super" = some .globalImplicit
  kc : X.env.kindOf "__class__" = some .free
  km : X.env.kindOf me = some .local
  n0 : X.N[0]? = some me
  fd : ∃ (oc : Value) (od : Option Addr) (fd : FuncData) (osl : Array (Option Value)) (ar : Arg), X.K.lookup f = some ⟨oc, od, .func fd, osl⟩ ∧ (fd.params.posonlyargs ++ fd.params.args).head? = some ar ∧ ar.arg = me
  cd : ∃ (ccl : Value) (cdd : Option Addr) (vs : Array Value) (ccs : Array (Option Value)) (file : Str) (tf : Tok), X.K.lookup cda = some ⟨ccl, cdd, .fields vs, ccs⟩ ∧ vs[2]? = some (.str file tf) ∧ ((X.prog.main.file : Str) == file) = true
  ce : ∃ (cl : Value) (cld : Option Addr) (csl : Array (Option Value)), X.K.lookup cc = some ⟨cl, cld, .cell (some (.ref Dc)), csl⟩
  cD : (PySem.W.clsIn X.K Dc).isSome = true
  nos : X.mg "super" = none
  top : (X.prog.main.scope.names.lookup ("super" : Str)).isSome = false
  tp : PySem.W.nsIn X.K cStatics "thirdparty.any" = some none
section
variable {X : Cx} {W : WX} {Dc f cc cda : Addr} {me m : Str} {tb : List (Str × DF)} {mr : DM (List D)} {a : Expr} {es : List Expr} {p0 p1 p2 apos pos : Pos} {body rest : List Stmt} {m2 : DS}
theorem cls_obj {K : Frag} {h : Heap} {C : Addr} (KX : K.In h) (hc : (PySem.W.clsIn K C).isSome = true) : ∃ (o : Obj) (cd : ClassData), h.get? C = some o ∧ o.data = .cls cd ∧ PySem.W.clsIn K C = some cd := by
  obtain ⟨cd, hc⟩ := Option.isSome_iff_exists.mp hc
  have hc' := hc
  unfold PySem.W.clsIn at hc
  split at hc
  · rename_i ho
    cases hc
    exact ⟨_, _, KX _ _ ho, rfl, hc'⟩
  · cases hc
theorem q_super (tk : Takes X W) (S : SupX X Dc f cc cda me) (T : STab X Dc m tb) (ha : PA X (a :: es) (tA X.K W mr)) (h2 : QSs X (.func body X.env) rest (tS X.K W m2)) (hat : (m == ("__class__" : Str)) = false := by decide)
    (he : starEach (a :: es) X.env = (false, eval a X.env) :: starEach es X.env := by rfl) (hpl : (backTo pos (starEach es X.env)).any (·.1) = false := by rfl) {pl : Sem Bool}
    (ht : eval (.Call (.Attribute (.Call (.Name "super" p0) [] [] p1) m apos) (a :: es) [] pos) X.env = (attributeBase (.Call (.Name "super" p0) [] [] p1) m X.env (eval (.Call (.Name "super" p0) [] [] p1) X.env) >>= fun ov => standAt apos.atName >>= fun _ => holding [ov] (getMethod ov m pl) >>= fun z => callWith pos z.1 z.2 (backTo pos (starEach (a :: es) X.env)) []) := by rfl)
    (hi : interactive X.env = false := by rfl) (hs : swapsWith (.Call (.Attribute (.Call (.Name "super" p0) [] [] p1) m apos) (a :: es) [] pos) none p2.line X.env = pure false := by rfl) :
    QSs X (.func body X.env) (.Expr (.Call (.Attribute (.Call (.Name "super" p0) [] [] p1) m apos) (a :: es) [] pos) p2 :: rest) (tS X.K W (seqS (superS tb mr) m2)) := by
  refine ⟨fun pins s t H E I h => ?_⟩
  have q := seq_imp h
  obtain ⟨r, so, w, rfl, env, st, hp⟩ := q
  refine ks_wpAt_execs_cons (ks_wpAt_Expr_any ?_ hi hs)
  refine ks_wpAt_MethodCall (pl := pl) ?_ ht
  obtain ⟨oc, od, fd, osl, ar, hf, har, rfl⟩ := S.fd
  obtain ⟨ccl, cdd, vs, ccs, file, tf, hcd, hvs, hfile⟩ := S.cd
  obtain ⟨cl, cld, csl, hce⟩ := S.ce
  obtain ⟨oD, cdD, hD1, hD2, hD3⟩ := cls_obj I.kIn S.cD
  obtain ⟨mb, hb1, hb2⟩ := I.mod.blt
  refine ks_wpAt_super_base (env := X.env) S.ks S.kc hat S.fu (I.kIn _ _ hf) rfl har S.co (I.kIn _ _ hcd) rfl hvs hfile S.top ?_
  refine PySem.W.ks_loadName_global I.ok.kind S.ks (Calls.loadGlobal_builtin (by rw [I.ok.glob]; exact I.mod.glob.keeps I.bk) S.nos (by rw [I.ok.blt]; exact hb1.keeps I.bk) ((hb2 "super" (by decide)).trans (by decide +kernel)) ⟨rfl, ?_⟩)
  refine wpAny_loadName_free I.ok.kind S.kc S.cl ⟨_, I.kIn _ _ hce, rfl⟩ ?_
  unfold superS superM thenS bindM vM at hp
  cases e0 : r[0]? with
  | none => rw [e0] at hp; exact hp.elim
  | some od0 =>
    rw [e0] at hp
    cases od0 with
    | none => exact hp.elim
    | some d =>
      dsimp only at hp
      obtain ⟨v, hv, rv⟩ := env.2 0 d e0
      cases e : insOf so d with
      | none => rw [e] at hp; exact hp.elim
      | some q =>
        obtain ⟨C, fs⟩ := q
        rw [e] at hp
        dsimp only at hp
        obtain ⟨q, dx, l, rfl, hh, kv⟩ := insOf_ok st rv e
        cases e2 : tb.lookup C with
        | none => rw [e2] at hp; exact hp.elim
        | some mf =>
          rw [e2] at hp
          dsimp only at hp
          have SF := T.get e2
          obtain ⟨g, k, hsup, hty, hfi, F, hr⟩ := SF.ex
          obtain ⟨m0, hn, hl⟩ := I.loc
          obtain ⟨u, ru, lk⟩ := hl 0 ar.arg _ S.n0 hv (.inl S.km)
          obtain rfl : u = Value.ref q := ru
          have hm0 : m0 ar.arg = some (.ref q) := by
            rcases lk with ⟨_, z⟩ | ⟨z, _⟩
            · exact z
            · rw [S.km] at z
              rcases z with z | z <;> cases z
          refine wpAny_loadName_local I.ok.kind S.km hn hm0 ?_
          refine ks_wpAny_isType_cls hD1 hD2 ⟨rfl, ?_⟩
          obtain ⟨mA, O, _⟩ := ins_get I.hok hh
          obtain ⟨odI, J, _⟩ := O.look
          have hnc : ∀ cx, (_ : Obj).data ≠ .cls cx := fun cx ez => by
            have z := J.no
            unfold PySem.W.notCls at z
            rw [ez] at z
            exact Bool.noConfusion z
          refine ks_wpAny_call_super hD1 hD2 J.at_ J.cls hnc (PySem.W.looks_mroIn I.kIn SF.sub) fun h1 hso k1 => ?_
          have I1 : Inv X pins t w.H { s with heap := h1, toks := s.toks } := I.kept k1
          obtain ⟨oC, cdC, hC1, hC2, hC3⟩ := cls_obj I1.kIn SF.cls
          have hsup2 : PySem.W.alongIn X.K m ((cdC.mro.dropWhile (· != .ref Dc)).drop 1) = some (some (.ref g)) := by
            unfold PySem.W.ks_superIn at hsup
            rw [hC3] at hsup
            exact hsup
          obtain ⟨oF, hoF, hcF⟩ : ∃ oF, h1.get? g = some oF ∧ oF.cls = .type "function" := by
            have z : (X.K.lookup g).map (·.cls) = some (.type "function") := hty
            cases y : X.K.lookup g with
            | none => rw [y] at z; cases z
            | some oF => rw [y] at z; exact ⟨oF, I1.kIn _ _ y, Option.some.inj z⟩
          have hmro : PySem.W.Looks (model X.prog X.w) h1 (mroOf (.ref (He.ga X.K C))) cdC.mro := fun A2 Q2 E2 s2 k2 q2 => wpAny_bind ((PySem.W.looks_clsIn I1.kIn hC3) A2 _ E2 s2 k2 (wpAny_pure q2))
          refine ks_wpAny_getMethod_super hso (PySem.W.looks_opaque I1.kIn S.tp) hmro rfl I1.kIn hsup2 hoF hcF (PySem.W.ks_ne I.kIn J hC3) hat ?_
          have I2 : Inv X pins t (upd w.H h1.objs.size (.met g q)) { s with heap := h1.push { cls := .type "method", data := .fields #[.ref g, .ref q] }, toks := s.toks + 1 } :=
            I1.laid (t' := s.toks + 1) (a := h1.objs.size) (o := .met g q) (fun b u z => Heap.get?_push_of_some _ z) (Nat.le_refl _) (Heap.get?_push_size h1 rfl)
          have hq1 : w.H h1.objs.size = none := I1.hok.fresh (Nat.le_refl _)
          have e3 := Wd.frz_ext st (o := .met g q) hq1
          have st3 := Wd.frz_st st (o := .met g q) hq1
          have hp3 := PostS.ext e3 hp
          rw [he]
          refine PySem.W.callWith_of (P := PySem.W.MethP X.K h1.objs.size g (.ref q)) (by show ((false || (backTo pos (starEach es X.env)).any (·.1)) || false) = false; rw [hpl]; rfl) (PySem.W.keeps_M hfi) (Calls.evalArgs_plain ?_)
          have hr1 := ha.run pos pins _ t (w.frz h1.objs.size (.met g q)).H (fun vs H2 => H2 h1.objs.size = some (.met g q) ∧ spD X.K mf (.ref q :: vs) H2 (fun _ H3 => tS X.K W m2 E t H3) (WE W t)) I2 ⟨r, so, w.frz h1.objs.size (.met g q), rfl, env.ext e3, st3, ?_⟩
          · rw [he] at hr1
            refine thn hr1 fun us s2 z => ?_
            obtain ⟨vs2, H2, I3, rv2, hmt, hsp⟩ := z
            refine ⟨met_P I3 hmt, ?_⟩
            refine wpAny_call (PySem.W.method_call (met_P I3 hmt).1 ?_)
            refine codeAny_mono (F X.A X.stack s2 H2 (.ref q :: us) (.ref q :: vs2) (fun _ H3 => tS X.K W m2 E t H3) (WE W t) hr I3.env0 (.cons rfl rv2) hsp) fun z s3 hz => ?_
            cases z with
            | error er => exact passAt tk t pins H2 s2 er s3 I3 hz
            | ok fl =>
              cases fl with
              | ret u3 =>
                obtain ⟨v3, H3, I4, rv3, q3⟩ := I3.after hz
                exact h2.run pins s3 t H3 E I4 q3
              | _ => exact hz.elim
          · cases e5 : mr r so with
            | bad => rw [e5] at hp3; exact hp3.elim
            | exc C5 f5 s5 =>
              rw [e5] at hp3
              exact fun ed w5 e6 st5 x5 => hp3 t ed w5 e6 ((env.ext e3).ext e6) st5 x5
            | ok dv s5 =>
              rw [e5] at hp3
              intro vs5 w5 e6 st5 r5
              refine ⟨(e6.H _ Wd.frz_z).trans Wd.frz_h, _, s5, w5, rfl, .cons ((rv.ext e3).ext e6) r5, st5, ?_⟩
              have hp5 := PostS.ext e6 hp3
              dsimp only at hp5
              cases e7 : mf (d :: dv) s5 with
              | bad => rw [e7] at hp5; exact hp5.elim
              | exc C8 f8 s8 =>
                rw [e7] at hp5
                exact fun ed w8 e8 st8 x8 => hp5 t ed w8 e8 (((env.ext e3).ext e6).ext e8) st8 x8
              | ok d8 s8 =>
                rw [e7] at hp5
                exact fun v8 w8 e8 st8 r8 => hp5 t w8 e8 (((env.ext e3).ext e6).ext e8) st8
end
/-- a method that says super(): its object, its code, its cell -/
structure FunS (K : Frag) (P : Program) (x qual : Str) (params : Arguments) (body : List Stmt) (scope : Scope) (f Dc cc cda : Addr) : Prop where
  ex : ∃ (oc : Value) (od : Option Addr) (kV doc pm : Value) (an : Option Addr) (ct : Value) (osl : Array (Option Value)), K.lookup f = some ⟨oc, od, .func (PySem.W.fnX x qual params body scope [("__class__", cc)] .none kV doc pm an (.ref cda) ct), osl⟩
  cdi : PySem.W.codeIn K (.ref cda) qual = true
  cd : ∃ (ccl : Value) (cdd : Option Addr) (vs : Array Value) (ccs : Array (Option Value)) (file : Str) (tf : Tok), K.lookup cda = some ⟨ccl, cdd, .fields vs, ccs⟩ ∧ vs[2]? = some (.str file tf) ∧ ((P.main.file : Str) == file) = true
  ce : ∃ (cl : Value) (cld : Option Addr) (csl : Array (Option Value)), K.lookup cc = some ⟨cl, cld, .cell (some (.ref Dc)), csl⟩
  cD : (PySem.W.clsIn K Dc).isSome = true
  kp : PySem.W.keepIn K (.ref f) = true
  tp : PySem.W.nsIn K cStatics "thirdparty.any" = some none
abbrev nfS (x qual : Str) (params : Arguments) (body : List Stmt) (scope : Scope) (cc cda : Addr) : NdefX.NF := ⟨x, qual, params, body, scope, [("__class__", cc)], cda⟩
abbrev cxS (P : Program) (w : World) (K : Frag) (mg : Str → Option Value) (base : Heap) (N : List Str) (x qual : Str) (params : Arguments) (body : List Stmt) (scope : Scope) (f cc cda : Addr) (A : Around) (outer : List Env) (s : Shared) (H : Hp) (E : XK) : Cx :=
  NdefX.ncx (L2.CX P w) P w K mg base N (nfS x qual params body scope cc cda) f A outer s H E
section
variable {P : Program} {w : World} {K : Frag} {mg : Str → Option Value} {base : Heap} {N ps : List Str} {x qual : Str} {params : Arguments} {body : List Stmt} {scope : Scope} {f Dc cc cda : Addr} {k : Nat} {b : DS} {A : Around} {outer : List Env} {s : Shared} {H : Hp} {E : XK}
theorem sup_x {me : Str} {ar : Arg} (F : FunS K P x qual params body scope f Dc cc cda) (har : (params.posonlyargs ++ params.args).head? = some ar) (hme : ar.arg = me) (hN : N[0]? = some me) (hks : scope.names.lookup ("super" : Str) = some .globalImplicit) (hkc : scope.names.lookup ("__class__" : Str) = some .free)
    (hkm : scope.names.lookup me = some .local) (hm : mg "super" = none) (ht : (P.main.scope.names.lookup ("super" : Str)).isSome = false) : SupX (cxS P w K mg base N x qual params body scope f cc cda A outer s H E) Dc f cc cda me := by
  obtain ⟨oc, od, kV, doc, pm, an, ct, osl, lk⟩ := F.ex
  exact ⟨rfl, rfl, rfl, hks, hkc, hkm, hN, ⟨_, _, _, _, ar, lk, har, hme⟩, F.cd, F.ce, F.cD, hm, ht, F.tp⟩
theorem fn_sup (F : FunS K P x qual params body scope f Dc cc cda) (S : NdefX.NScope N ps ["__class__"] scope)
    (hb : ∀ (kV doc pm : Value) (an : Option Addr) (ct : Value) (us : List Value), us.length = ps.length → bindArgs (PySem.W.fnX x qual params body scope [("__class__", cc)] .none kV doc pm an (.ref cda) ct) ⟨us, []⟩ = pure (ps.zip us))
    (hbody : ∀ (A : Around) (outer : List Env) (s : Shared) (H : Hp) (E : XK), Rm k (cxS P w K mg base N x qual params body scope f cc cda A outer s H E).A →
      QSs (cxS P w K mg base N x qual params body scope f cc cda A outer s H E) (.func body (cxS P w K mg base N x qual params body scope f cc cda A outer s H E).env) body (tS K (fun c d _ H' => E c d H') b)) : FnD P w K mg base (k + 1) f (bodyM ps.length [] N.length b) := by
  intro A outer s H us vs Q E hr e0 r h
  obtain ⟨ds, so, u, rfl, rs, st, hp⟩ := h
  unfold bodyM argsD at hp
  rw [List.drop_nil, List.append_nil] at hp
  split at hp
  · rename_i es he
    split at he
    · rename_i hc
      cases he
      have l1 := rs.length
      have hl : vs.length = ps.length := by
        have := hc.2
        simp only [List.length_nil] at this
        omega
      obtain ⟨oc, od, kV, doc, pm, an, ct, osl, lk⟩ := F.ex
      obtain ⟨cl, cld, csl, hce⟩ := F.ce
      have KX : K.In s.heap := e0.mod.kin.keeps fun b o e => (e0.bs b o e).1
      have lim : s.heap.NoLimit := e0.mod.nolimit.keeps fun b o e => (e0.bs b o e).1
      refine codeAny_call_function hr.rm.depth (KX _ _ lk) rfl S.co S.gen rfl (PySem.W.codeRec_of KX F.cdi) ?_
      rw [hb kV doc pm an ct us (by rw [← r.length]; exact hl)]
      refine wpAny_pure (wpAny_newFunctionEnv S.nocell (fun ⟨n, _⟩ hy => S.par n (List.of_mem_zip hy).1) (fun h₁ hns hsb => ⟨lim.fresh _ hsb, ?_⟩) S.kind)
      show codeAny _ _ (.func body (cxS P w K mg base N x qual params body scope f cc cda A outer s u.H E).env) _ _
      refine ks_codeAny_funcAt ?_
      have kp : ∀ b o, s.heap.get? b = some o → h₁.get? b = some o := fun b o e => hsb.extBut b o (Nat.ne_of_lt (Heap.lt_size e)) (Heap.get?_push_of_some _ e)
      have lk1 : ∀ y c, List.lookup y ([("__class__", cc)] : List (Str × Addr)) = some c → y = ("__class__" : Str) ∧ c = cc := fun y c e => by
        by_cases ey : y = ("__class__" : Str)
        · subst ey
          rw [List.lookup_cons_self] at e
          exact ⟨rfl, (Option.some.inj e).symm⟩
        · have hb : (y == ("__class__" : Str)) = false := by simpa using ey
          rw [List.lookup_cons, hb] at e
          simp at e
      have CA : NdefX.CellsAt (nfS x qual params body scope cc cda).cl ["__class__"] [none] s.heap u.H := by
        refine ⟨rfl, fun y c e => ?_, fun y z c e1 e2 => ?_, fun i y e => ?_⟩
        · obtain ⟨_, rfl⟩ := lk1 y c e
          exact ⟨(e0.bs _ _ (e0.mod.kin _ _ hce)).2, _, ⟨_, KX _ _ hce, rfl⟩⟩
        · exact (lk1 y c e1).1.trans (lk1 z c e2).1.symm
        · cases i with
          | zero =>
            simp at e
            subst e
            exact ⟨cc, List.lookup_cons_self, fun v hv => by simp at hv⟩
          | succ n => simp at e
      have hN : ps.length + 1 ≤ N.length := by
        have q := congrArg List.length S.pre
        rw [List.length_take, List.length_append] at q
        simp only [List.length_cons, List.length_nil] at q
        omega
      have hst : NdefX.startF N vs [none] = vs.map some ++ List.replicate (N.length - vs.length) none := by
        unfold NdefX.startF
        congr 1
        have e1 : N.length - vs.length = (N.length - vs.length - 1) + 1 := by omega
        rw [e1, List.replicate_succ]
        rfl
      have I : Inv (cxS P w K mg base N x qual params body scope f cc cda A outer s u.H E) [] (NdefX.startF N vs [none]) u.H { s with heap := h₁, toks := s.toks + (ps.zip us).length } := NdefX.inv_startN S hr.rm.hd e0 hl r CA hns kp
      have hq := body_end (n := N.length) (b := b) rs st hp
      rw [← hst] at hq
      refine PySem.wpAt_mono ((hbody A outer s u.H E (hr.deeper _)).run [] _ _ _ _ I hq) (fun fl s' hs => ?_) fun e s' hs => hs
      have fin : ∀ {σ' : L2.St} {H' : Hp} {v' : V} {u' : Value}, Inv (cxS P w K mg base N x qual params body scope f cc cda A outer s u.H E) [] σ' H' s' → RelV v' u' → Q v' H' → CE outer P w u.H s Q u' s' :=
        fun {σ' H' v' u'} J rv' q => ⟨v', H', J.os, J.bare, J.base, J.hok, rv', q⟩
      cases fl with
      | ret u' =>
        obtain ⟨v', σ', H', J, rv', q⟩ := hs
        exact fin J rv' q
      | next =>
        obtain ⟨σ', H', J, q⟩ := hs
        exact fin (v' := V.non) (u' := Value.none) J rfl q
      | brk =>
        obtain ⟨_, _, _, q⟩ := hs
        exact q.elim
      | cont =>
        obtain ⟨_, _, _, q⟩ := hs
        exact q.elim
    · cases he
  · exact hp.elim
end
end Mp

set_option Elab.async false
set_option linter.all false
set_option maxRecDepth 100000
set_option maxHeartbeats 4000000
/-! Mp: repr of plain data, chained comparisons. -/
namespace Mp
open PySem PySem.Spec PyProof.Rows L2
def reprD (ds : List D) (s : Sto) : Res D := match ds with
  | [x] => (match toPy x with
    | some p => if p.showable = true ∧ p.hasDict = false ∧ p.depth < 60 ∧ p.shown.length ≤ sizeLine then .ok (.str p.shown) s else .bad
    | none => .bad)
  | _ => .bad
def rRepr (K : Frag) : List V → Hp → VK → Prop := fun xs H Q => ∃ v d, xs = [v] ∧ Dp K H v d ∧ d.showable = true ∧ d.hasDict = false ∧ d.depth < 60 ∧ d.shown.length ≤ sizeLine ∧ Q (.str d.shown) H
section
variable {X : Cx} {W : WX} {a b c : Expr} {pos : Pos} {ma mb mc : DE}
theorem call_repr (hg : X.A.guards = some []) (hu : X.A.units + 64 < cLine) : CallR X (.builtin "repr") (rRepr X.K) := by
  intro pins s t H xs us Q I r h
  obtain ⟨v, d, rfl, dp, h1, h2, h3, h4, q⟩ := h
  obtain ⟨u, rfl, ru⟩ := vals1 r
  obtain ⟨as, rd⟩ := Dp.reads I d v u dp ru
  have fin : ∀ (h' : Heap) (tk : Nat) (tq : Tok), (∀ b o, s.heap.get? b = some o → h'.get? b = some o) → EP X pins t Q (.str d.shown tq) { s with heap := h', toks := tk } := fun h' tk tq k => ⟨.str d.shown, H, I.kept k, ⟨_, rfl⟩, q⟩
  cases u with
  | ref p => exact repr_of_reads' rd h1 (fun z => by rw [h2] at z; cases z) hg (by omega) (fun _ _ e => e) (fun h' tq tk k => fin h' tk tq k) h4
  | none =>
    cases rd
    exact PySem.P.repr_of_none (fin s.heap _ _ fun _ _ e => e)
  | bool k =>
    cases rd
    have e : (PyData.bool k).shown = if k = true then Str.ofString "True" else Str.ofString "False" := by simp only [PyData.shown]
    rw [e] at fin
    exact PySem.P.repr_of_bool (fin s.heap _ _ fun _ _ e => e)
  | int i tk =>
    cases rd
    have e : (PyData.int i).shown = toString i := by simp only [PyData.shown]
    rw [e] at fin
    exact PySem.P.repr_of_int (by simpa [PyData.showable] using h1) (fin s.heap _ _ fun _ _ e => e)
  | str z tk =>
    cases rd
    have e : (PyData.str z).shown = reprText z := by simp only [PyData.shown]
    rw [e] at fin h4
    exact PySem.P.repr_of_str (fin s.heap _ _ fun _ _ e => e) h4
  | _ => nomatch rd
theorem v_repr : VRC X.K (rRepr X.K) reprD := fun w s xs ds Q E st rs hp => by
  unfold reprD at hp
  cases rs with
  | nil => exact hp.elim
  | @cons v d vs ds h1 rs =>
    cases rs with
    | cons _ _ => exact hp.elim
    | nil =>
      dsimp only at hp
      cases e : toPy d with
      | none => rw [e] at hp; exact hp.elim
      | some p =>
        rw [e] at hp
        dsimp only at hp
        split at hp
        · rename_i hc
          exact ⟨v, p, rfl, Rep.dp h1 e, hc.1, hc.2.1, hc.2.2.1, hc.2.2.2, hp.pure st (.str _)⟩
        · exact hp.elim
/-! a op b op c -/
def chainT (g : D → D → Sto → Res D) (y : D) (c : DE) : D → DE
  | .bl true => bindM c fun u => fun _ s => g y u s
  | .bl false => pureM (.bl false)
  | _ => fun _ _ => .bad
def chainM (f g : D → D → Sto → Res D) (a b c : DE) : DE := bindM a fun x => bindM b fun y => fun r s => match f x y s with
  | .ok z s' => chainT g y c z r s'
  | .exc C fs s' => .exc C fs s'
  | .bad => .bad
theorem chain_imp {op op' : CmpOp} {f g : D → D → Sto → Res D} {r r' : R2} (hv : VR2 X.K r f) (hv' : VR2 X.K r' g) {t : L2.St} {H : Hp} {Q : VK} (h : tE X.K W (chainM f g ma mb mc) t H Q) :
    tChain r r' (tE X.K W ma) (tE X.K W mb) (tE X.K W mc) t H Q := by
  obtain ⟨q, s, w, rfl, env, st, hp⟩ := h
  refine hp.bind env st fun x d s1 w1 e1 st1 r1 hp1 => ?_
  refine hp1.bind (env.ext e1) st1 fun y e s2 w2 e2 st2 r2 hp2 => ?_
  cases e5 : f d e s2 with
  | bad => rw [e5] at hp2; exact hp2.elim
  | exc C fs s3 =>
    rw [e5] at hp2
    refine hv w2 s2 x y d e _ (fun c d H' => W c d t H') st2 (r1.ext e2) r2 ?_
    rw [e5]
    exact hp2
  | ok z s3 =>
    rw [e5] at hp2
    refine hv w2 s2 x y d e _ (fun c d H' => W c d t H') st2 (r1.ext e2) r2 ?_
    rw [e5]
    intro vz w3 e3 st3 r3
    have hp3 := Post.ext e3 hp2
    cases z with
    | bl k =>
      cases r3
      refine ⟨k, rfl, ?_⟩
      cases k with
      | false =>
        exact hp3.pure st3 (.bl false)
      | true =>
        refine Post.bind (m := mc) (f := fun u => fun _ s => g e u s) (r := q) (R' := Rep X.K) hp3 (((env.ext e1).ext e2).ext e3) st3 fun u du s4 w4 e4 st4 r4 hp4 => ?_
        exact hv' w4 s4 y u e du Q _ st4 ((r2.ext e3).ext e4) r4 hp4
    | _ => exact hp3.elim
def lastMk (op op' : CmpOp) (b c : Expr) : Prop := lastMarks [op, op'] [b, c] = false
theorem e_chain {op op' : CmpOp} {f g : D → D → Sto → Res D} {r r' : R2} (ho : OpR X (compareOp op) r) (ho' : OpR X (compareOp op') r') (hv : VR2 X.K r f) (hv' : VR2 X.K r' g) (ha : PE X a (tE X.K W ma)) (hb : PE X b (tE X.K W mb)) (hc : PE X c (tE X.K W mc))
    (hm : lastMarks [op, op'] [b, c] = false := by with_unfolding_all rfl) : PE X (.Compare a [op, op'] [b, c] pos) (tE X.K W (chainM f g ma mb mc)) := PE.imp (pe_chain ho ho' ha hb hc hm) fun t H Q h => chain_imp (op := op) (op' := op') hv hv' h
theorem t_chain {op op' : CmpOp} {f g : D → D → Sto → Res D} {r r' : R2} (ho : OpR X (compareOp op) r) (ho' : OpR X (compareOp op') r') (hv : VR2 X.K r f) (hv' : VR2 X.K r' g) (ha : PE X a (tE X.K W ma)) (hb : PE X b (tE X.K W mb)) (hc : PE X c (tE X.K W mc))
    (hm : lastMarks [op, op'] [b, c] = false := by with_unfolding_all rfl) : PT X (.Compare a [op, op'] [b, c] pos) (tT X.K W (blM (chainM f g ma mb mc))) := PT.imp (pt_chain ho ho' ha hb hc hm) fun t H Q h => by
  refine chain_imp (op := op) (op' := op') (W := W) hv hv' ?_
  obtain ⟨q, s, w, rfl, env, st, hp⟩ := h
  exact hp.bind env st fun x d s1 w1 e1 st1 r1 hp1 => by
    cases r1 with
    | bl k => exact ⟨k, rfl, hp1.pure st1 rfl⟩
    | _ => exact hp1.elim
end
end Mp

set_option Elab.async false
set_option linter.all false
set_option maxRecDepth 100000
set_option maxHeartbeats 4000000
/-! Mp: the end of a law, the head's facts. -/
namespace Mp
open PySem PySem.Spec PyProof.Rows L2
/-! ### the end -/
abbrev LawEnd (s₁ : Shared) : Result → Shared → Prop := fun r s' => r = .ok (.ret (.bool true)) ∧ OldK s₁.heap s'.heap ∧ s'.os = s₁.os ∧ AllBare s'.gens
section
variable {P : Program} {w : World} {K : Frag} {mg mb : Str → Option Value} {k : Nat} {fa a : Addr} {s₁ : Shared} {vs : List Value} {ns : List Int} {m : DF}
/-- the law's call, from an abstract heap that knows at most the script -/
theorem law_core (KX : K.In s₁.heap) (hns : s₁.heap.Ns mainGlobals mg) (hb : s₁.heap.Ns builtinsNs mb) (hbb : ∀ x : Str, x ≠ "__name__" → mb x = bootBuiltins x) (hlim : s₁.heap.NoLimit) (hg : s₁.gens = #[])
    (ha : s₁.heap.get? a = some { cls := .type "list", data := .seq vs.toArray }) (hr : Rm k callerA) (F : ∀ base : Heap, K.In base → base.Ns mainGlobals mg → FnD P w K mg base k fa m) (hm : ∃ s', m [.rol (ns.map .int)] [] = .ok (.bl true) s')
    (H : Hp) (hO : Only H) (hS : SqL K H a (ns.map V.int)) (hok : HOk P w H s₁.heap) (hA : ∀ b, H b ≠ none → b = a) (hK : H a ≠ none → K.lookup a = none) : codeAny (model P w) callerA (.call (.ref fa) ⟨[.ref a], []⟩) (LawEnd s₁) s₁ := by
  have off : ∀ {b : Addr} {o : Obj}, s₁.heap.get? b = some o → o.data ≠ .seq vs.toArray → H b = none := fun {b o} e d => by
    by_cases q : H b = none
    · exact q
    · have z := hA b q
      subst z
      rw [ha] at e
      cases e
      exact absurd rfl d
  have nsH : ∀ {b : Addr} {f : Str → Option Value}, s₁.heap.Ns b f → (hidT s₁.heap H).Ns b f := fun ⟨o, es, ep, e, d, r⟩ => ⟨o, es, ep, hidT_get e (off e (by rw [d]; exact fun z => nomatch z)), d, r⟩
  have KH : K.In (hidT s₁.heap H) := fun b o e => hidT_get (KX b o e) (by
    by_cases q : H b = none
    · exact q
    · have z := hA b q
      subst z
      rw [hK q] at e
      cases e)
  have M0 : Mod K mg (hidT s₁.heap H) := ⟨KH, nsH hns, ⟨mb, nsH hb, hbb⟩, hlim.elim fun mc z => ⟨mc, nsH z.1, z.2⟩⟩
  have E0 : Env0 P w K mg (hidT s₁.heap H) callerA [] s₁ H := ⟨rfl, M0, fun b o e => of_hidT e, Nat.le_of_eq (hidT_size _ _), trivial, fun b z => absurd (show b ∈ ([] : List Addr) from z) (by simp), hok, .of_eq hg⟩
  obtain ⟨s', hm⟩ := hm
  have hsp : spD K m [.ref a] H (fun v _ => v = .bl true) fun _ _ _ => False := by
    refine ⟨[.rol (ns.map .int)], [], ⟨fun _ => none, fun b => H b ≠ none, fun _ => False, H⟩, rfl, .cons (.rol (hS.elim (fun z => .inl ⟨?_, z⟩) .inr) ?_) .nil, ?_, ?_⟩
    · rcases z with z | ⟨o, z⟩ <;> exact fun e => by rw [e] at z; cases z
    · clear hm hS
      induction ns with
      | nil => exact .nil
      | cons i r ih => exact .cons (.int i) ih
    · constructor <;> intros <;> simp_all
    · rw [hm]
      intro v w' _ _ rv
      cases rv
      rfl
  refine codeAny_mono (F _ KH (nsH hns) callerA [] s₁ H [.ref a] [.ref a] _ _ hr E0 (.cons rfl .nil) hsp) fun r s' h => ?_
  cases r with
  | error e =>
    obtain ⟨_, _, _, _, _, _, _, _, _, _, _, _, z⟩ := h
    exact z.elim
  | ok fl =>
    cases fl with
    | ret u =>
      obtain ⟨v, H', os, bare, un, hok', r', q⟩ := h
      obtain rfl : v = .bl true := q
      obtain rfl : u = Value.bool true := r'
      refine ⟨rfl, OldK.of_keep fun b o e => ?_, os, bare⟩
      rcases hO b with z | ⟨ob, xs, z⟩
      · exact un.keep b o e z (fun y => absurd (show b ∈ ([] : List Addr) from y) (by simp)) (by simp)
      · have e1 := (hok b _ z).1
        have e2 := (hok' b _ (un.frzs b ob _ z)).1
        rw [e] at e1
        cases e1
        exact e2
    | _ => exact h.elim
theorem law_end (KX : K.In s₁.heap) (hns : s₁.heap.Ns mainGlobals mg) (hb : s₁.heap.Ns builtinsNs mb) (hbb : ∀ x : Str, x ≠ "__name__" → mb x = bootBuiltins x) (hlim : s₁.heap.NoLimit) (hg : s₁.gens = #[])
    (ha : s₁.heap.get? a = some { cls := .type "list", data := .seq vs.toArray }) (hi : IntsAre vs ns) (hl : ns.length ≤ sizeLine) (hr : Rm k callerA) (F : ∀ base : Heap, K.In base → base.Ns mainGlobals mg → FnD P w K mg base k fa m) (hm : ∃ s', m [.rol (ns.map .int)] [] = .ok (.bl true) s') :
    codeAny (model P w) callerA (.call (.ref fa) ⟨[.ref a], []⟩) (LawEnd s₁) s₁ := by
  have go := law_core (m := m) (ns := ns) KX hns hb hbb hlim hg ha hr F hm
  have rv := vals_ints hi
  cases hk : K.lookup a with
  | some o =>
    have e := KX a o hk
    rw [ha] at e
    cases e
    exact go (fun _ => none) (fun _ => .inl rfl) (.inr ⟨_, vs.toArray, _, hk, rfl, rfl, rfl, by rw [List.size_toArray, hi.length]; exact hl, by simpa using rv⟩) (fun _ _ z => nomatch (show (none : Option HO) = some _ from z)) (fun _ z => (z rfl).elim) fun z => (z rfl).elim
  | none =>
    refine go (upd (fun _ => none) a (.frz { cls := .type "list", data := .seq vs.toArray } (.lst (ns.map V.int)))) (fun b => ?_) (.inl (.inr ⟨_, upd_same⟩)) (fun b u z => ?_) (fun b z => ?_) fun _ => hk
    · by_cases e : b = a
      · subst e
        exact .inr ⟨_, _, upd_same⟩
      · exact .inl (upd_ne e)
    · by_cases e : b = a
      · subst e
        rw [upd_same] at z
        cases z
        exact ⟨ha, by rw [List.length_map]; exact hl, vs, _, rv, ha⟩
      · rw [upd_ne e] at z
        cases z
    · by_cases e : b = a
      · exact e
      · exact absurd (upd_ne e) z
end
/-- a law row, by its def's function on data -/
theorem walk_end {l : PySem.W.OpenLaw} {n k : Nat} {q : Program} {loose : List Str} {XP : (Str → Option Value) → Heap → Prop} {YP : World → Heap → Prop} {d : DefRec} {m : DF} (hn : l.most = some n) (hn2 : n ≤ sizeLine) (hdf : d.params.defaults = []) (hr : Rm k callerA)
    (F : ∀ (w : World) (mg : Str → Option Value) (fa : Addr) (h : Heap), YP w h → h.Ns mainGlobals mg → mg d.name = some (.ref fa) → ∃ K : Frag, K.In h ∧ ∀ base : Heap, K.In base → base.Ns mainGlobals mg → FnD l.prog w K mg base k fa m)
    (hm : ∀ ns : List Int, ns.length ≤ n → (∀ z ∈ ns, Builtin.Int.intBits z ≤ 1048576) → ∃ s', m [.rol (ns.map .int)] [] = .ok (.bl true) s') : PySem.W.WalkO q loose XP YP l.row.toRowW d [] (fun f vs => PySem.call f vs) := by
  refine Att.attach_callB hn hdf fun w s₀ s₁ mg mb fa o pm cd doc a vs ns G Y ho hd hcd hmg hobj hints hlen hbits hg => ?_
  obtain ⟨K, KX, hF⟩ := F w mg fa _ Y G.T.g hmg
  exact law_end KX G.T.g G.T.b G.T.builtins G.T.nolimit hg hobj hints (Nat.le_trans hlen hn2) hr hF (hm ns hlen hbits)
end Mp

set_option Elab.async false
set_option linter.all false
set_option maxRecDepth 100000
set_option maxHeartbeats 4000000
/-! Mp: the head's facts. -/
namespace Mp
open PySem PySem.Spec PyProof.Rows L2
/-! ### defs -/
structure DefM where
  ad : Frag → Addr
  name : Str
  qual : Str
  params : Arguments
  body : List Stmt
  scope : Scope
  dfl : List He.Dv := []
  sup : Option Str := none
def fnWM (K : Frag) (d : DefM) : He.FnW := match K.lookup (d.ad K) with
  | some ⟨_, _, .func fd, _⟩ => some (fd.name, fd.qualname, fd.params, fd.body, fd.scope, fd.globals, [], fd.builtins)
  | _ => none
def DefM.val (d : DefM) : He.FnW := some (d.name, d.qual, d.params, .stmts d.body, d.scope, mainGlobals, [], builtinsNs)
def DefM.dvs (K : Frag) (d : DefM) : List V := d.dfl.map (He.Dv.v K)
def fileB (file : Str) (K : Frag) : Value → Bool
  | .ref c => (match K.lookup c with
    | some ⟨_, _, .fields vs, _⟩ => (match (vs[2]? : Option Value) with
      | some (.str f _) => file == f
      | _ => false)
    | _ => false)
  | _ => false
def clB (file : Str) (K : Frag) (sup : Option Str) (fd : FuncData) : Bool := match sup with
  | none => (match fd.closure with
    | [] => true
    | _ => false)
  | some C => (match fd.closure with
    | [(n, cc)] => decide (n = "__class__") && ((match K.lookup cc with
      | some ⟨_, _, .cell (some (.ref e)), _⟩ => decide (e = He.ga K C)
      | _ => false) && ((PySem.W.clsIn K (He.ga K C)).isSome && (fileB file K fd.code && He.eqO (PySem.W.nsIn K cStatics "thirdparty.any") (some none))))
    | _ => false)
def DefM.ok (file : Str) (K : Frag) (d : DefM) : Bool := PySem.W.keepIn K (.ref (d.ad K)) && (match K.lookup (d.ad K) with
  | some ⟨_, _, .func fd, _⟩ => PySem.W.codeIn K fd.code d.qual && (He.dflB K fd.defaults (d.dvs K) && clB file K d.sup fd)
  | _ => false)
theorem DefM.funD {file : Str} {K : Frag} {d : DefM} (hs : d.sup = none) (e : fnWM K d = d.val) (c : d.ok file K = true) : ∃ fd, FunD K d.name d.qual d.params d.body d.scope (d.dvs K) [] (d.ad K) fd := by
  obtain ⟨kp, c2⟩ := He.ba c
  unfold fnWM at e
  cases q : K.lookup (d.ad K) with
  | none => rw [q] at c2; cases c2
  | some o =>
    obtain ⟨oc, od, dt, osl⟩ := o
    rw [q] at c2 e
    cases dt with
    | func fd =>
      obtain ⟨n1, n2, n3, n4, n5, n6, n7, n8, n9, n10, n11, n12, n13, n14, n15⟩ := fd
      have e2 : (some (n1, n2, n3, n4, n5, n6, [], n15) : He.FnW) = some (d.name, d.qual, d.params, .stmts d.body, d.scope, mainGlobals, [], builtinsNs) := e
      simp only [Option.some.injEq, Prod.mk.injEq] at e2
      obtain ⟨h1, h2, h3, h4, h5, h6, _, h8⟩ := e2
      subst h1 h2 h3 h4 h5 h6 h8
      obtain ⟨k1, k2⟩ := He.ba c2
      obtain ⟨k3, k4⟩ := He.ba k2
      unfold clB at k4
      rw [hs] at k4
      dsimp only at k4
      cases n7 with
      | nil => exact ⟨_, ⟨oc, od, n8, n9, n10, n11, n12, n13, n14, osl, rfl, q, k1, He.dflB_ok k3, .inl rfl⟩, kp⟩
      | cons _ _ => cases k4
    | _ => cases c2
theorem DefM.funS {P : Program} {K : Frag} {d : DefM} {C : Str} (hs : d.sup = some C) (hd : d.dfl = []) (e : fnWM K d = d.val) (c : d.ok P.main.file K = true) :
    ∃ cc cda, FunS K P d.name d.qual d.params d.body d.scope (d.ad K) (He.ga K C) cc cda := by
  obtain ⟨kp, c2⟩ := He.ba c
  unfold fnWM at e
  cases q : K.lookup (d.ad K) with
  | none => rw [q] at c2; cases c2
  | some o =>
    obtain ⟨oc, od, dt, osl⟩ := o
    rw [q] at c2 e
    cases dt with
    | func fd =>
      obtain ⟨n1, n2, n3, n4, n5, n6, n7, n8, n9, n10, n11, n12, n13, n14, n15⟩ := fd
      have e2 : (some (n1, n2, n3, n4, n5, n6, [], n15) : He.FnW) = some (d.name, d.qual, d.params, .stmts d.body, d.scope, mainGlobals, [], builtinsNs) := e
      simp only [Option.some.injEq, Prod.mk.injEq] at e2
      obtain ⟨h1, h2, h3, h4, h5, h6, _, h8⟩ := e2
      subst h1 h2 h3 h4 h5 h6 h8
      obtain ⟨k1, k2⟩ := He.ba c2
      obtain ⟨k3, k4⟩ := He.ba k2
      unfold clB at k4
      rw [hs] at k4
      dsimp only at k4
      match n7, k4 with
      | [(n, cc)], k4 =>
        obtain ⟨a1, a⟩ := He.ba k4
        obtain ⟨a2, a⟩ := He.ba a
        obtain ⟨a3, a⟩ := He.ba a
        obtain ⟨a4, a5⟩ := He.ba a
        have en := of_decide_eq_true a1
        subst en
        have hdv : n8 = .none := by
          unfold DefM.dvs at k3
          rw [hd] at k3
          cases n8 with
          | none => rfl
          | _ => cases k3
        subst hdv
        cases n13 with
        | ref cda =>
          refine ⟨cc, cda, ⟨⟨oc, od, n9, n10, n11, n12, n14, osl, q⟩, k1, ?_, ?_, a3, kp, He.eqO_ok a5⟩⟩
          · have a4' : (match K.lookup cda with
              | some ⟨_, _, .fields vs, _⟩ => (match (vs[2]? : Option Value) with
                | some (.str f _) => P.main.file == f
                | _ => false)
              | _ => false) = true := a4
            cases q4 : K.lookup cda with
            | none => rw [q4] at a4'; cases a4'
            | some o4 =>
              obtain ⟨o1, o2, o3, o5⟩ := o4
              rw [q4] at a4'
              cases o3 with
              | fields vs4 =>
                dsimp only at a4'
                cases q5 : vs4[2]? with
                | none => rw [q5] at a4'; cases a4'
                | some v5 =>
                  rw [q5] at a4'
                  cases v5 with
                  | str f5 t5 => exact ⟨_, _, _, _, f5, t5, rfl, q5, a4'⟩
                  | _ => cases a4'
              | _ => cases a4'
          · cases q4 : K.lookup cc with
            | none => rw [q4] at a2; cases a2
            | some o4 =>
              obtain ⟨o1, o2, o3, o5⟩ := o4
              rw [q4] at a2
              cases o3 with
              | cell v4 =>
                cases v4 with
                | none => cases a2
                | some v4 =>
                  cases v4 with
                  | ref e4 =>
                    have z : e4 = He.ga K C := of_decide_eq_true a2
                    subst z
                    exact ⟨_, _, _, rfl⟩
                  | _ => cases a2
              | _ => cases a2
        | _ => cases a4
    | _ => cases c2
/-! ### the Hook -/
abbrev AlM : Type := Bool × List He.FnW
def obsM (file : Str) (fb : List (Frag → Bool)) (fn : List DefM) (K : Frag) : AlM := ((fb.all fun f => f K) && fn.all fun d => d.ok file K, fn.map fun d => fnWM K d)
def valM (fn : List DefM) : AlM := (true, fn.map DefM.val)
def SaysM (file : Str) (fb : List (Frag → Bool)) (fn : List DefM) (K : Frag) : Prop := obsM file fb fn K = valM fn
def refsM (g : Addr → Option Obj) (a : Addr) : List Addr := match g a with
  | some o => He.refsD o
  | none => []
/-- those that are not marked yet -/
def markK (k : Nat → List Addr → List Addr) : List Addr → Nat → List Addr → List Addr
  | [], seen, out => k seen out
  | a :: as, seen, out => (match Nat.testBit seen a with
    | true => markK k as seen out
    | false => markK k as (seen ||| (1 <<< a)) (a :: out))
def levelM (g : Addr → Option Obj) : Nat → List Addr → Nat → List Addr
  | 0, front, _ => front
  | n + 1, front, seen => front ++ markK (fun seen' out => levelM g n out seen') (front.flatMap (refsM g)) seen []
def asM (g : Addr → Option Obj) (n : Nat) : List Addr := cStatics :: sysModules :: levelM g n [mainGlobals] (1 <<< mainGlobals)
def obsMG (n : Nat) (file : Str) (fb : List (Frag → Bool)) (fn : List DefM) (g : Addr → Option Obj) : AlM := obsM file fb fn (He.frG g (asM g n))
def hookM (n : Nat) (file : Str) (fb : List (Frag → Bool)) (fn : List DefM) : PySem.W.Hook where
  α := AlM
  obs := fun s => obsMG n file fb fn s.heap.get?
  val := fun _ => valM fn
  says := fun _ h => ∃ K : Frag, K.In h ∧ SaysM file fb fn K
  of := fun _ _ e => ⟨_, He.frG_in, e⟩
  keeps := fun _ _ _ ⟨K, hK, c⟩ k => ⟨K, PySem.W.Frag.In.keeps hK k, c⟩
theorem obsMG_eq {n : Nat} {file : Str} {fb : List (Frag → Bool)} {fn : List DefM} {g : Addr → Option Obj} {s : Shared} (h : ∀ a, g a = s.heap.get? a) : obsMG n file fb fn g = (hookM n file fb fn).obs s := by
  have e : g = s.heap.get? := funext h
  rw [e]
  rfl
/-- all that a derivation may ask of the head -/
structure Fx (P : Program) (fb : List (Frag → Bool)) (fn : List DefM) (K : Frag) (mg : Str → Option Value) : Prop where
  says : SaysM P.main.file fb fn K
  ex : ∃ h : Heap, K.In h ∧ h.Ns mainGlobals mg
section
variable {P : Program} {fb : List (Frag → Bool)} {fn : List DefM} {K : Frag} {mg : Str → Option Value} (Z : Fx P fb fn K mg)
include Z
theorem Fx.fact (i : Nat) {f : Frag → Bool} (h : fb[i]? = some f) : f K = true := by
  have c1 := (He.ba (show ((fb.all fun f => f K) && fn.all fun d => d.ok P.main.file K) = true from congrArg (fun z : AlM => z.1) Z.says)).1
  exact List.all_eq_true.mp c1 f (List.mem_of_getElem? h)
theorem Fx.dfOk (i : Nat) {d : DefM} (h : fn[i]? = some d) : fnWM K d = d.val ∧ d.ok P.main.file K = true := by
  have c2 := (He.ba (show ((fb.all fun f => f K) && fn.all fun d => d.ok P.main.file K) = true from congrArg (fun z : AlM => z.1) Z.says)).2
  have e : fn.map (fun d => fnWM K d) = fn.map DefM.val := congrArg (fun z : AlM => z.2) Z.says
  have e2 : (fn.map fun d => fnWM K d)[i]? = (fn.map DefM.val)[i]? := by rw [e]
  rw [List.getElem?_map, List.getElem?_map, h] at e2
  exact ⟨Option.some.inj e2, List.all_eq_true.mp c2 d (List.mem_of_getElem? h)⟩
theorem Fx.df (i : Nat) {d : DefM} (h : fn[i]? = some d) (hs : d.sup = none) : ∃ fd, FunD K d.name d.qual d.params d.body d.scope (d.dvs K) [] (d.ad K) fd := let q := Z.dfOk i h; DefM.funD hs q.1 q.2
theorem Fx.dfS (i : Nat) {d : DefM} {C : Str} (h : fn[i]? = some d) (hs : d.sup = some C) (hd : d.dfl = []) : ∃ cc cda, FunS K P d.name d.qual d.params d.body d.scope (d.ad K) (He.ga K C) cc cda := let q := Z.dfOk i h; DefM.funS hs hd q.1 q.2
theorem Fx.keep (i : Nat) {d : DefM} (h : fn[i]? = some d) : PySem.W.keepIn K (.ref (d.ad K)) = true := (He.ba (Z.dfOk i h).2).1
abbrev ckF (f : He.Fa) : Frag → Bool := fun K => f.ok K
omit Z in
theorem fx_in (Z : Fx P fb fn K mg) {T : Prop} (k : ∀ h : Heap, K.In h → h.Ns mainGlobals mg → T) : T := let ⟨h, a, b⟩ := Z.ex; k h a b
theorem Fx.glo (i : Nat) {x : Str} (h : fb[i]? = some (ckF (.glo x))) : mg x = some (.ref (He.ga K x)) := fx_in Z fun _ a b => He.glo_ok a b (Z.fact i h)
theorem Fx.free (i : Nat) {x : Str} (h : fb[i]? = some (ckF (.free x))) : mg x = none := fx_in Z fun _ a b => He.free_ok a b (Z.fact i h)
theorem Fx.int (i : Nat) {x : Str} {j : Int} (h : fb[i]? = some (ckF (.int x j))) : ∃ t, mg x = some (.int j t) := fx_in Z fun _ a b => He.int_ok a b (Z.fact i h)
theorem Fx.str (i : Nat) {x z : Str} (h : fb[i]? = some (ckF (.str x z))) : ∃ t, mg x = some (.str z t) := fx_in Z fun _ a b => He.str_ok a b (Z.fact i h)
theorem Fx.cls (i : Nat) {x : Str} (h : fb[i]? = some (ckF (.cls x))) : Cls K (He.ga K x) := He.cls_ok (Z.fact i h)
theorem Fx.noat (i : Nat) {x f : Str} (h : fb[i]? = some (ckF (.noat x f))) : NoAttr K (He.ga K x) f := He.noat_ok (Z.fact i h)
theorem Fx.meth (i : Nat) {x f : Str} (h : fb[i]? = some (ckF (.meth x f))) : Meth K (He.ga K x) f (He.ma K (He.ga K x) f) := He.meth_ok (Z.fact i h)
theorem Fx.mkr (i : Nat) {x : Str} (h : fb[i]? = some (ckF (.mkr x))) : Mk K (He.ga K x) (He.ma K (He.ga K x) "__init__") := He.mkr_ok (Z.fact i h)
abbrev ckTup (x : Str) (vs : List He.Dv) : Frag → Bool := fun K => He.tupB K x vs
theorem Fx.tup (i : Nat) {x : Str} {vs : List He.Dv} (h : fb[i]? = some (ckTup x vs)) : KT K (He.ga K x) (vs.map (He.Dv.v K)) := by
  rcases He.tupB_ok (Z.fact i h) (fun _ => none) with (z | ⟨o, z⟩) | z
  · cases z
  · cases z
  · exact z
/-! own exceptions -/
abbrev ckExc (x : Str) (newId : String) (bm : List Value) : Frag → Bool := fun K => exB K (He.ga K x) bm newId && (He.eqO (PySem.W.findIn K (.ref (He.ga K x)) "__setattr__") (some (some (.builtin "object.__setattr__"))) && (decide (PySem.W.subIn K (.ref (He.ga K x)) (.type "BaseException") = some true) &&
  (decide (PySem.W.typeIn K (.ref (He.ga K x)) = some (.type "type")) && (PySem.W.keepIn K (.ref (He.ga K x)) && (He.eqO (PySem.W.findIn K (.ref (He.ga K x)) "__init__") (some (some (.ref (He.ma K (He.ga K x) "__init__")))) && decide (PySem.W.typeIn K (.ref (He.ma K (He.ga K x) "__init__")) = some (.type "function")))))))
theorem Fx.exc (i : Nat) {x : Str} {B newId initId : String} {bm : List Value} (b : BaseX B newId initId bm) (h : fb[i]? = some (ckExc x newId bm)) :
    OexB K (He.ga K x) B newId initId bm ∧ PySem.W.findIn K (.ref (He.ga K x)) "__init__" = some (some (.ref (He.ma K (He.ga K x) "__init__"))) ∧ PySem.W.typeIn K (.ref (He.ma K (He.ga K x) "__init__")) = some (.type "function") := by
  obtain ⟨h1, r⟩ := He.ba (Z.fact i h)
  obtain ⟨h2, r⟩ := He.ba r
  obtain ⟨h3, r⟩ := He.ba r
  obtain ⟨h4, r⟩ := He.ba r
  obtain ⟨h5, r⟩ := He.ba r
  obtain ⟨h6, h7⟩ := He.ba r
  exact ⟨⟨b, exB_ok h1, He.eqO_ok h2, of_decide_eq_true h3, of_decide_eq_true h4, h5⟩, He.eqO_ok h6, of_decide_eq_true h7⟩
abbrev ckExm (c : Frag → Value) (tb : List (Str × Bool)) : Frag → Bool := fun K => tb.all fun q => decide (PySem.W.exmOne K (.ref (He.ga K q.1)) (c K) = some q.2)
theorem Fx.exm (i : Nat) {c : Frag → Value} {tb : List (Str × Bool)} (h : fb[i]? = some (ckExm c tb)) : ExTab K (c K) tb := fun q hq => of_decide_eq_true (List.all_eq_true.mp (Z.fact i h) q hq)
/-! isinstance -/
abbrev ckTyC (x : Str) : Frag → Bool := fun K => (ckF (.cls x)) K && (He.eqO (PySem.W.findIn K (.ref (He.ga K x)) "__class__") (some (some (.builtin "object.__class__"))) && (He.eqO (PySem.W.specialIn K (.builtin "object.__class__") "__get__") (some (some (.builtin "getset_descriptor.__get__"))) &&
  (decide (PySem.W.takesIn K (.builtin "object.__class__") = some true) && decide (PySem.W.mroIn K (He.ga K x) (.type "object") = some true))))
abbrev ckIsi (it : Isi) : Frag → Bool := fun K => (it.cs.all fun C => ckTyC C K) && ((it.oo.all fun q => decide (PySem.W.kitOne K (.ref (He.ga K q.1.1)) (.ref (He.ga K q.1.2)) = some q.2)) && ((it.bo.all fun C => tyNames.all fun n => decide (PySem.W.kitOne K (.type n) (.ref (He.ga K C)) = some false)) &&
  it.ob.all fun q => decide (PySem.W.kitOne K (.ref (He.ga K q.1.1)) (.type q.1.2) = some q.2)))
theorem Fx.isi (i : Nat) {it : Isi} (h : fb[i]? = some (ckIsi it)) : IsiOk K it := by
  obtain ⟨h1, r⟩ := He.ba (Z.fact i h)
  obtain ⟨h2, r⟩ := He.ba r
  obtain ⟨h3, h4⟩ := He.ba r
  refine ⟨fun C hC => ?_, fun q hq => of_decide_eq_true (List.all_eq_true.mp h2 q hq), fun C hC n hn => of_decide_eq_true (List.all_eq_true.mp (List.all_eq_true.mp h3 C hC) n hn), fun q hq => of_decide_eq_true (List.all_eq_true.mp h4 q hq)⟩
  obtain ⟨a1, a⟩ := He.ba (List.all_eq_true.mp h1 C hC)
  obtain ⟨a2, a⟩ := He.ba a
  obtain ⟨a3, a⟩ := He.ba a
  obtain ⟨a4, a5⟩ := He.ba a
  exact ⟨He.cls_ok a1, He.eqO_ok a2, He.eqO_ok a3, of_decide_eq_true a4, of_decide_eq_true a5⟩
/-! bound methods, super -/
abbrev ckBm (x m : Str) : Frag → Bool := fun K => (ckF (.meth x m)) K && (He.eqO (PySem.W.specialIn K (.ref (He.ma K (He.ga K x) m)) "__get__") (some (some (.builtin "function.__get__"))) && (decide (PySem.W.takesIn K (.ref (He.ma K (He.ga K x) m)) = some false) && (!PySem.W.copiedNames.contains m && PySem.W.fnIn K (He.ma K (He.ga K x) m))))
theorem Fx.bm (i : Nat) {x m : Str} (h : fb[i]? = some (ckBm x m)) : BMeth K (He.ga K x) m (He.ma K (He.ga K x) m) := by
  obtain ⟨h1, r⟩ := He.ba (Z.fact i h)
  obtain ⟨h2, r⟩ := He.ba r
  obtain ⟨h3, r⟩ := He.ba r
  obtain ⟨h4, h5⟩ := He.ba r
  exact ⟨He.meth_ok h1, He.eqO_ok h2, of_decide_eq_true h3, by simpa using h4, h5⟩
abbrev ckSup (C E m : Str) (g : Frag → Addr) : Frag → Bool := fun K => (PySem.W.clsIn K (He.ga K C)).isSome && (decide (PySem.W.mroIn K (He.ga K C) (.ref (He.ga K E)) = some true) && (He.eqO (PySem.W.ks_superIn K (He.ga K C) (He.ga K E) m) (some (some (.ref (g K)))) && (decide (PySem.W.typeIn K (.ref (g K)) = some (.type "function")) && PySem.W.fnIn K (g K))))
end
theorem Fx.supF {X : Cx} {fb : List (Frag → Bool)} {fn : List DefM} (Z : Fx X.prog fb fn X.K X.mg) (i : Nat) {C E m : Str} {g : Frag → Addr} {mf : DF} {k : Nat} (h : fb[i]? = some (ckSup C E m g)) (F : FnD X.prog X.w X.K X.mg X.base k (g X.K) mf) (hr : Rm k X.A) : SupF X (He.ga X.K E) C m mf := by
  obtain ⟨h1, r⟩ := He.ba (Z.fact i h)
  obtain ⟨h2, r⟩ := He.ba r
  obtain ⟨h3, r⟩ := He.ba r
  obtain ⟨h4, h5⟩ := He.ba r
  exact ⟨h1, of_decide_eq_true h2, _, k, He.eqO_ok h3, of_decide_eq_true h4, h5, F, hr⟩
/-! properties, constants -/
def propG (C f : Str) (K : Frag) : Addr := match PySem.W.recIn K (He.ma K (He.ga K C) f) "property" with
  | some (.ref g :: _) => g
  | _ => 0
abbrev ckProp (C f : Str) : Frag → Bool := fun K => He.eqO (PySem.W.findIn K (.ref (He.ga K C)) f) (some (some (.ref (He.ma K (He.ga K C) f)))) && (He.eqO (PySem.W.specialIn K (.ref (He.ma K (He.ga K C) f)) "__get__") (some (some (.builtin "property.__get__"))) && (decide (PySem.W.takesIn K (.ref (He.ma K (He.ga K C) f)) = some true) &&
  (match PySem.W.recIn K (He.ma K (He.ga K C) f) "property" with
    | some (.ref _ :: _) => true
    | _ => false)))
theorem Fx.propOf {P : Program} {fb : List (Frag → Bool)} {fn : List DefM} {K : Frag} {mg : Str → Option Value} (Z : Fx P fb fn K mg) (i : Nat) {C f : Str} (h : fb[i]? = some (ckProp C f)) : PropOf K (He.ga K C) f (He.ma K (He.ga K C) f) (propG C f K) := by
  obtain ⟨h1, r⟩ := He.ba (Z.fact i h)
  obtain ⟨h2, r⟩ := He.ba r
  obtain ⟨h3, h4⟩ := He.ba r
  refine ⟨He.eqO_ok h1, He.eqO_ok h2, of_decide_eq_true h3, ?_⟩
  unfold propG
  split at h4
  · rename_i g rest e
    rw [e]
    exact ⟨rest, rfl⟩
  · cases h4
abbrev ckCon (C f : Str) (v : He.Dv) : Frag → Bool := fun K => (match PySem.W.findIn K (.ref (He.ga K C)) f with
  | some (some u) => He.relB (v.v K) u && He.eqO (PySem.W.specialIn K u "__get__") (some none)
  | _ => false) && !PySem.W.copiedNames.contains f
theorem Fx.con {P : Program} {fb : List (Frag → Bool)} {fn : List DefM} {K : Frag} {mg : Str → Option Value} (Z : Fx P fb fn K mg) (i : Nat) {C f : Str} {v : He.Dv} (h : fb[i]? = some (ckCon C f v)) : ∃ u, Con K (He.ga K C) f (v.v K) u := by
  obtain ⟨h1, h2⟩ := He.ba (Z.fact i h)
  split at h1
  · rename_i u e
    obtain ⟨a, b⟩ := He.ba h1
    exact ⟨u, e, He.relB_ok a, He.eqO_ok b, by simpa using h2⟩
  · cases h1
end Mp

set_option Elab.async false
set_option linter.all false
set_option maxRecDepth 100000
set_option maxHeartbeats 4000000
/-! Mp: more built-in functions. -/
namespace Mp
open PySem PySem.Spec PyProof.Rows L2
def max2D (ds : List D) (s : Sto) : Res D := match ds with
  | [.int i, .int j] => .ok (.int (if j > i then j else i)) s
  | _ => .bad
def min2D (ds : List D) (s : Sto) : Res D := match ds with
  | [.int i, .int j] => .ok (.int (if j < i then j else i)) s
  | _ => .bad
section
variable {X : Cx}
theorem v_max2 : VRC X.K (fun xs H Q => ∃ i j, xs = [.int i, .int j] ∧ Q (.int (if j > i then j else i)) H) max2D := fun w s xs ds Q E st rs hp => by
  unfold max2D at hp
  split at hp
  · cases rs with | cons q r => cases r with | cons q2 r2 => cases q; cases q2; cases r2; exact ⟨_, _, rfl, hp.pure st (.int _)⟩
  · exact hp.elim
theorem v_min2 : VRC X.K (fun xs H Q => ∃ i j, xs = [.int i, .int j] ∧ Q (.int (if j < i then j else i)) H) min2D := fun w s xs ds Q E st rs hp => by
  unfold min2D at hp
  split at hp
  · cases rs with | cons q r => cases r with | cons q2 r2 => cases q; cases q2; cases r2; exact ⟨_, _, rfl, hp.pure st (.int _)⟩
  · exact hp.elim
end
/-- a getter that lets no exception out -/
def noxF (m : DF) : DF := fun ds s => match m ds s with
  | .exc _ _ _ => .bad
  | r => r
theorem noxF_ne {m : DF} : ∀ d s C fs s', noxF m [d] s ≠ .exc C fs s' := fun d s C fs s' => by
  unfold noxF
  cases m [d] s <;> simp
theorem FnD.nox {P : Program} {w : World} {K : Frag} {mg : Str → Option Value} {base : Heap} {k : Nat} {f : Addr} {m : DF} (F : FnD P w K mg base k f m) : FnD P w K mg base k f (noxF m) := fun A outer s H us vs Q E hr e0 r h => by
  obtain ⟨ds, so, u, hu, rs, st, hp⟩ := h
  refine F A outer s H us vs Q E hr e0 r ⟨ds, so, u, hu, rs, st, ?_⟩
  unfold noxF at hp
  cases e : m ds so <;> rw [e] at hp
  · exact hp
  · exact hp.elim
  · exact hp
end Mp

set_option Elab.async false
set_option linter.all false
set_option maxRecDepth 100000
set_option maxHeartbeats 4000000
/-! Mp: a caught error as a value: isinstance(e, C). -/
namespace Mp
open PySem PySem.Spec PyProof.Rows L2 PySem.Calls
section
variable {prog : Program} {w : World} {A : Around} {E : Value → Shared → Prop} {s : Shared} {K : Frag} {x C : Addr} {ox : Obj} {od : Option Obj}
theorem fo_data {n : Str} {a g : Value} (hc : (PySem.W.clsIn K C).isSome = true) (ha : PySem.W.findIn K (.ref C) n = some (some a)) (hg : PySem.W.specialIn K a "__get__" = some (some g)) (ht : PySem.W.takesIn K a = some true) : PySem.W.findObj K C od n = some (.bind g a) := by
  cases od with
  | none => exact PySem.W.findObj_dataN hc ha hg ht
  | some o => exact PySem.W.findObj_data hc ha hg ht
/-- e.__class__, with an own dict or without -/
theorem exc_class {Q : Option Value → Shared → Prop} (T : ExcC K C) (X : K.In s.heap) (I : PySem.W.InstAt s.heap x ox C od) (h : Q (some (.ref C)) { s with toks := s.toks + 1 }) : wpAny (model prog w) A (getAttr? (.ref x) "__class__") Q E s := by
  have isS : (PySem.W.clsIn K C).isSome = true := by
    obtain ⟨cd, hc, _⟩ := PySem.W.any_some T.hd
    rw [hc] <;> rfl
  have hf := fo_data (od := od) isS T.ha T.hn T.ht
  obtain ⟨hp, g, d, t, os⟩ := s
  have l0 := I.type (M := model prog w)
  have l1 := PySem.W.looks_findIn (M := model prog w) X T.hg
  have l2 := PySem.W.looks_findIn (M := model prog w) X T.hk
  have l3 := PySem.W.looks_find (M := model prog w) X I hf
  have isB : PySem.W.Looks (model prog w) hp (isInstance (.ref x) (.type "BaseException")) true := l0.andThen (PySem.W.looks_subIn X T.hs)
  have n1 : (Value.builtin "BaseException.__getattribute__" == Value.builtin "object.__getattribute__") = false := by
    decide +kernel
  unfold getAttr? getAttrBy? getAttrBy
  refine wpAny_bind (wpAny_mkText (wpAny_bind (wpAny_attempt (wpAny_holding (wpAny_bind (l0.at (wpAny_bind (l1.at ?_))))))))
  dsimp only
  rw [show (onTheHeap (Value.ref C) && Value.builtin "BaseException.__getattribute__" == Value.builtin "object.__getattribute__") = false from by
    rw [n1] <;> rfl]
  rw [if_neg (by decide)]
  unfold getAttrByItsOwn hookBefore
  refine wpAny_bind ?_
  rw [if_pos (show onTheHeap (Value.ref C) = true by rfl)]
  refine l2.at (wpAny_bind (wpAny_attempt (wpAny_holding ?_)))
  unfold callGetattribute
  rw [show (false && onTheHeap (Value.builtin "BaseException.__getattribute__")) = false by rfl, if_neg (by decide)]
  unfold boundAndCalled
  rw [PySem.F.excAttr_ValueError.ga.bind (.ref x)]
  refine wpAny_bind (wpAny_pure (wpAny_call (codeAny_call_builtin PySem.F.excAttr_ValueError.ga.plain PySem.F.entry_bexc_ga ?_)))
  refine @PySem.W.check_slot (model prog w) _ _ ⟨hp, g, d, t + 1, os⟩ "BaseException.__getattribute__" "BaseException" "__getattribute__" (.ref x) [.str "__class__" t] [] _ (by decide +kernel)
    (by decide +kernel) isB (PySem.F.args_bexc_ga (.ref x) (.str "__class__" t)) ?_
  unfold Builtin.«object.__getattribute__»
  refine wpAny_bind (wpAny_of_eq (a := ((Value.ref x : Value), [Value.str "__class__" t])) (by
    first
      | rfl
      | (simp only [slotArgs] <;> rfl)) (wpAny_bind (wpAny_pure (wpAny_bind (l0.at (wpAny_bind (l3.at ?_)))))))
  refine wpAny_bind (wpAny_holding (wpAny_call (PySem.W.class_get (s := ⟨hp, g, d, t + 1, os⟩) (ox := ox) (od := od) X I T.hm (wpAny_pure ?_))))
  show wpAny _ _ (handedOut (Value.ref C)) _ _ _
  rw [PySem.W.handedOut_of (v := Value.ref C) rfl]
  first
    | exact wpAny_pure h
    | exact wpAny_pure (wpAny_pure h)
    | exact wpAny_pure (wpAny_bind (wpAny_pure (wpAny_pure h)))
theorem exc_kit (T : ExcC K C) : PySem.W.KitX K (.ref x) (.ref C) (fun h => PySem.W.InstAt h x ox C od) := by
  have key : ∃ (c : Value) (d : Option Addr) (cd : ClassData) (sl : Array (Option Value)), K.lookup C = some ⟨c, d, .cls cd, sl⟩ := by
    obtain ⟨cd, hc, _⟩ := PySem.W.any_some T.hd
    unfold PySem.W.clsIn at hc
    split at hc
    · rename_i c' d' cd' sl' ho
      exact ⟨_, _, _, _, ho⟩
    · cases hc
  obtain ⟨c, d, cd, sl, ho⟩ := key
  refine ⟨fun _ _ _ I => I.type, fun h h' X I => ?_, fun h tp dd its n sl' X htp => ?_, fun X I k => exc_class T X I k⟩
  · intro A' Q' E' s' k q
    unfold isType loadHead
    exact wpAny_bind (wpAny_loadPart (k _ _ (X _ _ ho)) (wpAny_pure q))
  · refine Bool.eq_false_iff.mpr fun q => ?_
    have e : C = tp := Value.ref.inj (beq_iff_eq.mp q)
    subst e
    exact nomatch (X _ _ ho).symm.trans htp
end
/-- what isinstance(e, c) asks, e the error that the suite holds -/
def rIsX (K : Frag) (C a : Addr) (d : Option Addr) : List V → Hp → VK → Prop := fun xs H Q => ∃ (c : V) (cv : Value) (b : Bool), xs = [.ref a, c] ∧ (∀ u, RelV c u → u = cv) ∧ PySem.W.kitOne K (.ref C) cv = some b ∧ (∀ dx, d = some dx → ∃ l, H dx = some (.xd l)) ∧ Q (.bl b) H
theorem call_isX {X : Cx} {a C : Addr} {d : Option Addr} {oe : Obj} {pn : List (Addr × Obj)} (T : ExcC X.K C) (hz : Zc (.ref C) d oe) (hf : ∃ vs, oe.data = .fields vs) : CallR (X.suite a ((a, oe) :: pn)) (.builtin "isinstance") (rIsX X.K C a d) := by
  intro pins s t H xs us Q I r h
  obtain ⟨c, cv, b, rfl, hcv, e, hx, q⟩ := h
  cases r with
  | cons rx rr =>
    cases rr with
    | cons rt rr =>
      cases rr
      cases rx
      obtain rfl := hcv _ rt
      obtain ⟨hget, _⟩ := I.pin (a, oe) (List.mem_append.mpr (.inl List.mem_cons_self))
      obtain ⟨vs, hv⟩ := hf
      have no : PySem.W.notCls oe = true := by
        unfold PySem.W.notCls
        rw [hv]
      obtain ⟨od, J⟩ : ∃ od, PySem.W.InstAt s.heap a oe C od := by
        cases d with
        | none => exact ⟨none, hget, hz.1, no, by rw [hz.2]; trivial⟩
        | some dx =>
          obtain ⟨l, hl⟩ := hx dx rfl
          obtain ⟨mA, hns, hr⟩ : ObjOk X.prog X.w H s.heap dx (.xd l) := I.hok dx _ hl
          obtain ⟨o, ho, _⟩ := lookIn_ns hns
          exact ⟨some o, hget, hz.1, no, by rw [hz.2]; exact ho⟩
      exact PySem.W.kia_one (exc_kit T) I.kIn J e (fun z => nomatch z) fun tk => ⟨.bl b, H, I.kept (t' := tk) fun _ _ z => z, rfl, q⟩
/-! ### on data -/
def isxD (a : Addr) (d : Option Addr) (tt : List (String × Bool)) (ds : List D) (s : Sto) : Res D := match ds with
  | [.exn a' d' _ _, .ty n] => if a' = a ∧ d' = d then (match tt.lookup n with
    | some b => .ok (.bl b) s
    | none => .bad) else .bad
  | _ => .bad
def KitTab (K : Frag) (C : Str) (tt : List (String × Bool)) : Prop := ∀ q ∈ tt, PySem.W.kitOne K (.ref (He.ga K C)) (.type q.1) = some q.2
theorem v_isx {X : Cx} {C : Str} {a : Addr} {d : Option Addr} {tt : List (String × Bool)} (hT : KitTab X.K C tt) : VRC X.K (rIsX X.K (He.ga X.K C) a d) (isxD a d tt) := fun w s xs ds Q E st rs hp => by
  unfold isxD at hp
  split at hp
  · cases rs with | cons q r => cases r with | cons q2 r2 =>
    cases r2
    cases q2
    obtain ⟨rfl, hx⟩ := q.exn_inv
    split at hp
    · rename_i hc
      obtain ⟨rfl, rfl⟩ := hc
      split at hp
      · rename_i b hb
        refine ⟨_, _, b, rfl, fun u z => z, hT _ (look_mem hb), fun dx hd => ?_, hp.pure st (.bl _)⟩
        subst hd
        obtain ⟨_, l, hl, _⟩ := hx
        exact ⟨l, hl⟩
      · exact hp.elim
    · exact hp.elim
  · exact hp.elim
/-! ### the head's facts -/
abbrev ckXc (x : Str) : Frag → Bool := fun K => decide (PySem.W.findIn K (.ref (He.ga K x)) "__getattribute__" = some (some (.builtin "BaseException.__getattribute__"))) && (decide (PySem.W.findIn K (.ref (He.ga K x)) "__getattr__" = some none) && (decide (PySem.W.subIn K (.ref (He.ga K x)) (.type "BaseException") = some true) &&
  (PySem.W.hasDictIn K (He.ga K x) && (decide (PySem.W.findIn K (.ref (He.ga K x)) "__class__" = some (some (.builtin "object.__class__"))) && (decide (PySem.W.specialIn K (.builtin "object.__class__") "__get__" = some (some (.builtin "getset_descriptor.__get__"))) &&
  (decide (PySem.W.takesIn K (.builtin "object.__class__") = some true) && decide (PySem.W.mroIn K (He.ga K x) (.type "object") = some true)))))))
theorem Fx.xc {P : Program} {fb : List (Frag → Bool)} {fn : List DefM} {K : Frag} {mg : Str → Option Value} (Z : Fx P fb fn K mg) (i : Nat) {x : Str} (h : fb[i]? = some (ckXc x)) : ExcC K (He.ga K x) := by
  have f := Z.fact i h
  simp only [ckXc, Bool.and_eq_true, decide_eq_true_eq] at f
  obtain ⟨h1, h2, h3, h4, h5, h6, h7, h8⟩ := f
  exact ⟨h1, h2, h3, h4, h5, h6, h7, h8⟩
theorem xf_of {K : Frag} {C : Addr} (T : ExcC K C) : XfC K C := ⟨T.hg, T.hk, T.hs, T.hd⟩
abbrev ckKt (x : Str) (tt : List (String × Bool)) : Frag → Bool := fun K => tt.all fun q => decide (PySem.W.kitOne K (.ref (He.ga K x)) (.type q.1) = some q.2)
theorem Fx.kt {P : Program} {fb : List (Frag → Bool)} {fn : List DefM} {K : Frag} {mg : Str → Option Value} (Z : Fx P fb fn K mg) (i : Nat) {x : Str} {tt : List (String × Bool)} (h : fb[i]? = some (ckKt x tt)) : KitTab K x tt := fun q hq => of_decide_eq_true (List.all_eq_true.mp (Z.fact i h) q hq)
end Mp

set_option Elab.async false
set_option linter.all false
set_option maxRecDepth 100000
set_option maxHeartbeats 4000000
/-! Mp: repr of data with dicts. -/
namespace Mp
open PySem PySem.Spec PyProof.Rows L2
def keyP : Key → PyData
  | .inl i => .int i
  | .inr z => .str z
mutual
inductive Dq (K : Frag) (H : Hp) : V → PyData → Prop
  | non : Dq K H .non .none
  | bl (b : Bool) : Dq K H (.bl b) (.bool b)
  | int (i : Int) : Dq K H (.int i) (.int i)
  | str (x : Str) : Dq K H (.str x) (.str x)
  | lst {a : Addr} {xs : List V} {ds : List PyData} : SqL K H a xs → Dqs K H xs ds → Dq K H (.ref a) (.list ds)
  | tup {a : Addr} {xs : List V} {ds : List PyData} : SqT K H a xs → Dqs K H xs ds → Dq K H (.ref a) (.tuple ds)
  | dic {a : Addr} {kvs : List (Key × V)} {ds : List PyData} : Rd H a (.dK kvs) → Dqs K H (kvs.map (·.2)) ds → Dq K H (.ref a) (.dict ((kvs.map fun p => keyP p.1).zip ds))
inductive Dqs (K : Frag) (H : Hp) : List V → List PyData → Prop
  | nil : Dqs K H [] []
  | cons {v : V} {vs : List V} {d : PyData} {ds : List PyData} : Dq K H v d → Dqs K H vs ds → Dqs K H (v :: vs) (d :: ds)
end
theorem Dqs.length {K : Frag} {H : Hp} : ∀ {vs : List V} {ds : List PyData}, Dqs K H vs ds → vs.length = ds.length
  | _, _, .nil => rfl
  | _, _, .cons _ r => congrArg (· + 1) r.length
/-- sys.modules is no list -/
def SysD (K : Frag) : Prop := ∃ o, K.lookup sysModules = some o ∧ o.cls = .type "dict"
theorem pairs_keys {P : Program} {w : World} {h : Heap} : ∀ {es : List DictEntry} {vs : List (Key × Value)}, Pairs (mixKind P w) es vs → ∃ as, ReadsAll h (es.map (·.key)) (vs.map fun p => keyP p.1) as ∧ sysModules ∉ as
  | _, _, .nil => ⟨[], .nil, by simp⟩
  | e :: es, kv :: vs, .cons h1 h2 r => by
    obtain ⟨as, ra, hn⟩ := pairs_keys (h := h) r
    have k1 : ∃ as1, Reads h e.key (keyP kv.1) as1 ∧ sysModules ∉ as1 := by
      rcases keyIs_shape h1 with ⟨i, t, e1, e2⟩ | ⟨x, t, e1, e2⟩
      · rw [e1, e2]
        exact ⟨_, .int i t, by simp⟩
      · rw [e1, e2]
        exact ⟨_, .str x t, by simp⟩
    obtain ⟨as1, r1, n1⟩ := k1
    exact ⟨_, .cons r1 ra, fun z => (List.mem_append.mp z).elim n1 hn⟩
theorem pairs_vals {P : Program} {w : World} : ∀ {es : List DictEntry} {vs : List (Key × Value)}, Pairs (mixKind P w) es vs → es.map (·.val) = vs.map (·.2)
  | _, _, .nil => rfl
  | e :: es, kv :: vs, .cons h1 h2 r => by
    rw [List.map_cons, List.map_cons, pairs_vals r, h2]
theorem kv_vals : ∀ {l : List (Key × V)} {m : List (Key × Value)}, KV l m → Vals (l.map (·.2)) (m.map (·.2)) ∧ l.map (·.1) = m.map (·.1)
  | _, _, .nil => ⟨.nil, rfl⟩
  | _, _, .cons h r => by
    obtain ⟨h1, h2⟩ := kv_vals r
    exact ⟨.cons h.2 h1, by rw [List.map_cons, List.map_cons, h2, h.1]⟩
section
variable {X : Cx} {pins : List (Addr × Obj)} {t : L2.St} {H : Hp} {s : Shared}
mutual
theorem Dq.reads (I : Inv X pins t H s) (hS : SysD X.K) : ∀ {v : V} {d : PyData}, Dq X.K H v d → ∀ {u : Value}, RelV v u → ∃ as, Reads s.heap u d as ∧ sysModules ∉ as
  | _, _, .non, _, r => by
    cases r
    exact ⟨_, .none, by simp⟩
  | _, _, .bl b, _, r => by
    cases r
    exact ⟨_, .bool b, by simp⟩
  | _, _, .int i, _, r => by
    obtain ⟨k, rfl⟩ := r
    exact ⟨_, .int i k, by simp⟩
  | _, _, .str x, _, r => by
    obtain ⟨k, rfl⟩ := r
    exact ⟨_, .str x k, by simp⟩
  | _, _, .lst hs ha, _, r => by
    cases r
    obtain ⟨its, rv, ⟨o, n, ho, hc, _, hd⟩, _⟩ := I.list hs
    obtain ⟨as, hr, hn⟩ := Dqs.reads I hS ha rv
    refine ⟨_, Reads.list ho hc hd hr, fun z => ?_⟩
    rcases List.mem_cons.mp z with z | z
    · obtain ⟨o2, h2, h3⟩ := hS
      have h4 := I.kIn _ _ h2
      rw [z, ho] at h4
      cases h4
      rw [hc] at h3
      exact absurd h3 (by decide)
    · exact hn z
  | _, _, .tup hs ha, _, r => by
    cases r
    obtain ⟨its, rv, ⟨o, ho, hc, n, hd⟩, _⟩ := I.tuple hs
    obtain ⟨as, hr, hn⟩ := Dqs.reads I hS ha rv
    exact ⟨_, Reads.tuple ho hc hd hr, hn⟩
  | _, _, .dic hs ha, _, r => by
    cases r
    obtain ⟨_, hne, vs, kv, o, es, ep, ho, hx, hd, _, hp, _⟩ := dk_rd I.hok hs
    obtain ⟨rv, rk⟩ := kv_vals kv
    obtain ⟨as, ra, na⟩ := pairs_keys (h := s.heap) hp
    obtain ⟨bs, rb, nb⟩ := Dqs.reads I hS ha rv
    have hl := ha.length
    have e1 : ∀ (ks : List PyData) (ds : List PyData), ks.length = ds.length → (ks.zip ds).map (·.1) = ks := fun ks ds hl => List.map_fst_zip (by omega)
    have e2 : ∀ (ks : List PyData) (ds : List PyData), ks.length = ds.length → (ks.zip ds).map (·.2) = ds := fun ks ds hl => List.map_snd_zip (by omega)
    rw [List.length_map] at hl
    refine ⟨_, Reads.dict (as := as) (bs := bs) ho hx.1 hd ?_ ?_, fun z => ?_⟩
    · rw [e1 _ _ (by rw [List.length_map]; exact hl)]
      have e3 : ∀ {l : List (Key × V)} {m : List (Key × Value)}, l.map (·.1) = m.map (·.1) → (l.map fun p => keyP p.1) = m.map fun p => keyP p.1 := fun {l m} e => by
        have := congrArg (List.map keyP) e
        rw [List.map_map, List.map_map] at this
        exact this
      rw [e3 rk]
      exact ra
    · rw [e2 _ _ (by rw [List.length_map]; exact hl), pairs_vals hp]
      exact rb
    · rw [List.mem_append, List.mem_cons] at z
      rcases z with (z | z) | z
      · subst z
        exact absurd hne (by simp)
      · exact na z
      · exact nb z
theorem Dqs.reads (I : Inv X pins t H s) (hS : SysD X.K) : ∀ {vs : List V} {ds : List PyData}, Dqs X.K H vs ds → ∀ {us : List Value}, Vals vs us → ∃ as, ReadsAll s.heap us ds as ∧ sysModules ∉ as
  | _, _, .nil, _, r => by
    cases r
    exact ⟨_, .nil, by simp⟩
  | _, _, .cons h1 h2, _, r => by
    cases r with
    | cons r1 r2 =>
      obtain ⟨as, q1, n1⟩ := Dq.reads I hS h1 r1
      obtain ⟨bs, q2, n2⟩ := Dqs.reads I hS h2 r2
      exact ⟨_, .cons q1 q2, fun z => (List.mem_append.mp z).elim n1 n2⟩
end
end
/-! ### on data -/
mutual
def rdP (s : Sto) : Nat → D → Option PyData
  | 0, _ => none
  | n + 1, d => match d with
    | .non => some .none
    | .bl b => some (.bool b)
    | .int i => some (.int i)
    | .str z => some (.str z)
    | .tup l => (rdPs s n l).map .tuple
    | .lst l => (rdPs s n l).map .list
    | .rol l => (rdPs s n l).map .list
    | .dct m => (rdPs s n (m.map (·.2))).map fun ps => .dict ((m.map fun p => keyP p.1).zip ps)
    | .cel k => (match s[k]? with
      | some (some (.lst l)) => (rdPs s n l).map .list
      | some (some (.dct m)) => (rdPs s n (m.map (·.2))).map fun ps => .dict ((m.map fun p => keyP p.1).zip ps)
      | some (some (.rod m)) => (rdPs s n (m.map (·.2))).map fun ps => .dict ((m.map fun p => keyP p.1).zip ps)
      | _ => none)
    | _ => none
def rdPs (s : Sto) : Nat → List D → Option (List PyData)
  | 0, _ => none
  | _ + 1, [] => some []
  | n + 1, d :: l => (rdP s n d).bind fun p => (rdPs s n l).map fun ps => p :: ps
end
section
variable {K : Frag} {w : Wd} {s : Sto}
theorem KVR.keyP {l : List (Key × V)} {m : List (Key × D)} (h : KVR K w l m) : (l.map fun p => Mp.keyP p.1) = m.map fun p => Mp.keyP p.1 := by
  have := congrArg (List.map Mp.keyP) h.keys
  rw [List.map_map, List.map_map] at this
  exact this
mutual
theorem rdP_ok (st : StR K w s) : ∀ {n : Nat} {d : D} {v : V} {p : PyData}, Rep K w v d → rdP s n d = some p → Dq K w.H v p
  | 0, _, _, _, _, e => by
    rw [rdP] at e
    cases e
  | n + 1, d, v, p, r, e => by
    cases d with
    | non =>
      simp only [rdP] at e
      cases r
      cases e
      exact .non
    | bl b =>
      simp only [rdP] at e
      cases r
      cases e
      exact .bl b
    | int i =>
      simp only [rdP] at e
      cases r
      cases e
      exact .int i
    | str z =>
      simp only [rdP] at e
      cases r
      cases e
      exact .str z
    | tup l =>
      simp only [rdP] at e
      cases r with
      | tup h1 rs =>
        obtain ⟨ps, e1, rfl⟩ := Option.map_eq_some_iff.mp e
        exact .tup h1.sq (rdPs_ok st rs e1)
    | lst l =>
      simp only [rdP] at e
      cases r with
      | lst z h1 rs =>
        obtain ⟨ps, e1, rfl⟩ := Option.map_eq_some_iff.mp e
        exact .lst (SqL.of h1) (rdPs_ok st rs e1)
    | rol l =>
      simp only [rdP] at e
      cases r with
      | rol h1 rs =>
        obtain ⟨ps, e1, rfl⟩ := Option.map_eq_some_iff.mp e
        exact .lst h1.sq (rdPs_ok st rs e1)
    | dct m =>
      simp only [rdP] at e
      obtain ⟨a, o, l, rfl, _, h1, h2⟩ := r.dct_inv
      obtain ⟨ps, e1, rfl⟩ := Option.map_eq_some_iff.mp e
      rw [← h2.keyP]
      exact .dic (.inr ⟨o, h1⟩) (rdPs_ok st h2.vals e1)
    | cel k =>
      simp only [rdP] at e
      cases r with
      | cel ha =>
        cases hk : s[k]? with
        | none => rw [hk] at e; cases e
        | some oc =>
          rw [hk] at e
          cases oc with
          | none => cases e
          | some c =>
            obtain ⟨a1, h1, _, h3⟩ := st.at_ k c hk
            have ea := Option.some.inj (h1.symm.trans ha)
            subst ea
            cases c with
            | lst l =>
              obtain ⟨vs, hh, rs⟩ := h3
              obtain ⟨ps, e1, rfl⟩ := Option.map_eq_some_iff.mp e
              exact .lst (SqL.of hh) (rdPs_ok st rs e1)
            | dct m =>
              obtain ⟨l, hh, rs⟩ := h3
              obtain ⟨ps, e1, rfl⟩ := Option.map_eq_some_iff.mp e
              rw [← rs.keyP]
              exact .dic (.inl hh) (rdPs_ok st rs.vals e1)
            | rod m =>
              obtain ⟨o, l, _, hh, rs⟩ := h3
              obtain ⟨ps, e1, rfl⟩ := Option.map_eq_some_iff.mp e
              rw [← rs.keyP]
              exact .dic (.inr ⟨o, hh⟩) (rdPs_ok st rs.vals e1)
            | ins C fs => cases e
            | tab x => cases e
    | clo _ _ _ _ _ => simp [rdP] at e
    | ty _ => simp [rdP] at e
    | glo _ => simp [rdP] at e
    | ins _ _ => simp [rdP] at e
    | exn _ _ _ _ => simp [rdP] at e
theorem rdPs_ok (st : StR K w s) : ∀ {n : Nat} {ds : List D} {vs : List V} {ps : List PyData}, Reps K w vs ds → rdPs s n ds = some ps → Dqs K w.H vs ps
  | 0, _, _, _, _, e => by
    rw [rdPs] at e
    cases e
  | n + 1, [], _, _, r, e => by
    rw [rdPs] at e
    cases r
    cases e
    exact .nil
  | n + 1, d :: l, _, _, r, e => by
    rw [rdPs] at e
    cases r with
    | cons r1 r2 =>
      obtain ⟨p, e1, e2⟩ := Option.bind_eq_some_iff.mp e
      obtain ⟨ps, e3, rfl⟩ := Option.map_eq_some_iff.mp e2
      exact .cons (rdP_ok st r1 e1) (rdPs_ok st r2 e3)
end
end
def reprX (ds : List D) (s : Sto) : Res D := match ds with
  | [x] => (match rdP s 99 x with
    | some p => if p.showable = true ∧ p.depth < 60 ∧ p.shown.length ≤ sizeLine then .ok (.str p.shown) s else .bad
    | none => .bad)
  | _ => .bad
def rReprX (K : Frag) : List V → Hp → VK → Prop := fun xs H Q => ∃ v d, xs = [v] ∧ Dq K H v d ∧ d.showable = true ∧ d.depth < 60 ∧ d.shown.length ≤ sizeLine ∧ Q (.str d.shown) H
section
variable {X : Cx} {W : WX}
theorem call_reprX (hS : SysD X.K) (hg : X.A.guards = some []) (hu : X.A.units + 64 < cLine) : CallR X (.builtin "repr") (rReprX X.K) := by
  intro pins s t H xs us Q I r h
  obtain ⟨v, d, rfl, dp, h1, h3, h4, q⟩ := h
  obtain ⟨u, rfl, ru⟩ := vals1 r
  obtain ⟨as, rd, nas⟩ := Dq.reads I hS dp ru
  have fin : ∀ (h' : Heap) (tk : Nat) (tq : Tok), (∀ b o, s.heap.get? b = some o → h'.get? b = some o) → EP X pins t Q (.str d.shown tq) { s with heap := h', toks := tk } := fun h' tk tq k => ⟨.str d.shown, H, I.kept k, ⟨_, rfl⟩, q⟩
  cases u with
  | ref p => exact repr_of_reads' rd h1 (fun _ => nas) hg (by omega) (fun _ _ e => e) (fun h' tq tk k => fin h' tk tq k) h4
  | none =>
    cases rd
    exact PySem.P.repr_of_none (fin s.heap _ _ fun _ _ e => e)
  | bool k =>
    cases rd
    have e : (PyData.bool k).shown = if k = true then Str.ofString "True" else Str.ofString "False" := by
      simp only [PyData.shown]
    rw [e] at fin
    exact PySem.P.repr_of_bool (fin s.heap _ _ fun _ _ e => e)
  | int i tk =>
    cases rd
    have e : (PyData.int i).shown = toString i := by
      simp only [PyData.shown]
    rw [e] at fin
    exact PySem.P.repr_of_int (by simpa [PyData.showable] using h1) (fin s.heap _ _ fun _ _ e => e)
  | str z tk =>
    cases rd
    have e : (PyData.str z).shown = reprText z := by
      simp only [PyData.shown]
    rw [e] at fin h4
    exact PySem.P.repr_of_str (fin s.heap _ _ fun _ _ e => e) h4
  | _ => nomatch rd
theorem v_reprX : VRC X.K (rReprX X.K) reprX := fun w s xs ds Q E st rs hp => by
  unfold reprX at hp
  cases rs with
  | nil => exact hp.elim
  | @cons v d vs ds h1 rs =>
    cases rs with
    | cons _ _ => exact hp.elim
    | nil =>
      dsimp only at hp
      cases e : rdP s 99 d with
      | none => rw [e] at hp; exact hp.elim
      | some p =>
        rw [e] at hp
        dsimp only at hp
        split at hp
        · rename_i hc
          exact ⟨v, p, rfl, rdP_ok st h1 e, hc.1, hc.2.1, hc.2.2, hp.pure st (.str _)⟩
        · exact hp.elim
/-- {} : a new cell -/
def disp0M : DE := fun _ s => .ok (.cel s.length) (s ++ [some (.dct [])])
theorem e_disp0 {pos : Pos} : PE X (.Dict [] [] pos) (tE X.K W disp0M) := PE.imp pe_dnewK fun t H Q h => by
  obtain ⟨r, s, w, rfl, env, st, hp⟩ := h
  intro p np
  have e := Wd.cell_ext st (o := .dK []) np
  exact hp (.ref p) (w.cell s.length p (.dK [])) e (Wd.cell_st st np ⟨[], upd_same, .nil⟩) (.cel (if_pos rfl))
end
abbrev ckSys : Frag → Bool := fun K => match K.lookup sysModules with
  | some o => decide (o.cls = .type "dict")
  | none => false
theorem Fx.sys {P : Program} {fb : List (Frag → Bool)} {fn : List DefM} {K : Frag} {mg : Str → Option Value} (Z : Fx P fb fn K mg) (i : Nat) (h : fb[i]? = some ckSys) : SysD K := by
  have f := Z.fact i h
  dsimp only [ckSys] at f
  cases e : K.lookup sysModules with
  | none => rw [e] at f; cases f
  | some o =>
    rw [e] at f
    exact ⟨o, e, of_decide_eq_true f⟩
end Mp

set_option Elab.async false
set_option linter.all false
set_option maxRecDepth 100000
set_option maxHeartbeats 4000000
/-! Mp: methods of lists and texts. -/
namespace Mp
open PySem PySem.Spec PyProof.Rows L2
def isLstD (s : Sto) (x : D) : Bool := (lstOf s x).isSome
def isStrD (_ : Sto) : D → Bool
  | .str _ => true
  | _ => false
/-- o.m(..), o of a built-in type -/
def bmD (ty : Sto → D → Bool) (f : D → List D → Sto → Res D) (o : DE) (a : DM (List D)) : DE := bindM o fun x => fun r s => if ty s x = true then bindM a (fun ds => fun _ s => f x ds s) r s else .bad
def bm0D (ty : Sto → D → Bool) (f : D → List D → Sto → Res D) (o : DE) : DE := bindM o fun x => fun _ s => if ty s x = true then f x [] s else .bad
def TyOk (K : Frag) (T : String) (ty : Sto → D → Bool) : Prop := ∀ w s x d, StR K w s → Rep K w x d → ty s d = true → tyV K T x w.H
def VRM (K : Frag) (r : V → List V → Hp → VK → Prop) (f : D → List D → Sto → Res D) : Prop := ∀ w s x xs d ds Q E, StR K w s → Rep K w x d → Reps K w xs ds → Post K (Rep K) w E Q (f d ds s) → r x xs w.H Q
theorem ty_str {K : Frag} : TyOk K "str" isStrD := fun w s x d st r h => by
  cases r with
  | str z => rfl
  | _ => cases h
theorem ty_lst {K : Frag} : TyOk K "list" isLstD := fun w s x d st r h => by
  unfold isLstD at h
  cases e : lstOf s d with
  | none => rw [e] at h; cases h
  | some l =>
    obtain ⟨p, vs, rfl, hs, _⟩ := lstOf_ok st r e
    exact .inl ⟨rfl, vs, hs⟩
section
variable {X : Cx} {W : WX} {o e : Expr} {es : List Expr} {apos cpos : Pos} {mo : DE} {ma : DM (List D)} {T id : String} {name : Str} {r : V → List V → Hp → VK → Prop} {ty : Sto → D → Bool} {f : D → List D → Sto → Res D}
theorem e_bm (pa : PlainAttrs T) (slot : Slot T name id) (hty : typeOf (.builtin id) = pure (.type "method_descriptor")) (hm : MtR X id r) (hT : TyOk X.K T ty) (hv : VRM X.K r f) (ho : PE X o (tE X.K W mo)) (ha : PA X (e :: es) (tA X.K W ma))
    (hbase : attributeBase o name X.env (eval o X.env) = eval o X.env := by rfl)
    (hfew : ((backTo cpos (starEach (e :: es) X.env)).all (fun x => !x.1) && (backToKw cpos (keywordEach [] X.env)).all (fun x => x.1.isSome)
      && decide ((e :: es).length + ([] : List Keyword).length + (if ([] : List Keyword).isEmpty then 0 else 1) < 30)) = true := by rfl)
    (hline : (apos.endLine == cpos.line) = true := by rfl) (hs : starEach (e :: es) X.env = (false, eval e X.env) :: starEach es X.env := by rfl) (hplain : (backTo cpos (starEach es X.env)).any (·.1) = false := by rfl) :
    PE X (.Call (.Attribute o name apos) (e :: es) [] cpos) (tE X.K W (bmD ty f mo ma)) := PE.imp (pe_bm pa slot hty hm ho ha hbase hfew hline hs hplain) fun t H Q h => by
  obtain ⟨r, s, w, rfl, env, st, hp⟩ := h
  exact hp.bind env st fun x d s1 w1 e1 st1 r1 hp1 => by
    by_cases hk : ty s1 d = true
    · rw [if_pos hk] at hp1
      exact ⟨hT w1 s1 x d st1 r1 hk, hp1.bind (env.ext e1) st1 fun xs ds s2 w2 e2 st2 r2 hp2 => hv w2 s2 x xs d ds Q _ st2 (r1.ext e2) r2 hp2⟩
    · rw [if_neg hk] at hp1
      exact hp1.elim
theorem e_bm0 (pa : PlainAttrs T) (slot : Slot T name id) (hty : typeOf (.builtin id) = pure (.type "method_descriptor")) (hm : MtR X id r) (hT : TyOk X.K T ty) (hv : VRM X.K r f) (ho : PE X o (tE X.K W mo))
    (hbase : attributeBase o name X.env (eval o X.env) = eval o X.env := by rfl) (hline : (apos.endLine == cpos.line) = true := by rfl) : PE X (.Call (.Attribute o name apos) [] [] cpos) (tE X.K W (bm0D ty f mo)) := PE.imp (pe_bm0 pa slot hty hm ho hbase hline) fun t H Q h => by
  obtain ⟨r, s, w, rfl, env, st, hp⟩ := h
  exact hp.bind env st fun x d s1 w1 e1 st1 r1 hp1 => by
    by_cases hk : ty s1 d = true
    · rw [if_pos hk] at hp1
      exact ⟨hT w1 s1 x d st1 r1 hk, hv w1 s1 x [] d [] Q _ st1 r1 .nil hp1⟩
    · rw [if_neg hk] at hp1
      exact hp1.elim
end
/-! ### lists -/
theorem Reps.one {K : Frag} {w : Wd} {xs : List V} {d : D} (h : Reps K w xs [d]) : ∃ x, xs = [x] ∧ Rep K w x d := by
  cases h with
  | cons q r => cases r; exact ⟨_, rfl, q⟩
theorem cel_lst {K : Frag} {w : Wd} {s : Sto} {x : V} {n : Nat} {l : List D} (st : StR K w s) (r : Rep K w x (.cel n)) (h : s[n]? = some (some (.lst l))) : ∃ a vs, x = .ref a ∧ w.A n = some a ∧ ¬ w.Z a ∧ ¬ w.P a ∧ w.H a = some (.lst vs) ∧ Reps K w vs l := by
  cases r with
  | @cel n a0 hA =>
    obtain ⟨a1, h1, hz, hc⟩ := st.at_ n _ h
    have ea : a1 = a0 := Option.some.inj (h1.symm.trans hA)
    subst ea
    obtain ⟨vs, hh, rs⟩ := hc
    exact ⟨a1, vs, rfl, h1, hz, st.np n _ a1 h h1, hh, rs⟩
/-- a list in a cell is changed, something is told -/
theorem cel_set {K : Frag} {w : Wd} {s : Sto} {n : Nat} {l l2 : List D} {a : Addr} {vs2 : List V} {v : V} {d : D} {Q : VK} {E : XK} (st : StR K w s) (h : s[n]? = some (some (.lst l))) (hA : w.A n = some a) (hz : ¬ w.Z a) (hP : ¬ w.P a) (rs : Reps K w vs2 l2) (rv : Rep K w v d)
    (hp : Post K (Rep K) w E Q (.ok d (s.set n (some (.lst l2))))) : Q v (upd w.H a (.lst vs2)) := by
  have e3 : Ext w (w.put a (.lst vs2)) := Wd.mut_ext hz hP
  exact hp v (w.put a (.lst vs2)) e3 (Wd.mut_st st h hA hz ⟨_, upd_same, rs.ext e3⟩) (rv.ext e3)
theorem v_app {K : Frag} : VRM K rAppend appD := fun w s x xs d ds Q E st r rs hp => by
  unfold appD at hp
  split at hp
  · split at hp
    · split at hp
      · split at hp
        · rename_i _ n _ l h _ d2 hl
          obtain ⟨a, vs, rfl, hA, hz, hP, hh, rv⟩ := cel_lst st r h
          obtain ⟨y, rfl, ry⟩ := rs.one
          exact ⟨a, vs, y, rfl, rfl, hh, by rw [rv.length]; exact hl, cel_set st h hA hz hP (rv.append (.cons ry .nil)) .non hp⟩
        · exact hp.elim
      · exact hp.elim
    · exact hp.elim
  · exact hp.elim
def extD (x : D) (ds : List D) (s : Sto) : Res D := match x with
  | .cel n => (match s[n]? with
    | some (some (.lst l)) => (match ds with
      | [d] => (match lstX s d with
        | some l2 => if l.length + l2.length ≤ sizeLine then .ok .non (s.set n (some (.lst (l ++ l2)))) else .bad
        | none => .bad)
      | _ => .bad)
    | _ => .bad)
  | _ => .bad
theorem v_ext {K : Frag} : VRM K rExtend extD := fun w s x xs d ds Q E st r rs hp => by
  unfold extD at hp
  split at hp
  · split at hp
    · split at hp
      · split at hp
        · split at hp
          · rename_i _ n _ l h _ d2 _ l2 h2 hl
            obtain ⟨a, vs, rfl, hA, hz, hP, hh, rv⟩ := cel_lst st r h
            obtain ⟨y, rfl, ry⟩ := rs.one
            obtain ⟨b, zs, rfl, hb, rz⟩ := lstX_ok st ry h2
            exact ⟨a, b, vs, zs, rfl, rfl, hh, hb, by rw [rv.length, rz.length]; exact hl, cel_set st h hA hz hP (rv.append rz) .non hp⟩
          · exact hp.elim
        · exact hp.elim
      · exact hp.elim
    · exact hp.elim
  · exact hp.elim
theorem Reps.eraseIdx {K : Frag} {w : Wd} : ∀ {vs : List V} {ds : List D} (i : Nat), Reps K w vs ds → Reps K w (vs.eraseIdx i) (ds.eraseIdx i)
  | _, _, _, .nil => .nil
  | _, _, 0, .cons _ t => t
  | _, _, i + 1, .cons r t => .cons r (t.eraseIdx i)
/-- xs.pop(i) -/
@[irreducible] def popD (x : D) (ds : List D) (s : Sto) : Res D := match x with
  | .cel n => (match s[n]? with
    | some (some (.lst l)) => (match ds with
      | [.int i] => if -(2 ^ 63) ≤ i ∧ i < 2 ^ 63 then (match seqIndex? i l.length with
        | some k => (match l[k]? with
          | some d => .ok d (s.set n (some (.lst (l.eraseIdx k))))
          | none => .bad)
        | none => .bad) else .bad
      | _ => .bad)
    | _ => .bad)
  | _ => .bad
theorem v_pop {K : Frag} : VRM K rPopAt popD := fun w s x xs d ds Q E st r rs hp => by
  unfold popD at hp
  split at hp
  · split at hp
    · split at hp
      · split at hp
        · split at hp
          · split at hp
            · rename_i _ n _ l h _ i hi _ k hk _ d2 hd
              obtain ⟨a, vs, rfl, hA, hz, hP, hh, rv⟩ := cel_lst st r h
              obtain ⟨y, rfl, ry⟩ := rs.one
              cases ry
              obtain ⟨v, hv, rd⟩ := rv.get hd
              exact ⟨a, vs, i, k, v, rfl, rfl, hh, hi.1, hi.2, by rw [rv.length]; exact hk, hv, cel_set st h hA hz hP (rv.eraseIdx k) rd hp⟩
            · exact hp.elim
          · exact hp.elim
        · exact hp.elim
      · exact hp.elim
    · exact hp.elim
  · exact hp.elim
/-! ### texts -/
def strsOf : List D → Option (List Str)
  | [] => some []
  | .str z :: r => (strsOf r).map fun l => z :: l
  | _ :: _ => none
theorem strsOf_ok {K : Frag} {w : Wd} : ∀ {vs : List V} {ds : List D} {l : List Str}, Reps K w vs ds → strsOf ds = some l → vs = l.map V.str
  | _, _, _, .nil, h => by cases h; rfl
  | _, d :: ds, l, .cons r t, h => by
    cases r with
    | str z =>
      have h' : (strsOf ds).map (fun l => z :: l) = some l := h
      cases e : strsOf ds with
      | none => rw [e] at h'; cases h'
      | some l2 =>
        rw [e] at h'
        cases h'
        rw [strsOf_ok t e]
        rfl
    | _ => cases h
@[irreducible] def joinD (x : D) (ds : List D) (s : Sto) : Res D := match x with
  | .str a => (match ds with
    | [d] => (match lstOf s d with
      | some l => (match strsOf l with
        | some ys => if (ys.map (·.length)).sum + ys.length * a.length ≤ 16777216 then .ok (.str (Txt.join a ys)) s else .bad
        | none => .bad)
      | none => .bad)
    | _ => .bad)
  | _ => .bad
theorem v_join {K : Frag} : VRM K (fun x xs H Q => ∃ a p, ∃ ys : List Str, x = .str a ∧ xs = [.ref p] ∧ (SqL K H p (ys.map V.str) ∨ SqT K H p (ys.map V.str)) ∧
    (ys.map (·.length)).sum + ys.length * a.length ≤ 16777216 ∧ Q (.str (Txt.join a ys)) H) joinD := fun w s x xs d ds Q E st r rs hp => by
  unfold joinD at hp
  split at hp
  · split at hp
    · split at hp
      · split at hp
        · split at hp
          · rename_i _ a _ d2 _ l h _ ys hy hl
            cases r
            obtain ⟨y, rfl, ry⟩ := rs.one
            obtain ⟨p, vs, rfl, hs, rv⟩ := lstOf_ok st ry h
            have ev := strsOf_ok rv hy
            subst ev
            exact ⟨a, p, ys, rfl, rfl, .inl hs, hl, hp.pure st (.str _)⟩
          · exact hp.elim
        · exact hp.elim
      · exact hp.elim
    · exact hp.elim
  · exact hp.elim
def startsD (x : D) (ds : List D) (s : Sto) : Res D := match x with
  | .str a => (match ds with
    | [.str b] => .ok (.bl (Txt.startswith a b)) s
    | _ => .bad)
  | _ => .bad
theorem v_starts {K : Frag} : VRM K (fun x xs H Q => ∃ a b, x = .str a ∧ xs = [.str b] ∧ Q (.bl (Txt.startswith a b)) H) startsD := fun w s x xs d ds Q E st r rs hp => by
  unfold startsD at hp
  split at hp
  · split at hp
    · rename_i _ a _ b
      cases r
      obtain ⟨y, rfl, ry⟩ := rs.one
      cases ry
      exact ⟨a, b, rfl, rfl, hp.pure st (.bl _)⟩
    · exact hp.elim
  · exact hp.elim
end Mp

set_option Elab.async false
set_option linter.all false
set_option maxRecDepth 100000
set_option maxHeartbeats 4000000
/-! Mp: dict comprehensions. -/
namespace Mp
open PySem PySem.Spec PyProof.Rows L2
open Classical in
noncomputable def dcF (c : Src) (g : DG) (tt : DM Bool) (tk te : DE) (r : En) : List D → List (Key × D) → Sto → Res (List (Key × D))
  | [], acc, s => if SrcOk c s then .ok acc s else .bad
  | d :: l, acc, s => if SrcOk c s then (match g d r s with
    | none => .bad
    | some p => (match tt p.1 p.2 with
      | .ok k s1 => if k = true then (match tk p.1 s1 with
        | .ok y s2 => (match te p.1 s2 with
          | .ok z s3 => (match keyD y with
            | some q => if acc.length < sizeLine then dcF c g tt tk te r l (putA acc q z) s3 else .bad
            | none => .bad)
          | _ => .bad)
        | _ => .bad) else dcF c g tt tk te r l acc s1
      | _ => .bad)) else .bad
/-- {k: v for ..}: frozen at once -/
noncomputable def dcM (mi : DM Src) (g : DG) (tt : DM Bool) (tk te : DE) (vs : List Nat) : DE := bindM mi fun c => fun r s => match dcF c g tt tk te (wipeE r vs) c.its [] s with
  | .ok acc s' => .ok (.dct acc) s'
  | _ => .bad
theorem unpin_frz {K : Frag} {w0 w : Wd} {s : Sto} {p : Addr} {l : List (Key × V)} {m : List (Key × D)} (e : Ext w0 w) (st : StR K w s) (h1 : ¬ w0.P p) (hz : ¬ w0.Z p) (hP : w.P p) (kv : KVR K w l m) (o : Obj) :
    ∃ w2 : Wd, w2.H = upd w.H p (.frz o (.dK l)) ∧ Ext w0 w2 ∧ StR K w2 s ∧ Rep K w2 (.ref p) (.dct m) := by
  let w2 : Wd := ⟨w.A, fun a => w.Z a ∨ a = p, fun a => w.P a ∧ a ≠ p, upd w.H p (.frz o (.dK l))⟩
  have e0 : Ex0 w w2 := ⟨fun _ _ h => h, fun _ h => .inl h, fun a z => upd_ne fun q => (st.pz p hP).1 (q ▸ z)⟩
  refine ⟨w2, rfl, ⟨⟨e.A, fun a z => .inl (e.Z a z), fun a z => (show upd w.H p _ a = w.H a from upd_ne fun q => hz (q ▸ z)).trans (e.H a z)⟩, fun a z => ⟨e.P a z, fun q => h1 (q ▸ z)⟩, fun a z => (show upd w.H p _ a = w.H a from upd_ne fun q => h1 (q ▸ z)).trans (e.HP a z)⟩,
    ⟨fun n ct q => ?_, fun n ct a q ha z => st.np n ct a q ha z.1, fun a z => ⟨fun q => q.elim (st.pz a z.1).1 z.2, ?_⟩, st.inj, fun a z => ?_, st.new⟩, Rep.dctK (w := w2) (.inr rfl) upd_same (kv.ex0 e0)⟩
  · obtain ⟨a, k1, k2, k3⟩ := st.at_ n ct q
    have ne : a ≠ p := fun z => st.np n ct a q k1 (z ▸ hP)
    exact ⟨a, k1, k2.mono (w' := w2) fun (z : w.Z a ∨ a = p) => Or.elim z id fun z => absurd z ne, k3.sam0 e0 (upd_ne ne)⟩
  · rw [show w2.H a = w.H a from upd_ne z.2]
    exact (st.pz a z.1).2
  · show upd w.H p _ a ≠ none
    by_cases hb : a = p
    · rw [hb, upd_same]
      exact fun z => nomatch z
    · rw [upd_ne hb]
      exact st.fz a (Or.elim z id fun q => absurd q hb)
theorem dc_imp {K : Frag} {W : WX} {mi : DM Src} {g : DG} {tt : DM Bool} {tk te : DE} {ns : List Nat} {t : L2.St} {H : Hp} {Q : VK} (h : tE K W (dcM mi g tt tk te ns) t H Q) : tDc (tI K W mi) (tGw K g ns) (tT K W0 tt) (tE K W0 tk) (tE K W0 te) ns t H (fun v H1 => Q v H1 ∨ ∃ d u, v = .ref d ∧ H1 d = some u ∧ Mut (some u) ∧ ∀ od, Q v (upd H1 d (.frz od u))) := by
  obtain ⟨r, s, w, rfl, env, st, hp⟩ := h
  exact hp.bind env st fun J sc s1 w1 e1 st1 r1 hp1 => by
    obtain ⟨its, cl⟩ := sc
    intro Dn nD
    have hz : ¬ w1.Z Dn := fun z => st1.fz Dn z nD
    have hP : ¬ w1.P Dn := fun z => (st1.pz Dn z).2 nD
    have env1 := env.ext e1
    cases ef : dcF ⟨its, cl⟩ g tt tk te (wipeE r ns) its [] s1 with
    | exc C fs s' => simp only [ef] at hp1; exact hp1.elim
    | bad => simp only [ef] at hp1; exact hp1.elim
    | ok fin sf =>
      simp only [ef] at hp1
      refine ⟨fun i m H => i + m = its.length ∧ ∃ (w : Wd) (s : Sto) (acc : List (Key × D)) (vs : List (Key × V)), w.H = H ∧ Ext w1 w ∧ StR K w s ∧ w.P Dn ∧ w.H Dn = some (.dK vs) ∧ KVR K w vs acc ∧ dcF ⟨its, cl⟩ g tt tk te (wipeE r ns) (its.drop i) acc s = .ok fin sf,
        ⟨its.length, Nat.zero_add _, w1.pin Dn (.dK []), s1, [], [], rfl, Wd.pin_ext st1 nD, Wd.pin_st st1 nD, .inr rfl, upd_same, .nil, ef⟩, fun i m H h => ?_⟩
      obtain ⟨him, w2, s2, acc, vs, rfl, x2, st2, hP2, hh2, rs2, ef2⟩ := h
      cases m with
      | zero =>
        have hi : i = its.length := by omega
        subst hi
        rw [List.drop_length] at ef2
        unfold dcF at ef2
        by_cases ck : SrcOk ⟨its, cl⟩ s2
        · rw [if_pos ck] at ef2
          cases ef2
          refine .inl ⟨r1.stop w2 sf x2 st2 ck, .inr ⟨Dn, .dK vs, rfl, hh2, trivial, fun od => ?_⟩⟩
          obtain ⟨w9, h9, x9, st9, r9⟩ := unpin_frz x2 st2 hP hz hP2 rs2 od
          have z := hp1 (.ref Dn) w9 x9 st9 r9
          rw [h9] at z
          exact z
        · rw [if_neg ck] at ef2
          cases ef2
      | succ m =>
        have hlt : i < its.length := by omega
        have hd : its[i]? = some its[i] := List.getElem?_eq_getElem hlt
        rw [List.drop_eq_getElem_cons hlt] at ef2
        unfold dcF at ef2
        by_cases ck : SrcOk ⟨its, cl⟩ s2
        rotate_left
        · rw [if_neg ck] at ef2
          cases ef2
        rw [if_pos ck] at ef2
        obtain ⟨hgo, hy⟩ := r1.go i _ w2 s2 hd x2 st2 ck
        refine .inr ⟨hgo, fun H' => i + 1 + m = its.length ∧ ∃ (w : Wd) (s : Sto) (acc : List (Key × D)) (vs : List (Key × V)), w.H = H' ∧ Ext w1 w ∧ StR K w s ∧ w.P Dn ∧ w.H Dn = some (.dK vs) ∧ KVR K w vs acc ∧ dcF ⟨its, cl⟩ g tt tk te (wipeE r ns) (its.drop (i + 1)) acc s = .ok fin sf,
          fun H' q => ⟨m, Nat.lt_succ_self m, q⟩, fun x H' yl => ?_⟩
        obtain ⟨w3, x3, rfl, st3, rx⟩ := hy x H' yl
        refine ⟨wipeE r ns, s2, w3, its[i], rfl, (wipe_env env1 ns).ext (x2.trans x3), st3, rx, ?_⟩
        cases eg : g its[i] (wipeE r ns) s2 with
        | none => rw [eg] at ef2; cases ef2
        | some p =>
          rw [eg] at ef2
          dsimp only at ef2
          intro t4 w4 x4 env4 st4 wi4
          refine ⟨?_, ?_⟩
          · have ww : wipe (wipe t ns) ns = wipe t ns := by
              have key : ∀ ms : List Nat, (∀ j ∈ ms, j ∈ ns) → wipe (wipe t ms) ns = wipe t ns := by
                intro ms
                induction ms with
                | nil => intro _; rfl
                | cons j ms ih =>
                  intro hj
                  show wipe ((wipe t ms).set j none) ns = wipe t ns
                  rw [wipe_set (hj j List.mem_cons_self)]
                  exact ih fun q hq => hj q (List.mem_cons_of_mem _ hq)
              exact key ns fun j hj => hj
            rw [← ww]
            exact wi4
          · refine ⟨p.1, p.2, w4, rfl, env4, st4, ?_⟩
            cases et : tt p.1 p.2 with
            | exc C fs s' => rw [et] at ef2; cases ef2
            | bad => rw [et] at ef2; cases ef2
            | ok kk s5 =>
              rw [et] at ef2
              dsimp only at ef2
              intro b w5 x5 st5 eb
              subst eb
              have x25 := ((x2.trans x3).trans x4).trans x5
              have x5' := (x3.trans x4).trans x5
              cases b with
              | false => exact ⟨by omega, w5, s5, acc, vs, rfl, x25, st5, x5'.P Dn hP2, (x5'.HP Dn hP2).trans hh2, rs2.ext x5', ef2⟩
              | true =>
                refine ⟨p.1, s5, w5, rfl, env4.ext x5, st5, ?_⟩
                simp only [if_true] at ef2
                cases ek : tk p.1 s5 with
                | exc C fs s' => rw [ek] at ef2; cases ef2
                | bad => rw [ek] at ef2; cases ef2
                | ok yk s5k =>
                rw [ek] at ef2
                dsimp only at ef2
                intro vk wk xk stk rvk
                refine ⟨p.1, s5k, wk, rfl, (env4.ext x5).ext xk, stk, ?_⟩
                cases ee : te p.1 s5k with
                | exc C fs s' => rw [ee] at ef2; cases ef2
                | bad => rw [ee] at ef2; cases ef2
                | ok y s6 =>
                  rw [ee] at ef2
                  dsimp only at ef2
                  cases eq : keyD yk with
                  | none => rw [eq] at ef2; cases ef2
                  | some key =>
                  rw [eq] at ef2
                  dsimp only at ef2
                  by_cases hl : acc.length < sizeLine
                  rotate_left
                  · rw [if_neg hl] at ef2
                    cases ef2
                  rw [if_pos hl] at ef2
                  intro v w6 x6 st6 rv
                  have x6' := (x5'.trans xk).trans x6
                  have P6 := x6'.P Dn hP2
                  have H6 : w6.H Dn = some (.dK vs) := (x6'.HP Dn hP2).trans hh2
                  have e0 := Wd.turn_ex0 (o := .dK (L2.putK vs key v)) st6 P6
                  refine ⟨vs, key, keyD_ok rvk eq, H6, by rw [rs2.length]; exact hl, by omega, w6.put Dn (.dK (L2.putK vs key v)), s6, putA acc key y, L2.putK vs key v, rfl, Wd.turn_ext ((x25.trans xk).trans x6) hz hP, Wd.turn_st st6 P6, P6, upd_same, ?_, ef2⟩
                  exact ((rs2.ext x6').ex0 e0).putK (rv.ex0 e0)
section
variable {X : Cx} {W : WX} {kx vx tg iter : Expr} {ifs : List Expr} {scope : Scope} {own : List (Str × Nat)} {pos : Pos} {mi : DM Src} {g : DG} {tt : DM Bool} {tk te : DE}
theorem e_dc (hc : X.calm = true) (hN : X.N.Nodup) (hi : PI X tg iter (tI X.K W mi)) (ok : BlkOk X.N X.env.scope scope own)
    (hg : ∀ (s : Shared) (H : Hp) (C : Addr) (cl : List (Str × Addr)) (fp : List Addr), PG (X.blk s H scope (compEnvC scope cl C X.env) fp) tg (tGw X.K g (own.map (·.2))))
    (ht : ∀ (s : Shared) (H : Hp) (C : Addr) (cl : List (Str × Addr)) (fp : List Addr), PTs (X.blk s H scope (compEnvC scope cl C X.env) fp) ifs (tT X.K W0 tt))
    (hk : ∀ (s : Shared) (H : Hp) (C : Addr) (cl : List (Str × Addr)) (fp : List Addr), PE (X.blk s H scope (compEnvC scope cl C X.env) fp) kx (tE X.K W0 tk))
    (he : ∀ (s : Shared) (H : Hp) (C : Addr) (cl : List (Str × Addr)) (fp : List Addr), PE (X.blk s H scope (compEnvC scope cl C X.env) fp) vx (tE X.K W0 te)) (hs : ∀ x, foldedSetIterable iter X.env x = pure x := by intro _; rfl) :
    PE X (.DictComp kx vx [⟨tg, iter, ifs, 0⟩] scope pos) (tE X.K W (dcM mi g tt tk te (own.map (·.2)))) := PE.imp (pe_frz (pe_dc hc hN hi ok hg ht hk he hs)) fun t H Q h => dc_imp h
end
end Mp

set_option Elab.async false
set_option linter.all false
set_option maxRecDepth 100000
set_option maxHeartbeats 4000000
/-! Mp: sorted, dict(..). -/
namespace Mp
open PySem PySem.Spec PyProof.Rows L2
def leI2 (a b : Int) : Bool := decide (a ≤ b)
def leS (a b : Str) : Bool := !decide (b.cps.toList < a.cps.toList)
theorem leI2_uniq {a b : List Int} (h1 : a.Perm b) (h2 : a.Pairwise (· ≤ ·)) : a = b.mergeSort leI2 := by
  refine List.Perm.eq_of_pairwise (le := (· ≤ ·)) (fun x y _ _ h k => Int.le_antisymm h k) h2 ?_ (h1.trans (List.mergeSort_perm b leI2).symm)
  have q := List.pairwise_mergeSort (le := leI2) (fun a b c h k => by simp only [leI2, decide_eq_true_eq] at *; omega) (fun a b => by simp only [leI2, Bool.or_eq_true, decide_eq_true_eq]; omega) b
  exact q.imp fun h => of_decide_eq_true h
theorem leS_trans (a b c : Str) (h : leS a b = true) (k : leS b c = true) : leS a c = true := by
  simp only [leS, Bool.not_eq_true', decide_eq_false_iff_not] at *
  rw [List.not_lt] at *
  exact List.le_trans h k
theorem leS_total (a b : Str) : (leS a b || leS b a) = true := by
  simp only [leS, Bool.or_eq_true, Bool.not_eq_true', decide_eq_false_iff_not, List.not_lt]
  exact List.le_total _ _
theorem leS_anti (a b : Str) (h : leS a b = true) (k : leS b a = true) : a = b := by
  simp only [leS, Bool.not_eq_true', decide_eq_false_iff_not, List.not_lt] at *
  have := List.le_antisymm h k
  cases a; cases b
  congr
  exact Array.toList_inj.mp this
theorem rising_pw : ∀ (l : List Str) (x : Str), risingS x l = true → (x :: l).Pairwise fun a b => leS a b = true
  | [], x, _ => List.pairwise_singleton _ _
  | y :: l, x, h => by
    unfold risingS at h
    have h' := h
    simp only [Bool.and_eq_true] at h'
    have ih := rising_pw l y h'.2
    have xy : leS x y = true := by
      have q := h'.1
      rw [PyProof.Rows.ltCps_eq] at q
      exact q
    refine List.Pairwise.cons (fun z hz => ?_) ih
    rcases List.mem_cons.mp hz with rfl | hz
    · exact xy
    · exact leS_trans _ _ _ xy (List.rel_of_pairwise_cons ih hz)
theorem sortedS_uniq {a b : List Str} (h1 : a.Perm b) (h2 : sortedS a = true) : a = b.mergeSort leS := by
  refine List.Perm.eq_of_pairwise (le := fun a b => leS a b = true) (fun x y _ _ h k => leS_anti x y h k) ?_ (List.pairwise_mergeSort leS_trans leS_total b) (h1.trans (List.mergeSort_perm b leS).symm)
  cases a with
  | nil => exact .nil
  | cons x l => exact rising_pw l x h2
def keysS : List (Key × D) → Option (List Str)
  | [] => some []
  | (.inr z, _) :: r => (keysS r).map fun l => z :: l
  | _ :: _ => none
theorem keysS_ok {K : Frag} {w : Wd} : ∀ {kvs : List (Key × V)} {m : List (Key × D)} {l : List Str}, KVR K w kvs m → keysS m = some l → kvs.map (·.1) = l.map Sum.inr
  | _, _, _, .nil, h => by cases h; rfl
  | _, (.inr z, d) :: m, l, .cons r t, h => by
    have h' : (keysS m).map (fun l => z :: l) = some l := h
    cases e : keysS m with
    | none => rw [e] at h'; cases h'
    | some l2 =>
      rw [e] at h'
      cases h'
      rw [List.map_cons, List.map_cons, keysS_ok t e]
  | _, (.inl _, _) :: _, _, .cons _ _, h => by cases h
/-- sorted(d) of texts, sorted(xs) of ints or texts -/
@[irreducible] def sortedD (ds : List D) (s : Sto) : Res D := match ds with
  | [x] => (match dctOf s x with
    | some m => (match keysS m with
      | some ks => if ks.length < 64 then .ok (.lst ((ks.mergeSort leS).map .str)) s else .bad
      | none => .bad)
    | none => (match lstOf s x with
      | some l => (match intsOf l with
        | some ns => .ok (.lst ((ns.mergeSort leI2).map .int)) s
        | none => (match strsOf l with
          | some zs => if zs.length < 64 then .ok (.lst ((zs.mergeSort leS).map .str)) s else .bad
          | none => .bad))
      | none => .bad))
  | _ => .bad
theorem reps_strs {K : Frag} {w : Wd} : ∀ l : List Str, Reps K w (l.map V.str) (l.map D.str)
  | [] => .nil
  | z :: l => .cons (.str z) (reps_strs l)
theorem reps_ints {K : Frag} {w : Wd} : ∀ l : List Int, Reps K w (l.map V.int) (l.map D.int)
  | [] => .nil
  | z :: l => .cons (.int z) (reps_ints l)
section
variable {X : Cx}
abbrev rSrtAll (K : Frag) : List V → Hp → VK → Prop := fun xs H Q => (∃ (a : Addr) (kvs : List (Key × V)) (ks : List Str), xs = [.ref a] ∧ Rd H a (.dK kvs) ∧ kvs.map (·.1) = ks.map Sum.inr ∧ ks.length < 64 ∧
    ∀ ys p, ys.Perm ks → sortedS ys = true → H p = none → Q (.ref p) (upd H p (.lst (ys.map V.str)))) ∨ rSortedI K xs H Q ∨ rSortedS K xs H Q
theorem cr_sortedAll (hc : X.calm = true) : CallR X (.builtin "sorted") (rSrtAll X.K) := CallR.or (call_sortedD hc) (CallR.or cr_sortedI cr_sortedS)
theorem v_sorted : VRC X.K (rSrtAll X.K) sortedD := fun w s xs ds Q E st rs hp => by
  unfold sortedD at hp
  split at hp
  · obtain ⟨x, rfl, rx⟩ := rs.one
    split at hp
    · split at hp
      · split at hp
        · rename_i _ d _ m hm _ ks hk h64
          obtain ⟨p, l, rfl, hr, kv⟩ := dctOf_ok st rx hm
          refine .inl ⟨p, l, ks, rfl, hr, keysS_ok kv hk, h64, fun ys q h1 h2 np => ?_⟩
          rw [sortedS_uniq h1 h2]
          exact hp.frz st (fun q nq => rep_newL st (reps_strs _) nq) q np
        · exact hp.elim
      · exact hp.elim
    · split at hp
      · split at hp
        · rename_i _ d _ hm _ l hl _ ns hn
          obtain ⟨p, vs, rfl, hr, rv⟩ := lstOf_ok st rx hl
          have ev := intsOf_ok rv hn
          subst ev
          refine .inr (.inl ⟨p, ns, rfl, hr, fun ys q h1 h2 np => ?_⟩)
          rw [leI2_uniq h1 h2]
          exact hp.frz st (fun q nq => rep_newL st (reps_ints _) nq) q np
        · split at hp
          · split at hp
            · rename_i _ d _ hm _ l hl _ hn _ zs hz h64
              obtain ⟨p, vs, rfl, hr, rv⟩ := lstOf_ok st rx hl
              have ev := strsOf_ok rv hz
              subst ev
              refine .inr (.inr ⟨p, zs, rfl, hr, h64, fun ys q h1 h2 np => ?_⟩)
              rw [sortedS_uniq h1 h2]
              exact hp.frz st (fun q nq => rep_newL st (reps_strs _) nq) q np
            · exact hp.elim
          · exact hp.elim
      · exact hp.elim
  · exact hp.elim
end
end Mp

set_option Elab.async false
set_option linter.all false
set_option maxRecDepth 100000
set_option maxHeartbeats 1000000
/-! Mp: zip(*rows), rows a tuple of tuples of one length: at the library's level. -/
namespace ZN
open PySem RZ
open PySem.Sem (wp)
/-- .ref it, .ref (it + 1), .. -/
def refs : Nat → Nat → List Value
  | _, 0 => []
  | it, n + 1 => .ref it :: refs (it + 1) n
theorem refs_length : ∀ (n : Nat) (it : Nat), (refs it n).length = n
  | 0, _ => rfl
  | n + 1, it => congrArg (· + 1) (refs_length n (it + 1))
/-- iterators it, it + 1, .. over the tuples ls (below B), all at place k, with the items xs there -/
def Ready (h : Heap) (B k : Nat) : Nat → List Addr → List Value → Prop
  | _, [], xs => xs = []
  | it, l :: ls, xs => ∃ x xs', xs = x :: xs' ∧ h.IsTupleIter it l k ∧ @LT.lt Nat _ l B ∧ (∃ items, h.IsTuple l items ∧ items[k]? = some x) ∧ Ready h B k (it + 1) ls xs'
def After (h : Heap) (k : Nat) : Nat → List Addr → Prop
  | _, [] => True
  | it, l :: ls => h.IsTupleIter it l k ∧ After h k (it + 1) ls
theorem Ready.stay {B k : Nat} {h h' : Heap} : ∀ {ls : List Addr} {it : Nat} {xs : List Value}, (∀ (c : Nat) (o : Obj), (c < B ∨ it ≤ c ∧ c < it + ls.length) → h.get? c = some o → h'.get? c = some o) → Ready h B k it ls xs → Ready h' B k it ls xs
  | [], _, _, _, r => r
  | l :: ls, it, xs, k1, ⟨x, xs', e, h1, h2, ⟨items, ⟨o, ho, hr⟩, hx⟩, h4⟩ => ⟨x, xs', e, h1.at fun o q => k1 it o (.inr ⟨Nat.le_refl _, by simp⟩) q, h2, ⟨items, ⟨o, k1 l o (.inl h2) ho, hr⟩, hx⟩,
      Ready.stay (fun (c : Nat) (o : Obj) hc q => k1 c o (hc.imp id fun z => ⟨by omega, by simp only [List.length_cons]; omega⟩) q) h4⟩
theorem After.stay {k : Nat} {h h' : Heap} : ∀ {ls : List Addr} {it : Nat}, (∀ (c : Nat) (o : Obj), it ≤ c ∧ c < it + ls.length → h.get? c = some o → h'.get? c = some o) → After h k it ls → After h' k it ls
  | [], _, _, _ => trivial
  | l :: ls, it, k1, ⟨h1, h4⟩ => ⟨h1.at fun o q => k1 it o ⟨Nat.le_refl _, by simp⟩ q, After.stay (fun (c : Nat) (o : Obj) hc q => k1 c o ⟨by omega, by simp only [List.length_cons]; omega⟩ q) h4⟩
theorem After.get {k : Nat} {h : Heap} : ∀ {ls : List Addr} {it : Nat} {c : Nat}, After h k it ls → it ≤ c → c < it + ls.length → ∃ l, h.IsTupleIter c l k
  | [], it, c, _, h1, h2 => by simp at h2; omega
  | l :: ls, it, c, a, h1, h2 => by
    by_cases e : c = it
    · subst e; exact ⟨l, a.1⟩
    · exact a.2.get (by omega) (by simp only [List.length_cons] at h2; omega)
theorem Ready.after {B k : Nat} {h : Heap} : ∀ {ls : List Addr} {it : Nat} {xs : List Value}, Ready h B k it ls xs → After h k it ls
  | [], _, _, _ => trivial
  | _ :: _, _, _, ⟨_, _, _, h1, _, _, h4⟩ => ⟨h1, h4.after⟩
theorem Ready.length {B k : Nat} {h : Heap} : ∀ {ls : List Addr} {it : Nat} {xs : List Value}, Ready h B k it ls xs → xs.length = ls.length
  | [], _, _, r => by rw [show _ = [] from r]; rfl
  | _ :: _, _, _, ⟨_, _, e, _, _, _, h4⟩ => by rw [e, List.length_cons, List.length_cons, h4.length]
section
variable {prog : Program} {w : World} {A : Around} {E : Value → Shared → Prop}
theorem held_loop {β : Type} (mk : Array Value → β) (f : Value → β → Sem (ForInStep β)) {B k : Nat}
    (hf : ∀ (it : Value) (acc : Array Value) (Q : ForInStep β → Shared → Prop) (s : Shared), wpAny (model prog w) A (Builtin.SmallTypes.nextOf it) (fun x s' => Q (.yield (mk (acc.push x))) s') E s → wpAny (model prog w) A (f it (mk acc)) Q E s) :
    ∀ (ls : List Addr) (it : Nat) (xs : List Value) (acc : Array Value) (s : Shared) (Q : β → Shared → Prop), B ≤ it → Ready s.heap B k it ls xs →
      (∀ h', After h' (k + 1) it ls → h'.objs.size = s.heap.objs.size → (∀ (c : Nat) (o : Obj), (c < it ∨ it + ls.length ≤ c) → s.heap.get? c = some o → h'.get? c = some o) → Q (mk (acc ++ xs.toArray)) { s with heap := h' }) →
      wpAny (model prog w) A (forIn (refs it ls.length) (mk acc) f) Q E s
  | [], it, xs, acc, s, Q, hB, r, hQ => by
    rw [show xs = [] from r] at hQ
    rw [show refs it ([] : List Addr).length = [] from rfl, List.forIn_nil]
    have z := hQ s.heap trivial rfl fun _ _ _ q => q
    simp at z
    exact wpAny_pure z
  | l :: ls, it, xs, acc, s, Q, hB, ⟨x, xs', e, h1, h2, ⟨items, hl, hx⟩, h4⟩, hQ => by
    subst e
    rw [show refs it (l :: ls).length = .ref it :: refs (it + 1) ls.length from rfl, List.forIn_cons]
    refine wpAny_bind (hf _ _ _ _ (nextOf_tuple_item h1 hl hx fun h' i1 sb => ?_))
    refine held_loop mk f hf ls (it + 1) xs' (acc.push x) { s with heap := h' } Q (by omega) (h4.stay fun (c : Nat) (o : Obj) hc q => (sb.2 c (by show @Ne Nat _ _; omega)).trans q) fun h2' af sz kp => ?_
    have hlt : it < it + 1 := Nat.lt_succ_self it
    have z := hQ h2' ⟨i1.at fun o q => kp it o (.inl hlt) q, af⟩ (sz.trans sb.1) fun (c : Nat) (o : Obj) hc q => kp c o (by simp only [List.length_cons] at hc; omega) ((sb.2 c (by simp only [List.length_cons] at hc; show @Ne Nat _ _; omega)).trans q)
    have e2 : acc ++ (x :: xs').toArray = acc.push x ++ xs'.toArray := by apply Array.ext'; simp
    rw [e2] at z
    exact z
def setAll (arr : Array Value) : Nat → List Value → Array Value
  | _, [] => arr
  | j, x :: xs => setAll (arr.setIfInBounds j x) (j + 1) xs
theorem setAll_list : ∀ (xs : List Value) (arr : Array Value) (j : Nat), j + xs.length ≤ arr.size → (setAll arr j xs).toList = arr.toList.take j ++ xs ++ arr.toList.drop (j + xs.length)
  | [], arr, j, _ => by simp [setAll]
  | x :: xs, arr, j, h => by
    have h' : j + 1 + xs.length ≤ (arr.setIfInBounds j x).size := by rw [Array.size_setIfInBounds]; simp only [List.length_cons] at h; omega
    rw [setAll, setAll_list xs _ (j + 1) h', Array.toList_setIfInBounds]
    have hj : j < arr.toList.length := by rw [Array.length_toList]; simp only [List.length_cons] at h; omega
    have e1 : (arr.toList.set j x).take (j + 1) = arr.toList.take j ++ [x] := by
      rw [List.take_succ, List.take_set_of_le (Nat.le_refl _)]
      rw [List.getElem?_set_self hj]
      rfl
    have e2 : (arr.toList.set j x).drop (j + 1 + xs.length) = arr.toList.drop (j + (x :: xs).length) := by
      rw [List.drop_set_of_lt (by omega)]
      congr 1
      simp only [List.length_cons]; omega
    rw [e1, e2]
    simp
theorem setAll_all {xs : List Value} {arr : Array Value} (h : arr.size = xs.length) : setAll arr 0 xs = xs.toArray := by
  apply Array.ext'
  rw [setAll_list xs arr 0 (by omega)]
  simp [h]
theorem setAll_size : ∀ (xs : List Value) (arr : Array Value) (j : Nat), (setAll arr j xs).size = arr.size
  | [], _, _ => rfl
  | x :: xs, arr, j => by rw [setAll, setAll_size xs]; simp
abbrev IsTup (h : Heap) (T : Addr) (arr : Array Value) : Prop := h.get? T = some { cls := .type "tuple", data := .seq arr }
theorem own_loop {β : Type} (m0 : β) (f : Value × Nat → β → Sem (ForInStep β)) {B k : Nat} {TO : Nat}
    (hf : ∀ (it : Value) (j : Nat) (Q : ForInStep β → Shared → Prop) (s : Shared), wpAny (model prog w) A (Builtin.SmallTypes.nextOf it) (fun x s' => ∃ arr : Array Value, arr.size ≤ sizeLine ∧ IsTup s'.heap TO arr ∧ ∀ h', IsTup h' TO (arr.setIfInBounds j x) → Heap.SameBut TO s'.heap h' → Q (.yield m0) { s' with heap := h' }) (fun _ _ => False) s →
      wpAny (model prog w) A (f (it, j) m0) Q E s) :
    ∀ (ls : List Addr) (it : Nat) (j : Nat) (xs : List Value) (arr : Array Value) (s : Shared) (Q : β → Shared → Prop), B ≤ it → it + ls.length ≤ TO → arr.size ≤ sizeLine → Ready s.heap B k it ls xs → IsTup s.heap TO arr →
      (∀ h', After h' (k + 1) it ls → h'.objs.size = s.heap.objs.size → IsTup h' TO (setAll arr j xs) → (∀ (c : Nat) (o : Obj), c ≠ TO → (c < it ∨ it + ls.length ≤ c) → s.heap.get? c = some o → h'.get? c = some o) → Q m0 { s with heap := h' }) →
      wpAny (model prog w) A (forIn ((refs it ls.length).zipIdx j) m0 f) Q E s
  | [], it, j, xs, arr, s, Q, hB, hT, hz, r, ht, hQ => by
    rw [show xs = [] from r] at hQ
    rw [show refs it ([] : List Addr).length = [] from rfl, List.zipIdx_nil, List.forIn_nil]
    exact wpAny_pure (hQ s.heap trivial rfl ht fun _ _ _ _ q => q)
  | l :: ls, it, j, xs, arr, s, Q, hB, hT, hz, ⟨x, xs', e, h1, h2, ⟨items, hl, hx⟩, h4⟩, ht, hQ => by
    subst e
    simp only [List.length_cons] at hT
    rw [show refs it (l :: ls).length = .ref it :: refs (it + 1) ls.length from rfl, List.zipIdx_cons, List.forIn_cons]
    refine wpAny_bind (hf _ _ _ _ (nextOf_tuple_item h1 hl hx fun h' i1 sb => ?_))
    refine ⟨arr, hz, (sb.2 TO (by show @Ne Nat _ _; omega)).trans ht, fun h3 ht3 sb3 => ?_⟩
    have i3 : h3.IsTupleIter it l (k + 1) := i1.at fun o q => (sb3.2 it (by show @Ne Nat _ _; omega)).trans q
    refine own_loop m0 f hf ls (it + 1) (j + 1) xs' (arr.setIfInBounds j x) { s with heap := h3 } Q (by omega) (by omega) (by rw [Array.size_setIfInBounds]; exact hz)
      (h4.stay fun (c : Nat) (o : Obj) hc q => (sb3.2 c (by show @Ne Nat _ _; omega)).trans ((sb.2 c (by show @Ne Nat _ _; omega)).trans q)) ht3 fun h2' af sz tt kp => ?_
    refine hQ h2' ⟨i3.at fun o q => kp it o (by show @Ne Nat _ _; omega) (.inl (Nat.lt_succ_self it)) q, af⟩ (sz.trans (sb3.1.trans sb.1)) tt fun (c : Nat) (o : Obj) hn hc q => ?_
    simp only [List.length_cons] at hc
    exact kp c o hn (by omega) ((sb3.2 c hn).trans ((sb.2 c (by show @Ne Nat _ _; omega)).trans q))
end
/-- the zip object: what it handed out last, whether it was held -/
def IsZ (h : Heap) (z TI TO : Nat) : Prop := ∃ (g0 : Value) (b : Bool), (g0 = .none ∨ ∃ T : Nat, g0 = rawInt T) ∧ h.get? z = some { cls := .type "zip", dict := none, data := .fields #[g0, .bool b, .bool false, .ref TI, .ref TO], slots := #[] }
theorem IsZ.at {h h' : Heap} {z TI TO : Nat} (x : IsZ h z TI TO) (e : ∀ o, h.get? z = some o → h'.get? z = some o) : IsZ h' z TI TO := let ⟨g, b, q, r⟩ := x; ⟨g, b, q, e _ r⟩
theorem wp_alive {M : Model} {A : Around} {E : Value → Shared → Prop} {s : Shared} {a : Addr} {Q : Option Obj → Shared → Prop} (h : Q (s.heap.get? a) s) : wpAny M A (loadIfAlive a) Q E s := by
  intro Γ p hΓ
  show wp M Γ (.loadIfAlive a .pure) _ _ _ _
  rw [PySem.Sem.wp_loadIfAlive]
  exact wpAny_pure (M := M) (A := A) (E := E) h Γ p hΓ
section
variable {prog : Program} {w : World} {A : Around} {E : Value → Shared → Prop} {s : Shared} {z TI TO : Nat}
/-- the tuple kept is free to be filled, or not -/
theorem free_or {Q : Bool → Shared → Prop} (hz : IsZ s.heap z TI TO) (h : ∀ (b : Bool) (h' : Heap), IsZ h' z TI TO → Heap.SameBut z s.heap h' → Q b { s with heap := h' }) : wpAny (model prog w) A (Builtin.SmallTypes.ownedTupleIsFree (.ref z)) Q E s := by
  obtain ⟨g0, b, hg, hz⟩ := hz
  unfold Builtin.SmallTypes.ownedTupleIsFree
  rcases hg with rfl | ⟨T, rfl⟩
  · exact wpAny_bind (wpAny_field hz rfl (x := .none) rfl (wpAny_pure (h true s.heap ⟨_, b, .inl rfl, hz⟩ (Heap.SameBut.refl _ _))))
  · refine wpAny_bind (wpAny_field hz rfl (x := rawInt T) rfl ?_)
    show wpAny _ _ (loadIfAlive ((T : Int).toNat) >>= _) _ _ _
    refine wpAny_bind (wp_alive ?_)
    cases e : s.heap.get? ((T : Int).toNat) with
    | none =>
      simp only [Option.isNone_none, if_true]
      exact wpAny_pure (h true s.heap ⟨_, b, .inr ⟨T, rfl⟩, hz⟩ (Heap.SameBut.refl _ _))
    | some o =>
      simp only [Option.isNone_some, Bool.false_eq_true, if_false]
      refine wpAny_bind (wpAny_field hz rfl (x := .bool b) rfl ?_)
      cases b with
      | true =>
        rw [if_neg (show ¬ ((Value.bool true != Value.bool true) = true) from Bool.false_ne_true)]
        exact wpAny_pure (h false s.heap ⟨_, true, .inr ⟨T, rfl⟩, hz⟩ (Heap.SameBut.refl _ _))
      | false =>
        rw [if_pos (show (Value.bool false != Value.bool true) = true from rfl)]
        exact wpAny_bind (wpAny_setField_rec hz (by simp) fun h₁ hz₁ hs₁ => wpAny_pure (h false h₁ ⟨_, true, .inr ⟨T, rfl⟩, hz₁⟩ hs₁))
theorem upd_tup {T : Nat} {arr : Array Value} {x : Value} {k : Nat} {Q : Unit → Shared → Prop} (hT : IsTup s.heap T arr) (hz : arr.size ≤ sizeLine)
    (h : ∀ h', IsTup h' T (arr.setIfInBounds k x) → Heap.SameBut T s.heap h' → Q () { s with heap := h' }) : wpAny (model prog w) A (updateSeq T (·.setIfInBounds k x)) Q E s := by
  refine wpAny_updateSeq hT rfl (h _ ?_ (Heap.SameBut.update ..)) hz (by rw [Array.size_setIfInBounds]; omega)
  show Heap.get? _ T = _
  rw [Heap.get?_update_self _ hT rfl]
  simp [Obj.mapSeq]
theorem next_item {b k : Nat} {ls : List Addr} {xs : List Value} {Q : Value → Shared → Prop} (hne : ls ≠ []) (hl : ls.length ≤ sizeLine) (e1 : TI = b + ls.length) (e2 : TO = b + ls.length + 1) (e3 : z = b + ls.length + 2)
    (hz : IsZ s.heap z TI TO) (hTI : IsTup s.heap TI (refs b ls.length).toArray) (hTO : ∃ arr : Array Value, arr.size = ls.length ∧ IsTup s.heap TO arr) (hr : Ready s.heap b k b ls xs)
    (hQ : ∀ h', IsZ h' z TI TO → IsTup h' TI (refs b ls.length).toArray → (∃ arr : Array Value, arr.size = ls.length ∧ IsTup h' TO arr) → After h' (k + 1) b ls → IsTup h' s.heap.objs.size xs.toArray → h'.objs.size = s.heap.objs.size + 1 →
      (∀ (c : Nat) (o : Obj), (c < b ∨ b + ls.length + 2 < c) → s.heap.get? c = some o → h'.get? c = some o) → Q (.ref s.heap.objs.size) { s with heap := h' }) :
    wpAny (model prog w) A (Builtin.«zip.__next__» ⟨[.ref z], []⟩) (fun fin s' => ∃ v, fin = .done (.ret v) ∧ Q v s') E s := by
  obtain ⟨g0, b0, hg, hz0⟩ := id hz
  obtain ⟨arr, ha, hTO⟩ := hTO
  have hxl := hr.length
  show wpAny _ _ (field (.ref z) 2 >>= _) _ _ _
  refine wpAny_bind (wpAny_field hz0 rfl (x := .bool false) rfl ?_)
  show wpAny _ _ (field (.ref z) 3 >>= _) _ _ _
  refine wpAny_bind (wpAny_field hz0 rfl (x := .ref TI) rfl ?_)
  refine wpAny_bind (wpAny_seqItems hTI rfl ?_)
  have hem : (refs b ls.length).toArray.isEmpty = false := by
    cases ls with
    | nil => exact absurd rfl hne
    | cons l r => rfl
  simp only [hem, Bool.false_eq_true, if_false]
  show wpAny _ _ (Builtin.SmallTypes.ownedTupleIsFree (.ref z) >>= _) _ _ _
  refine wpAny_bind (free_or hz fun fr h₁ hz₁ hs₁ => ?_)
  have hTI1 : IsTup h₁ TI (refs b ls.length).toArray := (hs₁.2 TI (by show @Ne Nat _ _; omega)).trans hTI
  have hTO1 : IsTup h₁ TO arr := (hs₁.2 TO (by show @Ne Nat _ _; omega)).trans hTO
  have hr1 : Ready h₁ b k b ls xs := hr.stay fun (c : Nat) (o : Obj) hc q => (hs₁.2 c (by show @Ne Nat _ _; omega)).trans q
  have hlt : TO < s.heap.objs.size := Heap.lt_size hTO
  have hltz : z < s.heap.objs.size := Heap.lt_size hz0
  cases fr with
  | true =>
    simp only [if_true]
    refine wpAny_bind (wpAny_rule ?_)
    obtain ⟨g1, b1, hg1, hz1⟩ := hz₁
    refine wpAny_bind (wpAny_field hz1 rfl (x := .ref TO) rfl ?_)
    refine wpAny_bind (wpAny_setField_rec hz1 (by simp) fun h₂ hz₂ hs₂ => ?_)
    replace hs₂ : Heap.SameBut z h₁ h₂ := hs₂
    replace hz₂ : h₂.get? z = some { cls := .type "zip", dict := none, data := .fields #[.ellipsis, .bool b1, .bool false, .ref TI, .ref TO], slots := #[] } := hz₂
    have hTI2 : IsTup h₂ TI (refs b ls.length).toArray := (hs₂.2 TI (by show @Ne Nat _ _; omega)).trans hTI1
    have hTO2 : IsTup h₂ TO arr := (hs₂.2 TO (by show @Ne Nat _ _; omega)).trans hTO1
    have hr2 : Ready h₂ b k b ls xs := hr1.stay fun (c : Nat) (o : Obj) hc q => (hs₂.2 c (by show @Ne Nat _ _; omega)).trans q
    refine wpAny_bind ?_
    refine own_loop (B := b) (k := k) (TO := TO) (m0 := ((none, ()) : Option Fin × Unit)) _ (fun it j Q s' h => ?_) ls b 0 xs arr { s with heap := h₂ } _ (Nat.le_refl _) (by omega) (by rw [ha]; exact hl) hr2 hTO2 fun h₃ af sz tt kp => ?_
    · refine wpAny_bind (wpAny_onRaise ?_)
      show wpAny _ _ (Builtin.SmallTypes.nextOf it >>= _) _ _ _
      refine wpAny_bind (wpAny_mono h (fun x s2 q => wpAny_pure ?_) fun _ _ q => q.elim)
      obtain ⟨arr2, hz2, ht2, q⟩ := q
      refine wpAny_bind (wpAny_seqItems ht2 rfl ?_)
      exact wpAny_bind (upd_tup ht2 hz2 fun h5 t5 s5 => wpAny_bind (wpAny_letGo (wpAny_pure (q h5 t5 s5))))
    · rw [setAll_all (ha.trans hxl.symm)] at tt
      dsimp only
      refine wpAny_bind (wpAny_seqItems tt rfl ?_)
      refine wpAny_bind (wpAny_newTuple ?_ (by simp; omega))
      replace sz : h₃.objs.size = h₂.objs.size := sz
      replace kp : ∀ (c : Nat) (o : Obj), c ≠ TO → (c < b ∨ b + ls.length ≤ c) → h₂.get? c = some o → h₃.get? c = some o := kp
      have hsz : h₃.objs.size = s.heap.objs.size := by rw [sz, hs₂.1, hs₁.1]
      have hz₃ : h₃.get? z = some { cls := .type "zip", dict := none, data := .fields #[.ellipsis, .bool b1, .bool false, .ref TI, .ref TO], slots := #[] } := kp z _ (by omega) (by omega) hz₂
      show wpAny _ _ (Builtin.SmallTypes.ownedTupleHandOut (.ref z) (.ref h₃.objs.size) >>= _) _ _ _
      refine wpAny_bind ?_
      unfold Builtin.SmallTypes.ownedTupleHandOut
      refine wpAny_bind (wpAny_setField_rec (Heap.get?_push_of_some _ hz₃) (by simp) fun h₇ hz₇ hs₇ => ?_)
      replace hz₇ : h₇.get? z = some { cls := .type "zip", dict := none, data := .fields #[rawInt h₃.objs.size, .bool b1, .bool false, .ref TI, .ref TO], slots := #[] } := hz₇
      refine wpAny_setField_rec hz₇ (by simp) fun h₈ hz₈ hs₈ => ?_
      replace hz₈ : h₈.get? z = some { cls := .type "zip", dict := none, data := .fields #[rawInt h₃.objs.size, .bool false, .bool false, .ref TI, .ref TO], slots := #[] } := hz₈
      replace hs₇ : Heap.SameBut z (h₃.push { cls := .type "tuple", data := .seq xs.toArray.toList.toArray }) h₇ := hs₇
      replace hs₈ : Heap.SameBut z h₇ h₈ := hs₈
      have up : ∀ (c : Nat) (o : Obj), c ≠ z → h₃.get? c = some o → h₈.get? c = some o := fun c o c1 e => (hs₈.2 c c1).trans ((hs₇.2 c c1).trans (Heap.get?_push_of_some _ e))
      have hT₈ : IsTup h₈ h₃.objs.size xs.toArray := by
        have zz : h₃.objs.size ≠ z := by rw [hsz]; exact Nat.ne_of_gt hltz
        refine (hs₈.2 _ zz).trans ((hs₇.2 _ zz).trans ?_)
        have q := Heap.get?_push_size h₃ (o := { cls := .type "tuple", data := .seq xs.toArray.toList.toArray }) rfl
        simpa using q
      have hz8 : h₈.objs.size = h₃.objs.size + 1 := by rw [hs₈.1, hs₇.1, Heap.size_push]
      rw [hsz] at hT₈ hz8
      refine wpAny_pure ⟨_, rfl, ?_⟩
      show Q (.ref h₃.objs.size) _
      rw [hsz]
      refine hQ h₈ ⟨_, false, .inr ⟨_, rfl⟩, hz₈⟩ (up TI _ (by omega) (kp TI _ (by omega) (by omega) hTI2)) ⟨xs.toArray, by simpa using hxl, up TO _ (by omega) tt⟩ (af.stay fun (c : Nat) (o : Obj) hc q => up c o (by omega) q) hT₈ hz8 fun (c : Nat) (o : Obj) hc q => ?_
      exact up c o (by omega) (kp c o (by omega) (by omega) ((hs₂.2 c (by show @Ne Nat _ _; omega)).trans ((hs₁.2 c (by show @Ne Nat _ _; omega)).trans q)))
  | false =>
    simp only [Bool.false_eq_true, if_false]
    refine wpAny_bind ?_
    rw [← Array.forIn_toList]
    show wpAny _ _ (forIn (refs b ls.length) ((none, #[]) : Option Fin × Array Value) _) _ _ _
    refine held_loop (B := b) (k := k) (fun acc => ((none, acc) : Option Fin × Array Value)) _ (fun it acc Q s' h => ?_) ls b xs #[] { s with heap := h₁ } _ (Nat.le_refl _) hr1 fun h₃ af sz kp => ?_
    · refine wpAny_bind (wpAny_holding ?_)
      show wpAny _ _ (Builtin.SmallTypes.nextOf it >>= _) _ _ _
      exact wpAny_bind (wpAny_mono h (fun x s2 q => wpAny_pure (wpAny_pure q)) fun _ _ q => q)
    · dsimp only
      refine wpAny_bind (wpAny_newTuple ?_ (by simp; omega))
      replace sz : h₃.objs.size = h₁.objs.size := sz
      replace kp : ∀ (c : Nat) (o : Obj), (c < b ∨ b + ls.length ≤ c) → h₁.get? c = some o → h₃.get? c = some o := kp
      have hsz : h₃.objs.size = s.heap.objs.size := by rw [sz, hs₁.1]
      refine wpAny_pure ⟨_, rfl, ?_⟩
      show Q (.ref h₃.objs.size) _
      have hp : IsTup (h₃.push { cls := .type "tuple", data := .seq (#[] ++ xs.toArray : Array Value).toList.toArray }) h₃.objs.size xs.toArray := by
        have q := Heap.get?_push_size h₃ (o := { cls := .type "tuple", data := .seq (#[] ++ xs.toArray : Array Value).toList.toArray }) rfl
        simpa using q
      have hz4 : (h₃.push { cls := .type "tuple", data := .seq (#[] ++ xs.toArray : Array Value).toList.toArray }).objs.size = h₃.objs.size + 1 := Heap.size_push ..
      have up : ∀ (c : Nat) (o : Obj), (c < b ∨ b + ls.length ≤ c) → h₁.get? c = some o → (h₃.push { cls := .type "tuple", data := .seq (#[] ++ xs.toArray : Array Value).toList.toArray }).get? c = some o := fun c o hc e => Heap.get?_push_of_some _ (kp c o hc e)
      rw [hsz] at hp hz4 ⊢
      refine hQ _ (hz₁.at fun o q => up z o (by omega) q) (up TI _ (by omega) hTI1) ⟨arr, ha, up TO _ (by omega) hTO1⟩ (af.stay fun (c : Nat) (o : Obj) hc q => Heap.get?_push_of_some _ q) hp hz4 fun (c : Nat) (o : Obj) hc q => up c o (by omega) ((hs₁.2 c (by show @Ne Nat _ _; omega)).trans q)
theorem raise_stop {α : Type} {Q : α → Shared → Prop} (hh : A.handled = none) (hE : ∀ h' e, (∀ (c : Nat) (o : Obj), s.heap.get? c = some o → h'.get? c = some o) → (∃ o, h'.get? e = some o ∧ o.cls = .type "StopIteration") → E (.ref e) { s with heap := h' }) :
    wpAny (model prog w) A (Builtin.SmallTypes.stopIteration (α := α)) Q E s := by
  unfold Builtin.SmallTypes.stopIteration
  show wpAny _ _ (newExc (.type "StopIteration") [] >>= _) _ _ _
  refine wpAny_bind ?_
  simp only [newExc, newTuple]
  refine wpAny_bind (wpAny_newObj_type ?_ (by size_fits))
  refine wpAny_bind (m := firstArgMember _ _) (wpAny_of_eq (a := Value.none) (by first | rfl | (simp only [firstArgMember]; rfl)) ?_)
  refine wpAny_newObj_type ?_ (by size_fits)
  simp only [raiseNew]
  refine wpAny_bind (wpAny_handled ?_)
  first | rw [show A.in1.handled = none from hh] | rw [hh]
  refine wpAny_bind (wpAny_pure (wpAny_throw ?_))
  exact hE _ _ (fun c o q => Heap.get?_push_of_some _ (Heap.get?_push_of_some _ q)) ⟨_, Heap.get?_push_size _ rfl, rfl⟩
theorem next_end {b k : Nat} {ls : List Addr} {Q : Fin → Shared → Prop} (hh : A.handled = none) (e1 : TI = b + ls.length) (e2 : TO = b + ls.length + 1) (e3 : z = b + ls.length + 2)
    (hz : IsZ s.heap z TI TO) (hTI : IsTup s.heap TI (refs b ls.length).toArray) (ha : After s.heap k b ls) (hd : ∀ l, ls.head? = some l → @LT.lt Nat _ l b ∧ ∃ items, s.heap.IsTuple l items ∧ items[k]? = none)
    (hE : ∀ h' e, (∀ (c : Nat) (o : Obj), (c < b ∨ b + ls.length + 2 < c) → s.heap.get? c = some o → h'.get? c = some o) → (∃ o, h'.get? e = some o ∧ o.cls = .type "StopIteration") → E (.ref e) { s with heap := h' }) :
    wpAny (model prog w) A (Builtin.«zip.__next__» ⟨[.ref z], []⟩) Q E s := by
  obtain ⟨g0, b0, hg, hz0⟩ := id hz
  show wpAny _ _ (field (.ref z) 2 >>= _) _ _ _
  refine wpAny_bind (wpAny_field hz0 rfl (x := .bool false) rfl ?_)
  show wpAny _ _ (field (.ref z) 3 >>= _) _ _ _
  refine wpAny_bind (wpAny_field hz0 rfl (x := .ref TI) rfl ?_)
  refine wpAny_bind (wpAny_seqItems hTI rfl ?_)
  cases ls with
  | nil =>
    show wpAny _ _ (rule _ >>= _) _ _ _
    refine wpAny_bind (wpAny_rule ?_)
    exact wpAny_bind (raise_stop hh fun h' e k2 he => hE h' e (fun c o _ q => k2 c o q) he)
  | cons l r =>
    obtain ⟨hlb, items, hl, hx⟩ := hd l rfl
    simp only [List.length_cons] at e1 e2 e3
    show wpAny _ _ (Builtin.SmallTypes.ownedTupleIsFree (.ref z) >>= _) _ _ _
    refine wpAny_bind (free_or hz fun fr h₁ hz₁ hs₁ => ?_)
    have hi1 : h₁.IsTupleIter b l k := ha.1.at fun o q => (hs₁.2 b (by show @Ne Nat _ _; omega)).trans q
    have hl1 : h₁.IsTuple l items := let ⟨o, ho, q⟩ := hl; ⟨o, (hs₁.2 l (by show @Ne Nat _ _; omega)).trans ho, q⟩
    cases fr with
    | true =>
      simp only [if_true]
      refine wpAny_bind (wpAny_rule ?_)
      obtain ⟨g1, b1, hg1, hz1⟩ := hz₁
      refine wpAny_bind (wpAny_field hz1 rfl (x := .ref TO) rfl ?_)
      refine wpAny_bind (wpAny_setField_rec hz1 (by simp) fun h₂ hz₂ hs₂ => ?_)
      replace hs₂ : Heap.SameBut z h₁ h₂ := hs₂
      replace hz₂ : h₂.get? z = some { cls := .type "zip", dict := none, data := .fields #[.ellipsis, .bool b1, .bool false, .ref TI, .ref TO], slots := #[] } := hz₂
      refine wpAny_bind ?_
      show wpAny _ _ (forIn ((Value.ref b :: refs (b + 1) r.length).zipIdx) _ _) _ _ _
      rw [List.zipIdx_cons, List.forIn_cons]
      refine wpAny_bind (wpAny_bind (wpAny_onRaise ?_))
      show wpAny _ _ (Builtin.SmallTypes.nextOf (.ref b) >>= _) _ _ _
      refine wpAny_bind (nextOf_tuple_end (s := { s with heap := h₂ }) hh (hi1.at fun o q => (hs₂.2 b (by show @Ne Nat _ _; omega)).trans q) (let ⟨o, ho, q⟩ := hl1; ⟨o, (hs₂.2 l (by show @Ne Nat _ _; omega)).trans ho, q⟩) hx fun h₃ e hs₃ he => ?_)
      obtain ⟨oe, hoe, hce⟩ := he
      replace hs₃ : Heap.ExtBut b h₂ h₃ := hs₃
      have hz₃ := hs₃ z _ (by show @Ne Nat _ _; omega) hz₂
      have hez : e ≠ z := fun x => by subst x; rw [hz₃] at hoe; cases hoe; simp at hce
      refine wpAny_setField_rec hz₃ (by simp) fun h₄ _ hs₄ => hE h₄ e (fun c o hc q => ?_) ⟨oe, (hs₄.2 e hez).trans hoe, hce⟩
      simp only [List.length_cons] at hc
      exact (hs₄.2 c (by show @Ne Nat _ _; omega)).trans (hs₃ c o (by show @Ne Nat _ _; omega) ((hs₂.2 c (by show @Ne Nat _ _; omega)).trans ((hs₁.2 c (by show @Ne Nat _ _; omega)).trans q)))
    | false =>
      simp only [Bool.false_eq_true, if_false]
      refine wpAny_bind ?_
      rw [← Array.forIn_toList]
      show wpAny _ _ (forIn (Value.ref b :: refs (b + 1) r.length) _ _) _ _ _
      rw [List.forIn_cons]
      refine wpAny_bind (wpAny_bind (wpAny_holding ?_))
      show wpAny _ _ (Builtin.SmallTypes.nextOf (.ref b) >>= _) _ _ _
      refine wpAny_bind (nextOf_tuple_end (s := { s with heap := h₁ }) hh hi1 hl1 hx fun h₃ e hs₃ he => ?_)
      refine hE h₃ e (fun c o hc q => ?_) he
      simp only [List.length_cons] at hc
      exact hs₃ c o (by show @Ne Nat _ _; omega) ((hs₁.2 c (by show @Ne Nat _ _; omega)).trans q)
theorem pyNext_item {b k : Nat} {ls : List Addr} {xs : List Value} {Q : Option Value → Shared → Prop} (hne : ls ≠ []) (hl : ls.length ≤ sizeLine) (e1 : TI = b + ls.length) (e2 : TO = b + ls.length + 1) (e3 : z = b + ls.length + 2)
    (hz : IsZ s.heap z TI TO) (hTI : IsTup s.heap TI (refs b ls.length).toArray) (hTO : ∃ arr : Array Value, arr.size = ls.length ∧ IsTup s.heap TO arr) (hr : Ready s.heap b k b ls xs)
    (hQ : ∀ h', IsZ h' z TI TO → IsTup h' TI (refs b ls.length).toArray → (∃ arr : Array Value, arr.size = ls.length ∧ IsTup h' TO arr) → After h' (k + 1) b ls → IsTup h' s.heap.objs.size xs.toArray → h'.objs.size = s.heap.objs.size + 1 →
      (∀ (c : Nat) (o : Obj), (c < b ∨ b + ls.length + 2 < c) → s.heap.get? c = some o → h'.get? c = some o) → Q (some (.ref s.heap.objs.size)) { s with heap := h' }) :
    wpAny (model prog w) A (pyNext (.ref z)) Q E s := by
  obtain ⟨g0, b0, hg, hz0⟩ := id hz
  have hT : s.TypeIs (.ref z) "zip" := ⟨_, hz0, rfl⟩
  unfold pyNext
  exact wpAny_bind (wpAny_attempt (wpAny_callSpecial?_slot (name := Str.ofString "__next__") hT F.slot_zip_next
    (wpAny_call_entry F.slot_zip_next hT F.entry_zip_next
      (next_item hne hl e1 e2 e3 hz hTI hTO hr fun h' a1 a2 a3 a4 a5 a6 a7 => wpAny_pure (hQ h' a1 a2 a3 a4 a5 a6 a7)) (F.args_zip_next_1 _))))
theorem pyNext_end {b k : Nat} {ls : List Addr} {Q : Option Value → Shared → Prop} (hh : A.handled = none) (e1 : TI = b + ls.length) (e2 : TO = b + ls.length + 1) (e3 : z = b + ls.length + 2)
    (hz : IsZ s.heap z TI TO) (hTI : IsTup s.heap TI (refs b ls.length).toArray) (ha : After s.heap k b ls) (hd : ∀ l, ls.head? = some l → @LT.lt Nat _ l b ∧ ∃ items, s.heap.IsTuple l items ∧ items[k]? = none)
    (hQ : ∀ h', (∀ (c : Nat) (o : Obj), (c < b ∨ b + ls.length + 2 < c) → s.heap.get? c = some o → h'.get? c = some o) → Q none { s with heap := h' }) : wpAny (model prog w) A (pyNext (.ref z)) Q E s := by
  obtain ⟨g0, b0, hg, hz0⟩ := id hz
  have hT : s.TypeIs (.ref z) "zip" := ⟨_, hz0, rfl⟩
  unfold pyNext
  refine wpAny_bind (wpAny_attempt (wpAny_callSpecial?_slot (name := Str.ofString "__next__") hT F.slot_zip_next
    (wpAny_call_entry F.slot_zip_next hT F.entry_zip_next (next_end hh e1 e2 e3 hz hTI ha hd fun h' e hk he => ?_) (F.args_zip_next_1 _))))
  obtain ⟨o, ho, hc⟩ := he
  refine wpAny_bind (wpAny_isInstance (T := "StopIteration") (b := true) ⟨o, ho, hc⟩ isSubtype_stop ?_)
  exact wpAny_pure (hQ _ hk)
theorem pyIter_z {Q : Value → Shared → Prop} (hz : IsZ s.heap z TI TO) (h : Q (.ref z) s) : wpAny (model prog w) A (pyIter (.ref z)) Q E s := by
  obtain ⟨g0, b0, hg, hz0⟩ := id hz
  have hT : s.TypeIs (.ref z) "zip" := ⟨_, hz0, rfl⟩
  refine wpAny_pyIter_slot hT F.slot_zip_iter (wpAny_call_entry F.slot_zip_iter hT F.entry_zip_iter ?_ (F.args_zip_iter_1 _))
  show wpAny _ _ (ret (.ref z)) _ _ s
  exact wpAny_pure ⟨_, rfl, "zip", _, hT, F.slot_zip_next.lookup, h⟩
end
theorem typeCall_zip (us : List Value) : checkTypeCall "zip" ⟨us, []⟩ = pure () := by kernel_rfl
theorem newCall_zip (us : List Value) : checkBuiltinCall "zip.__new__" ⟨.type "zip" :: us, []⟩ = pure () := by
  cases us with
  | nil => kernel_rfl
  | cons a r => kernel_rfl
theorem args_object_init (us : List Value) (obj : Value) : argsOk "object.__init__" ⟨obj :: us, []⟩ := by
  unfold argsOk; rw [signature?_of (id := "object.__init__") (n := ['_', '_', 't', 'i', 'n', 'i', '_', '_']) (o := ['t', 'c', 'e', 'j', 'b', 'o']) (by kernel_rfl) F.owner_object]; kernel_rfl
def pushIts (h : Heap) : List Addr → Heap
  | [] => h
  | l :: ls => pushIts (h.push { cls := .type "tuple_iterator", data := .fields #[.ref l, .int 0 0] }) ls
theorem pushIts_size : ∀ (ls : List Addr) (h : Heap), (pushIts h ls).objs.size = h.objs.size + ls.length
  | [], h => rfl
  | l :: ls, h => by rw [pushIts, pushIts_size ls, Heap.size_push, List.length_cons]; omega
theorem pushIts_get : ∀ (ls : List Addr) (h : Heap) (c : Nat) (o : Obj), h.get? c = some o → (pushIts h ls).get? c = some o
  | [], h, c, o, q => q
  | l :: ls, h, c, o, q => pushIts_get ls _ c o (Heap.get?_push_of_some _ q)
theorem pushIts_after : ∀ (ls : List Addr) (h : Heap), After (pushIts h ls) 0 h.objs.size ls
  | [], h => trivial
  | l :: ls, h => by
    refine ⟨⟨_, pushIts_get ls _ _ _ (Heap.get?_push_size _ rfl), rfl, rfl⟩, ?_⟩
    have z := pushIts_after ls (h.push { cls := .type "tuple_iterator", data := .fields #[.ref l, .int 0 0] })
    rw [Heap.size_push] at z
    exact z
section
variable {prog : Program} {w : World} {A : Around} {E : Value → Shared → Prop}
theorem iter_loop (f : Value → Array Value → Sem (ForInStep (Array Value)))
    (hf : ∀ (x : Value) (acc : Array Value) (Q : ForInStep (Array Value) → Shared → Prop) (s : Shared), wpAny (model prog w) A (pyIter x) (fun v s' => Q (.yield (acc.push v)) s') E s → wpAny (model prog w) A (f x acc) Q E s) :
    ∀ (ls : List Addr) (acc : Array Value) (s : Shared) (Q : Array Value → Shared → Prop), (∀ l ∈ ls, ∃ items, s.heap.IsTuple l items) → Q (acc ++ (refs s.heap.objs.size ls.length).toArray) { s with heap := pushIts s.heap ls } →
      wpAny (model prog w) A (forIn (ls.map Value.ref) acc f) Q E s
  | [], acc, s, Q, _, hQ => by
    rw [List.map_nil, List.forIn_nil]
    have e : acc ++ (refs s.heap.objs.size ([] : List Addr).length).toArray = acc := by simp [refs]
    rw [e] at hQ
    exact wpAny_pure hQ
  | l :: ls, acc, s, Q, ht, hQ => by
    rw [List.map_cons, List.forIn_cons]
    obtain ⟨items, hl⟩ := ht l List.mem_cons_self
    refine wpAny_bind (hf _ _ _ _ (wpAny_pyIter_tuple hl ?_))
    refine iter_loop f hf ls _ { s with heap := s.heap.push { cls := .type "tuple_iterator", data := .fields #[.ref l, .int 0 0] } } Q (fun l' hm => ?_) ?_
    · obtain ⟨it2, o, ho, q⟩ := ht l' (List.mem_cons_of_mem _ hm)
      exact ⟨it2, o, Heap.get?_push_of_some _ ho, q⟩
    · have e : acc.push (.ref s.heap.objs.size) ++ (refs (s.heap.push { cls := .type "tuple_iterator", data := .fields #[.ref l, .int 0 0] }).objs.size ls.length).toArray = acc ++ (refs s.heap.objs.size (l :: ls).length).toArray := by
        rw [Heap.size_push, show refs s.heap.objs.size (l :: ls).length = .ref s.heap.objs.size :: refs (s.heap.objs.size + 1) ls.length from rfl]
        apply Array.ext'
        simp
      show Q (acc.push (.ref s.heap.objs.size) ++ (refs (s.heap.push { cls := .type "tuple_iterator", data := .fields #[.ref l, .int 0 0] }).objs.size ls.length).toArray) _
      rw [e]
      exact hQ
end
/-- behind zip(l, ..) -/
structure Made (h h' : Heap) (ls : List Addr) : Prop where
  z : IsZ h' (h.objs.size + ls.length + 2) (h.objs.size + ls.length) (h.objs.size + ls.length + 1)
  TI : IsTup h' (h.objs.size + ls.length) (refs h.objs.size ls.length).toArray
  TO : ∃ arr : Array Value, arr.size = ls.length ∧ IsTup h' (h.objs.size + ls.length + 1) arr
  its : After h' 0 h.objs.size ls
  keep : ∀ (c : Nat) (o : Obj), h.get? c = some o → h'.get? c = some o
theorem meets_new (ls : List Addr) (hl : ls.length ≤ sizeLine) : Meets (Builtin.«zip.__new__» ⟨.type "zip" :: ls.map Value.ref, []⟩) (fun _ R s => (∀ l ∈ ls, ∃ items, s.heap.IsTuple l items) ∧
      ∀ h', Made s.heap h' ls → R (.ok (.ret (.ref (s.heap.objs.size + ls.length + 2)))) { s with heap := h' }) :=
  .of_wp fun prog w A R s h => by
    obtain ⟨ht, h⟩ := h
    have hsub := sub_zip
    show wpAny _ _ (Builtin.SmallTypes.newClass "zip" _ >>= _) _ _ _
    refine wpAny_bind ?_
    unfold Builtin.SmallTypes.newClass
    show wpAny _ _ (isType (.type "zip") >>= _) _ _ _
    refine wpAny_bind (wpAny_of_eq (a := true) rfl ?_)
    show wpAny _ _ (isSubtype (.type "zip") (.type "zip") >>= _) _ _ _
    refine wpAny_bind (wpAny_of_eq (a := true) hsub ?_)
    refine wpAny_pure ?_
    show wpAny _ _ (Builtin.SmallTypes.iterAll (ls.map Value.ref) >>= _) _ _ _
    refine wpAny_bind ?_
    unfold Builtin.SmallTypes.iterAll
    refine wpAny_bind ?_
    refine iter_loop _ (fun x acc Q s' h' => wpAny_bind (wpAny_holding (wpAny_mono h' (fun v s2 q => wpAny_pure q) fun _ _ q => q))) ls #[] s _ ht ?_
    refine wpAny_pure ?_
    have e0 : (#[] ++ (refs s.heap.objs.size ls.length).toArray : Array Value).toList = refs s.heap.objs.size ls.length := by simp
    rw [e0]
    have e4 : (refs s.heap.objs.size ls.length).length = ls.length := refs_length _ _
    refine wpAny_bind (wpAny_newTuple ?_ (by rw [e4]; exact hl))
    refine wpAny_bind (wpAny_newTuple ?_ (by rw [List.length_map, e4]; exact hl))
    show wpAny _ _ (newObj (.type "zip") (.fields #[.none, .bool false, .bool false, .ref _, .ref _]) >>= _) _ _ _
    refine wpAny_bind (wpAny_newObj_type ?_ (by size_fits))
    refine wpAny_pure ⟨_, rfl, ?_⟩
    have z1 : (pushIts s.heap ls).objs.size = s.heap.objs.size + ls.length := pushIts_size ls s.heap
    have z2 : ((pushIts s.heap ls).push { cls := .type "tuple", data := .seq (refs s.heap.objs.size ls.length).toArray }).objs.size = s.heap.objs.size + ls.length + 1 := by rw [Heap.size_push, z1]
    have z3 : (((pushIts s.heap ls).push { cls := .type "tuple", data := .seq (refs s.heap.objs.size ls.length).toArray }).push { cls := .type "tuple", data := .seq ((refs s.heap.objs.size ls.length).map fun _ => Value.none).toArray }).objs.size = s.heap.objs.size + ls.length + 2 := by rw [Heap.size_push, z2]
    have M : Made s.heap ((((pushIts s.heap ls).push { cls := .type "tuple", data := .seq (refs s.heap.objs.size ls.length).toArray }).push { cls := .type "tuple", data := .seq ((refs s.heap.objs.size ls.length).map fun _ => Value.none).toArray }).push
        { cls := .type "zip", data := .fields #[.none, .bool false, .bool false, .ref (s.heap.objs.size + ls.length), .ref (s.heap.objs.size + ls.length + 1)] }) ls := {
      z := ⟨_, false, .inl rfl, by rw [← z3]; exact Heap.get?_push_size _ rfl⟩
      TI := by
        refine Heap.get?_push_of_some _ (Heap.get?_push_of_some _ ?_)
        rw [← z1]
        exact Heap.get?_push_size _ rfl
      TO := ⟨((refs s.heap.objs.size ls.length).map fun _ => Value.none).toArray, by rw [List.size_toArray, List.length_map, e4], by
        refine Heap.get?_push_of_some _ ?_
        rw [← z2]
        exact Heap.get?_push_size _ rfl⟩
      its := (pushIts_after ls s.heap).stay fun c o _ q => Heap.get?_push_of_some _ (Heap.get?_push_of_some _ (Heap.get?_push_of_some _ q))
      keep := fun c o q => Heap.get?_push_of_some _ (Heap.get?_push_of_some _ (Heap.get?_push_of_some _ (pushIts_get ls _ c o q))) }
    have r := h _ M
    dsimp only
    rw [z1, z2, z3]
    exact r
section
variable {prog : Program} {w : World} {A : Around} {E : Value → Shared → Prop} {s : Shared}
theorem call_zip {ls : List Addr} {Q : Value → Shared → Prop} (hl : ls.length ≤ sizeLine) (ht : ∀ l ∈ ls, ∃ items, s.heap.IsTuple l items) (h : ∀ h', Made s.heap h' ls → Q (.ref (s.heap.objs.size + ls.length + 2)) { s with heap := h' }) :
    wpAny (model prog w) A (call (.type "zip") (ls.map Value.ref)) Q E s := by
  refine callType_new F.called_zip (by decide) (typeCall_zip _) (newCall_zip _) (fun obj => args_object_init _ obj) F.entry_zip_new (meets_new ls hl) ⟨ht, fun h' M => ?_⟩
  obtain ⟨g0, b, _, hz⟩ := M.z
  exact ⟨⟨_, hz, rfl⟩, h h' M⟩
end
end ZN

set_option Elab.async false
set_option linter.all false
set_option maxRecDepth 100000
set_option maxHeartbeats 4000000
/-! Mp: zip(*rows). -/
namespace Mp
open PySem PySem.Spec PyProof.Rows L2
def RowsV (K : Frag) (H : Hp) : List Addr → List (List V) → Prop
  | [], rs => rs = []
  | a :: as, rs => ∃ r rs', rs = r :: rs' ∧ SqT K H a r ∧ RowsV K H as rs'
def colV (i : Nat) : List (List V) → Option (List V)
  | [] => some []
  | r :: rs => (match r[i]?, colV i rs with
    | some x, some xs => some (x :: xs)
    | _, _ => none)
/-- the tuples at ls as they stand at each turn, a column in a new tuple -/
def ItZn (K : Frag) (ls : List Addr) : It :=
  ⟨fun i H => ∃ rows xs, ls ≠ [] ∧ RowsV K H ls rows ∧ colV i rows = some xs,
    fun i H v H' => ∃ T xs, v = .ref T ∧ H T = none ∧ H' = upd H T (.tup xs) ∧ ∀ rows, RowsV K H ls rows → colV i rows = some xs,
    fun i H => ∃ rows, RowsV K H ls rows ∧ ∀ r, rows.head? = some r → r.length ≤ i⟩
theorem rowsV_inj {X : Cx} {pins : List (Addr × Obj)} {σ : L2.St} {H : Hp} {s : Shared} (I : Inv X pins σ H s) : ∀ {ls : List Addr} {r1 r2 : List (List V)}, RowsV X.K H ls r1 → RowsV X.K H ls r2 → r1 = r2
  | [], _, _, h1, h2 => by rw [show _ = [] from h1, show _ = [] from h2]
  | a :: as, _, _, ⟨x, xs, e1, q1, t1⟩, ⟨y, ys, e2, q2, t2⟩ => by rw [e1, e2, I.tuple_inj q1 q2, rowsV_inj I t1 t2]
theorem ready_of {X : Cx} {pins : List (Addr × Obj)} {σ : L2.St} {H : Hp} {s : Shared} (I : Inv X pins σ H s) {b i : Nat} : ∀ {ls : List Addr} {rows : List (List V)} {xs : List V} {it : Nat}, (∀ l ∈ ls, @LT.lt Nat _ l b) → RowsV X.K H ls rows → colV i rows = some xs → ZN.After s.heap i it ls →
    ∃ us, Vals xs us ∧ ZN.Ready s.heap b i it ls us
  | [], rows, xs, it, _, h1, h2, _ => by
    rw [show rows = [] from h1] at h2
    cases h2
    exact ⟨[], .nil, rfl⟩
  | a :: as, rows, xs, it, hb, ⟨r, rs, e1, q1, t1⟩, h2, ⟨a1, a2⟩ => by
    subst e1
    unfold colV at h2
    cases er : r[i]? with
    | none => rw [er] at h2; cases h2
    | some x =>
      cases ec : colV i rs with
      | none => rw [er, ec] at h2; cases h2
      | some ys =>
        rw [er, ec] at h2
        cases h2
        obtain ⟨its, rv, p, _⟩ := I.tuple q1
        obtain ⟨u, hu, ru⟩ := rv.get er
        obtain ⟨us, rus, rd⟩ := ready_of I (fun l hl => hb l (List.mem_cons_of_mem _ hl)) t1 ec a2
        exact ⟨u :: us, .cons ru rus, u, us, rfl, a1, hb a List.mem_cons_self, ⟨its.toArray, p, by simpa using hu⟩, rd⟩
theorem turn_zn {P : Program} {w : World} {K : Frag} {nm : Str} {np : Pos} {b : Nat} {ls : List Addr} (hl : ls.length ≤ sizeLine) (hb : ∀ l ∈ ls, @LT.lt Nat _ l b) :
    Turn P w K (.Name nm np) (ItZn K ls) (List.range' b (ls.length + 3)) (b + ls.length + 2)
      (fun i h => ZN.IsZ h (b + ls.length + 2) (b + ls.length) (b + ls.length + 1) ∧ ZN.IsTup h (b + ls.length) (ZN.refs b ls.length).toArray ∧ (∃ arr : Array Value, arr.size = ls.length ∧ ZN.IsTup h (b + ls.length + 1) arr) ∧ ZN.After h i b ls) where
  mem := by rw [List.mem_range'_1]; omega
  obj := fun i h st c hc => by
    obtain ⟨⟨g0, b0, _, hz⟩, hTI, ⟨arr, _, hTO⟩, af⟩ := st
    rw [List.mem_range'_1] at hc
    have e' : @LT.lt Nat _ c (b + ls.length) ∨ @Eq Nat c (b + ls.length) ∨ @Eq Nat c (b + ls.length + 1) ∨ @Eq Nat c (b + ls.length + 2) := by omega
    rcases e' with q | q | q | q
    · obtain ⟨l, o, ho, _, hd⟩ := af.get hc.1 q
      exact ⟨o, ho, fun v z => by rw [hd] at z; cases z⟩
    · rw [q]; exact ⟨_, hTI, fun v q => nomatch q⟩
    · rw [q]; exact ⟨_, hTO, fun v q => nomatch q⟩
    · rw [q]; exact ⟨_, hz, fun v q => nomatch q⟩
  keep := fun i h h' st k => by
    obtain ⟨hz, hTI, ⟨arr, ha, hTO⟩, af⟩ := st
    have kk : ∀ (c : Nat) (o : Obj), b ≤ c → c < b + (ls.length + 3) → h.get? c = some o → h'.get? c = some o := fun c o h1 h2 q => k c (by rw [List.mem_range'_1]; exact ⟨h1, h2⟩) o q
    exact ⟨hz.at fun o q => kk _ o (by omega) (by omega) q, kk _ _ (by omega) (by omega) hTI, ⟨arr, ha, kk _ _ (by omega) (by omega) hTO⟩, af.stay fun c o hc q => kk c o hc.1 (by omega) q⟩
  item := by
    intro X hP hw hK hc i pins s σ H E I hf st hg
    subst hP hw hK
    obtain ⟨hz, hTI, hTO, af⟩ := st
    obtain ⟨rows, xs, hne, hrows, hcol⟩ := hg
    obtain ⟨us, rus, rd⟩ := ready_of I hb hrows hcol af
    obtain ⟨g0, b0, _, hz0⟩ := id hz
    have hzl : b + ls.length + 2 < s.heap.objs.size := Heap.lt_size hz0
    refine ZN.pyNext_item hne hl rfl rfl rfl hz hTI hTO rd fun h' z' TI' TO' af' hT hsz hk => ?_
    refine ⟨_, rfl, wpAny_pure ?_⟩
    have hlen : xs.length ≤ sizeLine := by
      have e := rus.length
      rw [rd.length] at e
      omega
    have new : ObjOk X.prog X.w (upd H s.heap.objs.size (.tup xs)) h' s.heap.objs.size (.tup xs) := ⟨hlen, us, rus, ⟨_, hT, rfl, _, rfl⟩⟩
    have I1 : Inv X pins σ (upd H s.heap.objs.size (.tup xs)) { s with heap := h' } :=
      I.turnedNew (t' := s.toks) (ch := List.range' b (ls.length + 3)) (fun c o hn q => hk c o (by rw [List.mem_range'_1] at hn; omega) q) hf (Nat.le_refl _) new
    refine ⟨.ref s.heap.objs.size, _, I1, rfl, ⟨_, xs, rfl, I.hok.fresh (Nat.le_refl _), rfl, fun r2 h2 => by rw [rowsV_inj I h2 hrows]; exact hcol⟩, ⟨z', TI', TO', af'⟩, fun c hcm => ?_⟩
    have hlt : @LT.lt Nat _ c s.heap.objs.size := by rw [List.mem_range'_1] at hcm; omega
    rw [upd_ne (Nat.ne_of_lt hlt)]
    exact (hf c hcm).1
  done := by
    intro X hP hw hK hc i pins s σ H E I hf st hg
    subst hP hw hK
    obtain ⟨hz, hTI, hTO, af⟩ := st
    obtain ⟨rows, hrows, hend⟩ := hg
    refine ZN.pyNext_end (I.ok.hd hc) rfl rfl rfl hz hTI af (fun l hl2 => ?_) fun h' hk => ⟨rfl, I.turnedL (t' := s.toks) (ch := List.range' b (ls.length + 3)) (fun c o hn q => hk c o (by rw [List.mem_range'_1] at hn; omega) q) hf⟩
    cases ls with
    | nil => cases hl2
    | cons a as =>
      obtain rfl : a = l := Option.some.inj hl2
      obtain ⟨r, rs, e1, q1, t1⟩ := hrows
      subst e1
      obtain ⟨its, rv, p, _⟩ := I.tuple q1
      refine ⟨hb a List.mem_cons_self, its.toArray, p, ?_⟩
      have l1 := rv.length
      have l2 := hend r rfl
      simp
      omega
  self := fun A i s Q E st h => ZN.pyIter_z st.1 h
theorem call_typeS {M : Model} {A : Around} {E : Value → Shared → Prop} {s : Shared} {pos : Pos} {T : String} {args : List (Bool × Sem Value)} {Q : Value → Shared → Prop} (hst : args.any (·.1) = true)
    (h : wpAny M A (evalArgs (.type T) true args []) (fun a s₁ => wpAny M A (call (.type T) ([] ++ a.pos) a.kw) Q E s₁) E s) : wpAny M A (callWith pos (.type T) [] args []) Q E s := by
  unfold callWith
  refine wpAny_bind (wpAny_holding (wpAny_mono h (fun a s₁ h₁ => wpAny_bind (wpAny_standAt ?_)) fun _ _ x => x))
  simp only [hst, Bool.true_or]
  refine wpAny_bind (wpAny_pure ?_)
  exact wpAny_bind (wpAny_mono (wpAny_operate' h₁) (fun r s₂ hr => wpAny_bind (wpAny_holding (wpAny_point (wpAny_pure hr)))) fun _ _ x => x)
def iStarZ (K : Frag) (te : TE) : TI := fun σ H R => te σ H fun x H1 => ∃ a ls rows, x = .ref a ∧ SqT K H1 a (ls.map V.ref) ∧ RowsV K H1 ls rows ∧ R (ItZn K ls) H1
theorem vals_refs : ∀ {ls : List Addr} {us : List Value}, Vals (ls.map V.ref) us → us = ls.map Value.ref
  | [], _, .nil => rfl
  | a :: as, _, .cons r t => by
    rw [vals_refs t, List.map_cons]
    cases r
    rfl
theorem rowsV_tup {X : Cx} {pins : List (Addr × Obj)} {σ : L2.St} {H : Hp} {s : Shared} (I : Inv X pins σ H s) : ∀ {ls : List Addr} {rows : List (List V)}, RowsV X.K H ls rows → ∀ l ∈ ls, ∃ items, s.heap.IsTuple l items
  | a :: as, _, ⟨r, rs, e1, q1, t1⟩, l, hl => by
    rcases List.mem_cons.mp hl with rfl | hl
    · obtain ⟨its, rv, p, _⟩ := I.tuple q1
      exact ⟨_, p⟩
    · exact rowsV_tup I t1 l hl
theorem pi_starZ {X : Cx} {e : Expr} {te : TE} {p pos sp np : Pos} {nm : Str} (hg : Gl X "zip") (hm : X.mg "zip" = none) (he : PE X e te) (hst : starEach [.Starred e sp] X.env = [(true, eval e X.env)] := by rfl) :
    PI X (.Name nm np) (.Call (.Name "zip" p) [.Starred e sp] [] pos) (iStarZ X.K te) := by
  refine ⟨fun pins s σ H R I h => ?_⟩
  refine Call_ (ld_blt I hg hm PyProof.Rows.boot_zip ?_)
  show wpAny _ _ (callWith pos (.type "zip") [] (backTo pos (starEach [.Starred e sp] X.env)) []) _ _ _
  rw [hst]
  refine call_typeS rfl (PySem.W.ks_lone (thn (he.run pins s σ H _ I h) fun v s1 ⟨y, H1, I1, ry, a, ls, rows, ey, hx, hrows, q⟩ => ?_))
  subst ey
  obtain rfl : v = Value.ref a := ry
  refine StX.star_any I1 (.inl hx) fun us s2 I2 rv => ?_
  obtain rfl := vals_refs rv
  have hl : ls.length ≤ sizeLine := by
    obtain ⟨its, rv2, p2, hz⟩ := I2.tuple hx
    rw [List.length_map] at hz
    exact hz
  have ht := rowsV_tup I2 hrows
  refine ZN.call_zip hl ht fun h' M => ?_
  refine ZN.pyIter_z M.z ?_
  have hb : ∀ l ∈ ls, @LT.lt Nat _ l s2.heap.objs.size := fun l hl => by
    obtain ⟨items, o, ho, _⟩ := ht l hl
    exact Heap.lt_size ho
  have I3 : Inv X pins σ H1 { s2 with heap := h' } := I2.kept (t' := s2.toks) M.keep
  exact ⟨_, _, _, _, H1, rfl, I3, turn_zn hl hb, ⟨M.z, M.TI, M.TO, M.its⟩, fun c hcm => by
    rw [List.mem_range'_1] at hcm
    exact I2.fpOk hcm.1 (I2.hok.fresh hcm.1), q⟩
/-! ### on data -/
def rowsD : List D → Option (List (List D))
  | [] => some []
  | .tup r :: l => (rowsD l).map fun rs => r :: rs
  | _ :: _ => none
def widthD : List (List D) → Nat
  | [] => 0
  | r :: _ => r.length
def colsD (rows : List (List D)) : List (List D) := (List.range (widthD rows)).map fun i => rows.map fun r => r.getD i .non
def zipSD (x : D) (s : Sto) : Res Src := match x with
  | .tup l => (match rowsD l with
    | some rows => if (rows.all fun r => r.length == widthD rows) = true then .ok ⟨(colsD rows).map .tup, none⟩ s else .bad
    | none => .bad)
  | _ => .bad
def zipSI (a : DE) : DM Src := bindM a fun x => fun _ s => zipSD x s
inductive RowR (K : Frag) (w : Wd) : List Addr → List (List V) → List (List D) → Prop
  | nil : RowR K w [] [] []
  | cons {a : Addr} {vs : List V} {ds : List D} {as : List Addr} {vss : List (List V)} {dss : List (List D)} : TAt K w a vs → Reps K w vs ds → RowR K w as vss dss → RowR K w (a :: as) (vs :: vss) (ds :: dss)
theorem rowsD_ok {K : Frag} {w : Wd} : ∀ {vs : List V} {l : List D} {rows : List (List D)}, Reps K w vs l → rowsD l = some rows → ∃ ls vss, vs = ls.map V.ref ∧ RowR K w ls vss rows
  | _, [], _, .nil, h => by cases h; exact ⟨[], [], rfl, .nil⟩
  | _, d :: l, rows, .cons r t, h => by
    cases r with
    | @tup a xs ds ha rs =>
      have h' : (rowsD l).map (fun rs => ds :: rs) = some rows := h
      cases e : rowsD l with
      | none => rw [e] at h'; cases h'
      | some rs2 =>
        rw [e] at h'
        cases h'
        obtain ⟨ls, vss, rfl, q⟩ := rowsD_ok t e
        exact ⟨a :: ls, xs :: vss, rfl, .cons ha rs q⟩
    | _ => cases h
theorem RowR.ext {K : Frag} {w w' : Wd} (e : Ext w w') : ∀ {ls : List Addr} {vss : List (List V)} {dss : List (List D)}, RowR K w ls vss dss → RowR K w' ls vss dss
  | _, _, _, .nil => .nil
  | _, _, _, .cons h r t => .cons (h.ext e) (r.ext e) (t.ext e)
theorem RowR.rows {K : Frag} {w : Wd} : ∀ {ls : List Addr} {vss : List (List V)} {dss : List (List D)}, RowR K w ls vss dss → RowsV K w.H ls vss
  | _, _, _, .nil => rfl
  | _, _, _, .cons h _ t => ⟨_, _, rfl, h.sq, t.rows⟩
theorem RowR.col {K : Frag} {w : Wd} {i : Nat} : ∀ {ls : List Addr} {vss : List (List V)} {dss : List (List D)}, RowR K w ls vss dss → (∀ r ∈ dss, i < r.length) → ∃ xs, colV i vss = some xs ∧ Reps K w xs (dss.map fun r => r.getD i .non)
  | _, _, _, .nil, _ => ⟨[], rfl, .nil⟩
  | _, _, _, .cons (vs := vs) (ds := ds) h r t, hi => by
    obtain ⟨xs, e, q⟩ := t.col fun r hr => hi r (List.mem_cons_of_mem _ hr)
    have hlt := hi ds List.mem_cons_self
    have hd : ds[i]? = some (ds.getD i .non) := by rw [List.getElem?_eq_getElem hlt, List.getD_eq_getElem?_getD, List.getElem?_eq_getElem hlt]; rfl
    obtain ⟨v, hv, rv⟩ := r.get hd
    refine ⟨v :: xs, ?_, .cons rv q⟩
    unfold colV
    rw [hv, e]
theorem itR_zn {K : Frag} {w : Wd} {ls : List Addr} {vss : List (List V)} {rows : List (List D)} (R : RowR K w ls vss rows) (hw : (rows.all fun r => r.length == widthD rows) = true) : ItR K w (ItZn K ls) ⟨(colsD rows).map .tup, none⟩ where
  go := fun i d w' s hd e st _ => by
    have hd' : ((colsD rows).map D.tup)[i]? = some d := hd
    rw [List.getElem?_map] at hd'
    unfold colsD at hd'
    rw [List.getElem?_map] at hd'
    cases er : (List.range (widthD rows))[i]? with
    | none => rw [er] at hd'; cases hd'
    | some j =>
      rw [er] at hd'
      obtain ⟨hi, hj⟩ := List.getElem?_eq_some_iff.mp er
      rw [List.length_range] at hi
      rw [List.getElem_range] at hj
      subst hj
      cases hd'
      obtain ⟨xs, e1, q1⟩ := R.col (i := i) fun r hr => by
        have z := List.all_eq_true.mp hw r hr
        simp only [beq_iff_eq] at z
        omega
      have hne : ls ≠ [] := fun z => by
        subst z
        cases R
        simp [widthD] at hi
      refine ⟨⟨vss, xs, hne, (R.ext e).rows, e1⟩, fun x H' y => ?_⟩
      obtain ⟨T, ys, rfl, nT, rfl, g1⟩ := y
      have e2 := (g1 vss (R.ext e).rows).symm.trans e1
      cases e2
      exact ⟨w'.frz T (.tup xs), Wd.frz_ext st nT, rfl, Wd.frz_st st nT, rep_newT st (q1.ext e) nT⟩
  stop := fun w' s e st _ => ⟨vss, (R.ext e).rows, fun r hr => by
    show r.length ≤ ((colsD rows).map _).length
    rw [List.length_map, colsD, List.length_map, List.length_range]
    cases R with
    | nil => cases hr
    | cons h q t =>
      cases hr
      rw [q.length]
      exact Nat.le_refl _⟩
section
variable {X : Cx} {W : WX} {e : Expr} {p pos sp np : Pos} {nm : Str} {ma : DE}
theorem i_starZ (hg : Gl X "zip") (hm : X.mg "zip" = none) (he : PE X e (tE X.K W ma)) (hst : starEach [.Starred e sp] X.env = [(true, eval e X.env)] := by rfl) :
    PI X (.Name nm np) (.Call (.Name "zip" p) [.Starred e sp] [] pos) (tI X.K W (zipSI ma)) :=
  PI.imp (pi_starZ hg hm he hst) fun t H Q h => by
    obtain ⟨r, s, w, rfl, env, st, hp⟩ := h
    exact hp.bind env st fun x d s1 w1 e1 st1 r1 hp1 => by
      unfold zipSD at hp1
      split at hp1
      · split at hp1
        · split at hp1
          · rename_i _ l _ rows hr hw
            cases r1 with
            | @tup a vs ds ha rs =>
              obtain ⟨ls, vss, rfl, R⟩ := rowsD_ok rs hr
              exact ⟨a, ls, vss, rfl, ha.sq, R.rows, hp1.pure st1 (itR_zn R hw)⟩
          · exact hp1.elim
        · exact hp1.elim
      · exact hp1.elim
end
end Mp

set_option Elab.async false
set_option linter.all false
set_option maxRecDepth 100000
set_option maxHeartbeats 4000000
/-! Mp: isinstance of a tuple of classes, len of dicts, list(range(n)). -/
namespace Mp
open PySem PySem.Spec PyProof.Rows L2
section
variable {X : Cx}
abbrev rIsiQ (K : Frag) : List V → Hp → VK → Prop := fun xs H Q => ∃ (x : V) (tp : Addr) (cs : List V) (t : Value) (us : List Value) (b : Bool), xs = [x, .ref tp] ∧ SqT K H tp cs ∧ Paired ClsV cs us ∧ TyX K H x t ∧ PySem.W.kitAny K t us = some b ∧ Q (.bl b) H
theorem call_isiQ : CallR X (.builtin "isinstance") (rIsiQ X.K) := by
  intro pins s σ H xs us Q I r h
  obtain ⟨x, tp, cs, t, ws, b, rfl, hT, k, ty, e, q⟩ := h
  obtain ⟨u1, u2, rfl, r1, r2⟩ := vals2 r
  cases (show u2 = Value.ref tp from r2)
  obtain ⟨P, Z, p, hx⟩ := kit_of I r1 ty
  obtain ⟨its, rv, ⟨o, h1, h2, n, h3⟩, _⟩ := I.tuple hT
  have e3 := ClsV.all k rv
  subst e3
  obtain ⟨oc, od, dt, sl⟩ := o
  simp only at h2 h3
  subst h2 h3
  exact PySem.W.kia_tup Z I.kIn p h1 e hx fun tk => ⟨.bl b, H, I.tok tk, rfl, q⟩
end
def isiTs (it : Isi) (t : Tg) : List D → Option Bool
  | [] => some false
  | c :: cs => (match isiT it t c with
    | some true => some true
    | some false => isiTs it t cs
    | none => none)
def isiTD (it : Isi) (ds : List D) (s : Sto) : Res D := match ds with
  | [x, .tup cs] => (match tagD s x with
    | some t => (match isiTs it t cs with
      | some b => .ok (.bl b) s
      | none => .bad)
    | none => .bad)
  | _ => .bad
def tgV (K : Frag) : Tg → Value
  | .bt n => .type n
  | .own C => .ref (He.ga K C)
theorem isiT_one {K : Frag} {it : Isi} (O : IsiOk K it) {w : Wd} {x : V} {t : Tg} (g : TgOk K w x t) {c : V} {dc : D} {b : Bool} (q : Rep K w c dc) (eb : isiT it t dc = some b) :
    TyX K w.H x (tgV K t) ∧ ∃ u, ClsV c u ∧ PySem.W.kitOne K (tgV K t) u = some b := by
  cases t with
  | bt n =>
    cases q with
    | ty m => exact ⟨g.1, _, .ty m, kit_ty eb⟩
    | glo C =>
      have eb' : (if C ∈ it.bo then some false else none) = some b := eb
      split at eb'
      · rename_i hc
        cases eb'
        exact ⟨g.1, _, .own _, O.bo C hc n g.2⟩
      · cases eb'
    | _ => cases eb
  | own C =>
    obtain ⟨a, dx, fs, rfl, hh⟩ := g
    cases q with
    | ty m =>
      have eb' : (if C ∈ it.cs then it.ob.lookup (C, m) else none) = some b := eb
      split at eb'
      · rename_i hc
        obtain ⟨c1, c2, c3, c4, c5⟩ := O.cs C hc
        exact ⟨.base (.ins hh c1 c2 c3 c4 c5), _, .ty m, O.ob _ (look_mem (k := (C, m)) eb')⟩
      · cases eb'
    | glo E =>
      have eb' : (if C ∈ it.cs then it.oo.lookup (C, E) else none) = some b := eb
      split at eb'
      · rename_i hc
        obtain ⟨c1, c2, c3, c4, c5⟩ := O.cs C hc
        exact ⟨.base (.ins hh c1 c2 c3 c4 c5), _, .own _, O.oo _ (look_mem (k := (C, E)) eb')⟩
      · cases eb'
    | _ => cases eb
/-- what a class's name stands for -/
theorem cls_any {K : Frag} {w : Wd} {c : V} {dc : D} (q : Rep K w c dc) (h : (match dc with | .ty _ => true | .glo _ => true | _ => false) = true) : ∃ u, ClsV c u := by
  cases q with
  | ty m => exact ⟨_, .ty m⟩
  | glo C => exact ⟨_, .own _⟩
  | _ => cases h
def isCl : D → Bool
  | .ty _ => true
  | .glo _ => true
  | _ => false
theorem isiTs_ok {K : Frag} {it : Isi} (O : IsiOk K it) {w : Wd} {x : V} {t : Tg} (g : TgOk K w x t) : ∀ {cs : List V} {dcs : List D} {b : Bool}, Reps K w cs dcs → dcs.all isCl = true → isiTs it t dcs = some b → ∃ us, Paired ClsV cs us ∧ PySem.W.kitAny K (tgV K t) us = some b
  | _, _, _, .nil, _, h => by cases h; exact ⟨[], .nil, kitAny_nil⟩
  | _, _, b, .cons (d := d) q r, ha, h => by
    rw [List.all_cons, Bool.and_eq_true] at ha
    unfold isiTs at h
    cases e : isiT it t d with
    | none => rw [e] at h; cases h
    | some b1 =>
      rw [e] at h
      obtain ⟨_, u, c1, k1⟩ := isiT_one O g q e
      cases b1 with
      | true =>
        cases h
        have : ∀ {cs : List V} {dcs : List D}, Reps K w cs dcs → dcs.all isCl = true → ∃ us, Paired ClsV cs us := by
          intro cs dcs r ha
          induction dcs generalizing cs with
          | nil => cases r; exact ⟨[], .nil⟩
          | cons d2 l ih =>
            cases r with
            | cons q2 r2 =>
              rw [List.all_cons, Bool.and_eq_true] at ha
              obtain ⟨us, p⟩ := ih r2 ha.2
              obtain ⟨u2, c2⟩ := cls_any q2 (by cases d2 <;> first | rfl | exact ha.1)
              exact ⟨u2 :: us, .cons c2 p⟩
        obtain ⟨us, p⟩ := this r ha.2
        exact ⟨u :: us, .cons c1 p, kitAny_cons k1 (fun z => by cases z) fun _ => rfl⟩
      | false =>
        obtain ⟨us, p, k⟩ := isiTs_ok O g r ha.2 h
        exact ⟨u :: us, .cons c1 p, kitAny_cons k1 (fun _ => k) fun z => by cases z⟩
/-- isinstance(x, (c, ..)) -/
def isiMD (it : Isi) (ds : List D) (s : Sto) : Res D := match ds with
  | [x, .tup (c :: cs)] => (match tagD s x with
    | some t => (match isiTs it t (c :: cs) with
      | some b => if (c :: cs).all isCl = true then .ok (.bl b) s else .bad
      | none => .bad)
    | none => .bad)
  | _ => .bad
section
variable {X : Cx}
theorem v_isiM {it : Isi} (O : IsiOk X.K it) : VRC X.K (rIsiQ X.K) (isiMD it) := fun w s xs ds Q E st rs hp => by
  unfold isiMD at hp
  split at hp
  · rename_i x c cs
    cases rs with
    | @cons xv _ _ _ q r =>
      cases r with
      | cons q2 r =>
        cases r
        cases q2 with
        | @tup a vs _ ha rs =>
          split at hp
          · rename_i t et
            have g := tag_ok st q et
            split at hp
            · rename_i b eb
              split at hp
              · rename_i hc
                have ty : TyX X.K w.H xv (tgV X.K t) := by
                  cases rs with
                  | cons q1 r1 =>
                    unfold isiTs at eb
                    cases e1 : isiT it t c with
                    | none => rw [e1] at eb; cases eb
                    | some b1 => exact (isiT_one O g q1 e1).1
                obtain ⟨us, p, k⟩ := isiTs_ok O g rs hc eb
                exact ⟨_, a, vs, _, us, b, rfl, ha.sq, p, ty, k, hp.pure st (.bl _)⟩
              · exact hp.elim
            · exact hp.elim
          · exact hp.elim
  · exact hp.elim
/-! ### len -/
abbrev rLenRd : List V → Hp → VK → Prop := fun xs H Q => ∃ a kvs, xs = [V.ref a] ∧ Rd H a (.dK kvs) ∧ Q (.int (kvs.length : Nat)) H
theorem call_lenRd : CallR X (.builtin "len") rLenRd := by
  intro pins s σ H xs us Q I r h
  obtain ⟨a, kvs, rfl, ha, q⟩ := h
  obtain ⟨u, rfl, ru⟩ := vals1 r
  cases ru
  exact d_len I ha fun t s' I' => ⟨.int kvs.length, H, I', ⟨t, rfl⟩, q⟩
def lenX (ds : List D) (s : Sto) : Res D := match ds with
  | [x] => (match dctOf s x with
    | some m => .ok (.int (m.length : Nat)) s
    | none => lenD ds s)
  | _ => .bad
theorem v_lenX : VRC X.K (fun xs H Q => (∃ x n, xs = [x] ∧ LenV X.K x H n ∧ Q (.int (n : Nat)) H) ∨ rLenRd xs H Q) lenX := fun w s xs ds Q E st rs hp => by
  unfold lenX at hp
  split at hp
  · split at hp
    · rename_i m hm
      obtain ⟨x, rfl, rx⟩ := rs.one
      obtain ⟨p, l, rfl, hr, kv⟩ := dctOf_ok st rx hm
      refine .inr ⟨p, l, rfl, hr, ?_⟩
      rw [kv.length]
      exact hp.pure st (.int _)
    · exact .inl (v_len w s xs _ Q E st rs hp)
  · exact hp.elim
theorem call_lenX : CallR X (.builtin "len") (fun xs H Q => (∃ x n, xs = [x] ∧ LenV X.K x H n ∧ Q (.int (n : Nat)) H) ∨ rLenRd xs H Q) := CallR.or call_len call_lenRd
end
/-! ### list(range(n)) -/
@[irreducible] def listRgD (k : Bool) (ds : List D) (s : Sto) : Res D := match ds with
  | [.int n] => if 0 ≤ n ∧ n ≤ 16777216 then newL k (intL 0 n.toNat) s else .bad
  | _ => .bad
def listRgM (k : Bool) (a : DE) : DE := bindM a fun x => fun _ s => listRgD k [x] s
section
variable {X : Cx} {W : WX} {a : Expr} {p p2 pos pos2 : Pos} {ma : DE}
theorem e_listRg (k : Bool) (hc : X.calm = true) (hg : Gl X "list") (hm : X.mg "list" = none) (hg2 : Gl X "range") (hm2 : X.mg "range" = none) (ha : PE X a (tE X.K W ma)) (na : starEach [a] X.env = (false, eval a X.env) :: starEach [] X.env := by rfl) :
    PE X (.Call (.Name "list" p) [.Call (.Name "range" p2) [a] [] pos2] [] pos) (tE X.K W (listRgM k ma)) :=
  PE.imp (pe_listRg hc hg hm (prg_1 hg2 hm2 ha na)) fun t H Q h => by
    obtain ⟨r, s, w, rfl, env, st, hp⟩ := h
    exact hp.bind env st fun x d s1 w1 e1 st1 r1 hp1 => by
      unfold listRgD at hp1
      split at hp1
      · rename_i n hd
        cases hd
        split at hp1
        · rename_i hn
          cases r1
          refine ⟨n, rfl, RgOk.of_le (by omega) hn.2 (by omega) hn.1, ?_⟩
          have rr : ∀ m : Nat, Reps X.K w1 (rgV 0 (m : Nat)) (intL 0 m) := fun m => by
            unfold rgV intL
            rw [Int.sub_zero, Int.toNat_natCast]
            generalize List.range m = l
            induction l with
            | nil => exact .nil
            | cons i l ih => exact .cons (.int _) ih
          have e : n = ((n.toNat : Nat) : Int) := (Int.toNat_of_nonneg hn.1).symm
          have z := hp1.newL st1 (rr n.toNat)
          rw [← e] at z
          exact z
        · exact hp1.elim
      · exact hp1.elim
end
end Mp

set_option Elab.async false
set_option linter.all false
set_option maxRecDepth 100000
set_option maxHeartbeats 4000000
/-! Mp: lambdas without parameters, handed to a def. -/
namespace Mp
open PySem PySem.Spec PyProof.Rows L2
/-! ### a frame as data -/
theorem repE_of {K : Frag} {w : Wd} : ∀ {r : En} {t : L2.St}, EnvR K w r t → RepE K w t r
  | [], [], _ => .nil
  | [], _ :: _, h => by cases h.1
  | _ :: _, [], h => by cases h.1
  | x :: r, y :: t, h => by
    have tl : EnvR K w r t := ⟨by simpa using h.1, fun i d q => h.2 (i + 1) d (by simpa using q)⟩
    cases x with
    | none => exact .non (repE_of tl)
    | some d =>
      obtain ⟨v, e, rv⟩ := h.2 0 d rfl
      have e : y = some v := by simpa using e
      subst e
      exact .som rv (repE_of tl)
theorem envR_of {K : Frag} {w : Wd} : ∀ {r : En} {t : L2.St}, RepE K w t r → EnvR K w r t
  | _, _, .nil => ⟨rfl, fun i d q => by simp at q⟩
  | _, _, .non h => by
    obtain ⟨h1, h2⟩ := envR_of h
    refine ⟨by simp [h1], fun i d q => ?_⟩
    cases i with
    | zero => cases q
    | succ i => exact h2 i d (by simpa using q)
  | _, _, .som rv h => by
    obtain ⟨h1, h2⟩ := envR_of h
    refine ⟨by simp [h1], fun i d q => ?_⟩
    cases i with
    | zero =>
      have q : some (some _) = some (some d) := q
      cases q
      exact ⟨_, rfl, rv⟩
    | succ i => exact h2 i d (by simpa using q)
/-! ### mirrors -/
/-- the call of what was handed over: only of the very one -/
noncomputable def thM (f c : Addr) (q : Str) (t : L2.St) (r0 : En) (te : DE) : DE := fun r s => by
  classical
  exact if r[0]? = some (some (D.clo f c q t r0)) then te r0 s else .bad
def resF : Fl → Res D
  | .nx _ s' => .ok .non s'
  | .rt d s' => .ok d s'
  | _ => .bad
/-- g(lambda: e), g's text b, the table of the def around in cell i -/
noncomputable def lamM (i : Nat) (x : Str) (n : Nat) (b : DE → DS) (te : DE) : DE := fun r s => by
  classical
  exact if s[i]? = some (some (.tab x)) then if h : ∃ R : Res D, ∀ (f c : Addr) (t : L2.St), resF (b (thM f c (lamQ x) t r te) (some (.clo f c (lamQ x) t r) :: List.replicate n none) s) = R then h.choose else .bad else .bad
theorem lamM_eq {i n : Nat} {b : DE → DS} {te : DE} {r : En} {s : Sto} {x : Str} {R : Res D} (h : s[i]? = some (some (.tab x))) (hR : ∀ (f c : Addr) (t : L2.St), resF (b (thM f c (lamQ x) t r te) (some (.clo f c (lamQ x) t r) :: List.replicate n none) s) = R) : lamM i x n b te r s = R := by
  unfold lamM
  rw [if_pos h]
  have hx : ∃ R : Res D, ∀ (f c : Addr) (t : L2.St), resF (b (thM f c (lamQ x) t r te) (some (.clo f c (lamQ x) t r) :: List.replicate n none) s) = R := ⟨R, hR⟩
  rw [dif_pos hx]
  exact (hx.choose_spec 0 0 []).symm.trans (hR 0 0 [])
/-! ### the lambda is made -/
/-- the heap behind: as it was, or with a new code object, told in the table -/
def LamStep (H : Hp) (P : Addr) (q : Str) (ps : Array Value) (pos : Pos) (c : Addr) (H1 : Hp) : Prop :=
  (H1 = H ∧ codeAmong pos ps.toList = some (.ref c)) ∨ (H c = none ∧ c ≠ P ∧ H1 = upd (upd H P (.tbl (ps ++ #[rawInt pos.line, rawInt pos.col, .ref c]))) c (LamX.CodeO c q))
abbrev lamO (X : Cx) (params : Arguments) (body : Expr) (scope : Scope) (pm : Value) (c : Addr) (ctv : Value) : Obj := PySem.W.kla_obj "<lambda>" (X.env.qual ++ "<lambda>") params body scope (cloFrom X.env.cells scope.names []) pm c ctv
section
variable {X : Cx} {pins : List (Addr × Obj)} {t : L2.St} {H : Hp} {s : Shared}
theorem lam_new {c P : Addr} {params : Arguments} {body : Expr} {scope : Scope} {pos : Pos} {ps : Array Value} {E : Value → Shared → Prop} {Q : Value → Shared → Prop} (I : Inv X pins t H s) (TB : LamX.TabB X.base X.mg c P) (hcode : X.env.code = .ref c)
    (hP : H P = some (.tbl ps)) (ht : TriplesOk ps.toList) (ha : ∀ (p : Pos) (cv : Value), codeAmong p ps.toList = some cv → ∃ c, cv = .ref c) (hdef : defaultsOf params X.env = ([], [])) (hfree : ∀ y ∈ scope.names, y.2 = .free → ∃ c, X.env.cells.lookup y.1 = some c)
    (h : ∀ (f c' : Addr) (pm ctv : Value) (H1 : Hp) (s' : Shared), Inv X pins t H1 s' → LamStep H P (X.env.qual ++ "<lambda>") ps pos c' H1 → s'.heap.get? f = some (lamO X params body scope pm c' ctv) → H1 f = none → f ∉ frs X.stack → Q (.ref f) s') :
    wpAny (model X.prog X.w) X.A (eval (.Lambda params body scope pos) X.env) Q E s := by
  have onP : s.heap.get? P = some { cls := .none, data := .fields ps } := I.hok P _ hP
  have young : ∀ f, s.heap.objs.size ≤ f → f ∉ frs X.stack := fun f hf z => by
    rcases List.mem_cons.mp (I.stkSub _ z) with e | e
    · have l1 := I.lt
      rw [← e] at l1
      exact absurd (Nat.lt_of_lt_of_le l1 hf) (Nat.lt_irrefl _)
    · exact I.nofs hf e
  have nsg := I.mod.glob.keeps I.bk
  have bP := TB.bm.keeps I.bk
  have cP := TB.code.keeps I.bk
  have cl := closure_ok (scope := scope) (env := X.env) hfree
  refine PySem.W.kla_eval hdef ?_
  cases hc : codeAmong pos ps.toList with
  | none =>
    refine PySem.W.kla_makeFunction (mg := X.mg) cl I.ok.glob nsg hcode cP onP ht hc TB.gP bP fun c' ctv h' tk hx hge hlt hrec htb => ?_
    obtain ⟨c2, oc, vs, u, e2, hoc, hd, hv⟩ := hrec
    cases e2
    have hsz : s.heap.objs.size ≤ h'.objs.size := Nat.le_trans hge (Nat.le_of_lt hlt)
    have nC : H c' = none := I.hok.fresh hge
    have nP : c' ≠ P := fun z => by
      rw [z, hP] at nC
      cases nC
    have J := LamX.inv_table (t' := tk) (more := #[rawInt pos.line, rawInt pos.col, .ref c']) (h' := h'.push (lamO X params body scope ((X.mg "__name__").getD .none) c' ctv)) I hP
      (fun b o hb e => Heap.get?_push_of_some _ (hx b o hb e)) (Heap.get?_push_of_some _ htb) hge ⟨oc, vs, u, Heap.get?_push_of_some _ hoc, hd, hv⟩
    refine h h'.objs.size c' _ ctv _ _ J (.inr ⟨nC, nP, rfl⟩) (Heap.get?_push_size _ rfl) ?_ (young _ hsz)
    have n2 : h'.objs.size ≠ P := Nat.ne_of_gt (Nat.lt_of_lt_of_le (Heap.lt_size onP) hsz)
    rw [upd_ne (Nat.ne_of_gt hlt), upd_ne n2]
    exact I.hok.fresh hsz
  | some cv =>
    obtain ⟨c', e⟩ := ha pos cv hc
    subst e
    refine PySem.W.kla_makeFunctionHit (mg := X.mg) cl I.ok.glob nsg hcode cP onP ht hc bP fun ctv h' tk hx hsz => ?_
    have J : Inv X pins t H { s with heap := h'.push (lamO X params body scope ((X.mg "__name__").getD .none) c' ctv), toks := tk } := I.kept fun b o e => Heap.get?_push_of_some _ (hx b o e)
    exact h h'.objs.size c' _ ctv H _ J (.inl ⟨rfl, hc⟩) (Heap.get?_push_size _ rfl) (I.hok.fresh hsz) (young _ hsz)
end
/-- .. in the world -/
theorem lam_world {K : Frag} {w : Wd} {so : Sto} {i : Nat} {x : Str} {P c : Addr} {ps : Array Value} {pos : Pos} {H1 : Hp} (st : StR K w so) (hi : so[i]? = some (some (.tab x))) (hA : w.A i = some P) (hz : ¬ w.Z P) (eP : P = tabA K x) (hP : w.H P = some (.tbl ps)) (ht : TriplesOk ps.toList)
    (ha : ∀ (p : Pos) (cv : Value), codeAmong p ps.toList = some cv → ∃ c, cv = .ref c ∧ w.Z c ∧ w.H c = some (LamX.CodeO c (lamQ x))) (h : LamStep w.H P (lamQ x) ps pos c H1) : ∃ w1 : Wd, w1.H = H1 ∧ Ext w w1 ∧ StR K w1 so ∧ w1.Z c ∧ w1.H c = some (LamX.CodeO c (lamQ x)) := by
  rcases h with ⟨rfl, hc⟩ | ⟨nC, nP, rfl⟩
  · obtain ⟨c2, e, z, hh⟩ := ha pos _ hc
    cases e
    exact ⟨w, rfl, Ext.refl w, st, z, hh⟩
  · let w1 : Wd := ⟨w.A, fun a => w.Z a ∨ a = c, w.P, upd (upd w.H P (.tbl (ps ++ #[rawInt pos.line, rawInt pos.col, .ref c]))) c (LamX.CodeO c (lamQ x))⟩
    have hne : ∀ b, w.H b ≠ none → b ≠ c := fun b hb z => hb (z ▸ nC)
    have keepB : ∀ b, b ≠ P → w.H b ≠ none → w1.H b = w.H b := fun b h1 h2 => by
      show upd (upd w.H P _) c _ b = _
      rw [upd_ne (hne b h2), upd_ne h1]
    have e : Ext w w1 := ⟨⟨fun _ _ h => h, fun _ h => .inl h, fun a z => keepB a (fun q => hz (q ▸ z)) (st.fz a z)⟩, fun _ h => h, fun a z => keepB a (fun q => st.np i _ P hi hA (q ▸ z)) (st.pz a z).2⟩
    have hPne : w.H P ≠ none := by rw [hP]; exact fun z => nomatch z
    refine ⟨w1, rfl, e, ⟨fun m ct q => ?_, st.np, fun a z => ⟨fun q => Or.elim q (st.pz a z).1 fun q2 => hne a (st.pz a z).2 q2, ?_⟩, st.inj, fun a z => ?_, st.new⟩, .inr rfl, upd_same⟩
    · obtain ⟨a, k1, k2, k3⟩ := st.at_ m ct q
      obtain ⟨ob, ho, _⟩ := k3.some
      have hac : a ≠ c := hne a (by rw [ho]; exact fun z => nomatch z)
      have nz : NZ w1 a ct := k2.mono (w' := w1) fun (z : w.Z a ∨ a = c) => Or.elim z id fun q2 => absurd q2 hac
      by_cases hm : m = i
      · subst hm
        have e2 : a = P := Option.some.inj (k1.symm.trans hA)
        subst e2
        rw [hi] at q
        cases q
        refine ⟨a, k1, nz, eP, ps ++ #[rawInt pos.line, rawInt pos.col, .ref c], ?_, ?_, fun p cv hcv => ?_⟩
        · show upd (upd w.H a _) c _ a = _
          rw [upd_ne (Ne.symm nP), upd_same]
        · have eL : (ps ++ #[rawInt pos.line, rawInt pos.col, .ref c]).toList = ps.toList ++ [rawInt pos.line, rawInt pos.col, .ref c] := by simp
          rw [eL]
          exact PySem.TriplesOk_snoc _ _ _ _ ht
        · have eL : (ps ++ #[rawInt pos.line, rawInt pos.col, .ref c]).toList = ps.toList ++ [rawInt pos.line, rawInt pos.col, .ref c] := by simp
          rw [eL] at hcv
          rcases LamX.among_app _ ht hcv with z | z
          · obtain ⟨c0, q1, q2, q3⟩ := ha p cv z
            exact ⟨c0, q1, .inl q2, (e.H c0 q2).trans q3⟩
          · exact ⟨c, z, .inr rfl, upd_same⟩
      · have hap : a ≠ P := fun z => hm (st.inj m i P ct _ q hi (z ▸ k1) hA)
        exact ⟨a, k1, nz, k3.same e (keepB a hap (by rw [ho]; exact fun z => nomatch z))⟩
    · rw [keepB a (fun q => st.np i _ P hi hA (q ▸ z)) (st.pz a z).2]
      exact (st.pz a z).2
    · rcases z with z | z
      · rw [keepB a (fun q => hz (q ▸ z)) (st.fz a z)]
        exact st.fz a z
      · rw [z]
        show upd _ c _ c ≠ none
        rw [upd_same]
        exact fun z => nomatch z
/-! ### it is called -/
section
variable {X : Cx} {pins : List (Addr × Obj)} {t : L2.St} {H : Hp} {s : Shared}
abbrev gCx (X : Cx) (Ng : List Str) (qg : Str) (sg : Scope) (g : Addr) (cdg : Value) (s : Shared) (H : Hp) : Cx := cxOf C8.CX0 X.prog X.w X.K X.mg X.base Ng qg sg g cdg X.A X.stack s H C8.E0
theorem act_lam {Ng : List Str} {qg q : Str} {sg : Scope} {g f c : Addr} {cdg pm ctv : Value} {params : Arguments} {body : Expr} {scope : Scope} {k : Nat} {a : Str} {pn : List (Addr × Obj)} {xe : Value → Shared → Prop} {W : WX} {te : DE} {r0 : En} {p1 p2 : Pos}
    (I : Inv X pins t H s) (L : LamX.LamS X.env.scope scope) (eq : q = X.env.qual ++ "<lambda>") (hf : s.heap.get? f = some (lamO X params body scope pm c ctv)) (hfn : H f = none) (hfr : f ∉ frs X.stack)
    (hbind : bindArgs (PySem.W.kla_fn "<lambda>" (X.env.qual ++ "<lambda>") params body scope (cloFrom X.env.cells scope.names []) pm (.ref c) ctv) ⟨[], []⟩ = pure [])
    (tk : Takes ((gCx X Ng qg sg g cdg s H).tr pn xe) W) (hr : Rm (k + 1) (X.A.deeper (envOfC qg sg s.heap.objs.size g cdg)))
    (hbody : ∀ (A : Around) (outer : List Env) (s : Shared) (H : Hp) (E : XK), Rm k (A.deeper (LamX.lamEnv X scope s.heap.objs.size f c)) → PE (LamX.lamCx X A outer s H E scope f c) body (tE X.K (fun cl d _ H' => E cl d H') te))
    (hN : Ng[0]? = some a) (hv : Vis sg a) (hd : (a == ("__debug__" : Str)) = false) (hcd : (a == ("__classdict__" : Str)) = false) :
    PE ((gCx X Ng qg sg g cdg s H).tr pn xe) (.Call (.Name a p1) [] [] p2) (tE X.K W (thM f c q t r0 te)) := by
  classical
  refine ⟨fun pinsZ sZ tz HZ Q IZ h => ?_⟩
  obtain ⟨rz, so, w, rfl, envz, st, hp⟩ := h
  by_cases hz : rz[0]? = some (some (D.clo f c q t r0))
  rotate_left
  · have e : thM f c q t r0 te rz so = .bad := by
      unfold thM
      rw [if_neg hz]
    rw [e] at hp
    exact hp.elim
  have e : thM f c q t r0 te rz so = te r0 so := by
    unfold thM
    rw [if_pos hz]
  rw [e] at hp
  obtain ⟨v0, hs, rv⟩ := envz.2 0 _ hz
  cases rv with
  | clo zc hc re =>
    have env0 := envR_of re
    refine wpAny_Call_Name_kw (thn ((pe_var (pos := p1) (i := 0) hN hv hd hcd).run pinsZ sZ tz w.H (fun v H1 => v = .ref f ∧ H1 = w.H) IZ ⟨.ref f, hs, rfl, rfl⟩) fun u s1 z => ?_)
    obtain ⟨v, H1, I1, r1, rfl, eH⟩ := z
    rw [eH] at I1
    obtain rfl : u = Value.ref f := r1
    have at1 : s1.heap.get? f = some (lamO X params body scope pm c ctv) := I1.base.keep f _ hf hfn hfr fun z => nomatch (show f ∈ ([] : List Addr) from z)
    refine PySem.W.callWith_F0 ⟨_, _, _, _, at1⟩ ?_
    have un : Un (frs X.stack) [] H w.H s.heap s1.heap := I1.base
    have hcq : w.H c = some (LamX.CodeO c (X.env.qual ++ "<lambda>")) := eq ▸ hc
    obtain ⟨⟨oc, vs, u2, hoc, hdc, hvc⟩, _, _⟩ := I1.hok c _ hcq
    have rc : codeAny (model X.prog X.w) (X.A.deeper (envOfC qg sg s.heap.objs.size g cdg)) (.call (.ref f) ⟨[], []⟩) (CR (L2.CX X.prog X.w) (envOfC qg sg s.heap.objs.size g cdg :: X.stack) X.prog X.w w.H s1 Q (WE W tz)) s1 := by
      refine PySem.W.kla_callFunE hr.rm.depth at1 rfl L.co L.gen rfl ⟨c, oc, vs, u2, rfl, hoc, hdc, hvc⟩ ?_
      rw [hbind]
      refine wpAny_pure ?_
      refine wpAny_newFunctionEnv (fun y m => (L.own y m).2) (fun y m => absurd m (by simp)) ?_ L.kind
      intro h₁ hns hsb
      refine ⟨I1.nolimit.fresh _ hsb, ?_⟩
      show codeAny _ _ (.expr body (LamX.lamEnv X scope s1.heap.objs.size f c)) _ _
      have kp : ∀ (b : Addr) (o : Obj), s1.heap.get? b = some o → h₁.get? b = some o := by
        intro b o e
        exact hsb.extBut b o (Nat.ne_of_lt (Heap.lt_size e)) (Heap.get?_push_of_some _ e)
      have J := LamX.lam_start2 (E := WE W tz) (f := f) (c' := c) (tk := s1.toks + ([] : List (Str × Value)).length) I L I1.env0 hr.rm.hd un hns kp
      refine PySem.W.kla_codeExpr (wpAny_mono ((hbody _ _ s1 w.H (WE W tz) (hr.deeper _)).run [] _ _ w.H Q J ⟨r0, so, w, rfl, env0, st, hp⟩) (fun v s' hq => ?_) fun e s' hq => hq)
      obtain ⟨v2, H2, J2, rv2, q2⟩ := hq
      exact ⟨v2, H2, J2.os, J2.bare, J2.base, J2.hok, rv2, q2⟩
    refine wpAny_call (codeAny_mono rc fun z s' hq => ?_)
    cases z with
    | error er => exact passAt tk tz pinsZ w.H s1 er s' I1 hq
    | ok fl =>
      cases fl with
      | ret u => exact I1.after hq
      | _ => exact hq.elim
/-- a def that gets a lambda: its text for any reading of the call -/
def LamD (P : Program) (w : World) (K : Frag) (mg : Str → Option Value) (base : Heap) (N : List Str) (x : Str) (sg : Scope) (g : Addr) (k : Nat) (bg : List Stmt) (a : Str) (b : DE → DS) : Prop :=
  ∀ (cdv : Value) (A : Around) (outer : List Env) (s : Shared) (H : Hp) (th : DE), Rm k (A.deeper (envOfC x sg s.heap.objs.size g cdv)) →
    (∀ (pn : List (Addr × Obj)) (xe : Value → Shared → Prop) (W : WX) (p1 p2 : Pos), Takes ((cxOf C8.CX0 P w K mg base N x sg g cdv A outer s H C8.E0).tr pn xe) W → PE ((cxOf C8.CX0 P w K mg base N x sg g cdv A outer s H C8.E0).tr pn xe) (.Call (.Name a p1) [] [] p2) (tE K W th)) →
    PSs (cxOf C8.CX0 P w K mg base N x sg g cdv A outer s H C8.E0).nox bg (tS K W0 (b th))
/-- g(lambda: body) -/
theorem e_lam {W : WX} {x y a : Str} {g : Addr} {k i : Nat} {pg : Arguments} {bg : List Stmt} {sg : Scope} {kws : List (Str × V)} {fd : FuncData} {Ng : List Str} {params : Arguments} {body : Expr} {scope : Scope} {te : DE} {b : DE → DS} {p lpos pos : Pos}
    (F : FunD X.K x x pg bg sg [] kws g fd) (hb : Binds X.K fd [a] []) (Sg : FnScope (a :: Ng) [a] sg) (hva : Vis sg a) (hG : LamD X.prog X.w X.K X.mg X.base (a :: Ng) x sg g (k + 1) bg a b) (hg : Gl X x) (hm : X.mg x = some (.ref g))
    (TB : LamX.TabB X.base X.mg (codeA X.K y) (tabA X.K y)) (hcode : X.env.code = .ref (codeA X.K y)) (hq : lamQ y = X.env.qual ++ "<lambda>") (hr : Rm (k + 2) X.A) (L : LamX.LamS X.env.scope scope) (hdef : defaultsOf params X.env = ([], []))
    (hbind : ∀ (q : Str) (cl : List (Str × Addr)) (pm cv ctv : Value), bindArgs (PySem.W.kla_fn "<lambda>" q params body scope cl pm cv ctv) ⟨[], []⟩ = pure [])
    (hbody : ∀ (f c : Addr) (A : Around) (outer : List Env) (s : Shared) (H : Hp) (E : XK), Rm k (A.deeper (LamX.lamEnv X scope s.heap.objs.size f c)) → PE (LamX.lamCx X A outer s H E scope f c) body (tE X.K (fun cl d _ H' => E cl d H') te))
    (hdb : (x == ("__debug__" : Str)) = false := by decide) (hd : (a == ("__debug__" : Str)) = false := by decide) (hcd : (a == ("__classdict__" : Str)) = false := by decide) :
    PE X (.Call (.Name x p) [.Lambda params body scope lpos] [] pos) (tE X.K W (lamM i y Ng.length b te)) := by
  classical
  refine ⟨fun pins s t H Q I h => ?_⟩
  obtain ⟨r, so, w, rfl, env, st, hp⟩ := h
  unfold lamM at hp
  split at hp
  rotate_left
  · exact hp.elim
  rename_i hi
  split at hp
  rotate_left
  · exact hp.elim
  rename_i hx
  have hR := hx.choose_spec
  generalize hx.choose = R at hp hR
  obtain ⟨P, hA, hz, eP, ps, hP, ht, ha⟩ := st.at_ i _ hi
  obtain ⟨oc, od, dV, kV, doc, pm0, an, cdv, ct, osl, rfl, lk, hcg, hD, hK⟩ := F.ex
  refine wpAny_Call_Name_kw (ld_glob I hg hm ?_ hdb)
  refine PySem.W.callWith_K (h₀ := X.base) I.ok.mod.kin F.kp ?_ (by rfl) (by rfl)
  show wpAny _ _ (spliced ((false, eval (.Lambda params body scope lpos) X.env) :: backTo pos (starEach [] X.env))) _ _ s
  refine Calls.spliced_cons (lam_new I (eP ▸ TB) hcode hP ht (fun q cv e => (ha q cv e).imp fun _ z => z.1) hdef (L.has I.ok) fun f c pm ctv H1 s' I1 ls hf hfn hfr => ?_)
  refine Calls.spliced_nil ⟨I1.kIn, ?_⟩
  rw [← hq] at ls
  obtain ⟨w1, rfl, e1, st1, zc, hc⟩ := lam_world st hi hA hz eP hP ht ha ls
  have rc : codeAny (model X.prog X.w) X.A (.call (.ref g) ⟨[.ref f], []⟩) (CR C8.CX0 X.stack X.prog X.w w1.H s' Q C8.E0) s' := by
    refine LamX.run_ofS (N := a :: Ng) (ps := [a]) (us := [.ref f]) (vs := [.ref f]) lk hcg Sg hr.rm I1.env0 (hb s' [.ref f] I1.kIn rfl) (.cons rfl .nil) rfl fun hr' => ?_
    have hr2 : Rm (k + 1) (X.A.deeper (envOfC x sg s'.heap.objs.size g cdv)) := ⟨hr', hr.gd⟩
    refine ⟨_, (hG cdv X.A X.stack s' w1.H (thM f c (lamQ y) t r te) hr2 fun pn xe W' p1 p2 tk => act_lam I1 L hq hf hfn hfr (hbind _ _ _ _ _) tk hr2 (fun A outer s2 H2 E2 hr3 => hbody f c A outer s2 H2 E2 hr3) rfl hva hd hcd).nox, ?_⟩
    have hrun := hR f c t
    refine ⟨some (.clo f c (lamQ y) t r) :: List.replicate Ng.length none, so, w1, rfl, ?_, st1, ?_⟩
    · exact env_start (n := Ng.length + 1) (.cons (.clo zc hc (repE_of (env.ext e1))) .nil)
    · cases e : b (thM f c (lamQ y) t r te) (some (.clo f c (lamQ y) t r) :: List.replicate Ng.length none) so with
      | nx r' s2 =>
        rw [e] at hrun
        rw [← show Res.ok D.non s2 = R from hrun] at hp
        exact fun t' w' e' _ st' => hp .non w' (e1.trans e') st' .non
      | rt d s2 =>
        rw [e] at hrun
        rw [← show Res.ok d s2 = R from hrun] at hp
        exact fun v w' e' st' rv => hp v w' (e1.trans e') st' rv
      | _ =>
        rw [e] at hrun
        rw [← show Res.bad = R from hrun] at hp
        exact hp.elim
  refine wpAny_call (codeAny_mono rc fun z s2 hz2 => ?_)
  cases z with
  | error er => exact (show False from hz2).elim
  | ok fl =>
    cases fl with
    | ret u => exact I1.after hz2
    | _ => exact hz2.elim
end
end Mp

set_option Elab.async false
set_option linter.all false
set_option maxRecDepth 100000
set_option maxHeartbeats 4000000
/-! Mp: the head and the end of a law in which lambdas are made. -/
namespace Mp
open PySem PySem.Spec PyProof.Rows L2
/-! ### the head -/
def tabO : Obj := { cls := .none, data := .fields #[] }
def isNoneV : Value → Bool
  | .none => true
  | _ => false
def isNil : Data → Bool
  | .fields vs => vs.isEmpty
  | _ => false
theorem isNoneV_ok {v : Value} (h : isNoneV v = true) : v = .none := by
  cases v <;> first | rfl | cases h
theorem isNil_ok {d : Data} (h : isNil d = true) : d = .fields #[] := by
  cases d with
  | fields vs =>
    have e : vs = #[] := by
      have h : vs.isEmpty = true := h
      simpa using h
    rw [e]
  | _ => cases h
def noTab (o : Obj) : Bool := !(isNoneV o.cls && isNil o.data)
def isTabB : Option Obj → Bool
  | some o => isNoneV o.cls && (o.dict.isNone && (isNil o.data && o.slots.isEmpty))
  | none => false
theorem isTabB_ok {o : Option Obj} (h : isTabB o = true) : o = some tabO := by
  cases o with
  | none => cases h
  | some o =>
    obtain ⟨h1, h2⟩ := He.ba h
    obtain ⟨h3, h4⟩ := He.ba h2
    obtain ⟨h5, h6⟩ := He.ba h4
    obtain ⟨oc, od, dt, sl⟩ := o
    have e1 : oc = .none := isNoneV_ok h1
    have e2 : od = none := by simpa using h3
    have e3 : dt = .fields #[] := isNil_ok h5
    have e4 : sl = #[] := by simpa using h6
    rw [e1, e2, e3, e4]
    rfl
def frM (g : Addr → Option Obj) (as : List Addr) : Frag := as.filterMap fun a => (g a).bind fun o => if noTab o = true then some (a, o) else none
theorem frM_at {g : Addr → Option Obj} {a : Addr} {o : Obj} : ∀ as : List Addr, (frM g as).lookup a = some o → g a = some o
  | [], e => nomatch (show (none : Option Obj) = some o from e)
  | b :: r, e => by
    unfold frM at e
    rw [List.filterMap_cons] at e
    cases hb : g b with
    | none =>
      rw [hb] at e
      exact frM_at r e
    | some o2 =>
      rw [hb] at e
      by_cases hn : noTab o2 = true
      · simp only [Option.bind_some, if_pos hn, List.lookup_cons] at e
        split at e
        · rename_i hk
          have ek := eq_of_beq hk
          cases e
          rw [ek]
          exact hb
        · exact frM_at r e
      · simp only [Option.bind_some, if_neg hn] at e
        exact frM_at r e
theorem frM_in {h : Heap} {as : List Addr} : PySem.W.Frag.In (frM h.get? as) h := fun a o e => frM_at as e
def isStrV : Value → Bool
  | .str _ _ => true
  | _ => false
def isIntV : Value → Bool
  | .int _ _ => true
  | _ => false
def isBoolV : Value → Bool
  | .bool _ => true
  | _ => false
def isCodeV : Value → Bool
  | .type ty => decide (ty = "code")
  | _ => false
theorem isStrV_ok {v : Value} (h : isStrV v = true) : ∃ a b, v = .str a b := by
  cases v <;> first | exact ⟨_, _, rfl⟩ | cases h
theorem isIntV_ok {v : Value} (h : isIntV v = true) : ∃ a b, v = .int a b := by
  cases v <;> first | exact ⟨_, _, rfl⟩ | cases h
theorem isBoolV_ok {v : Value} (h : isBoolV v = true) : ∃ a, v = .bool a := by
  cases v <;> first | exact ⟨_, rfl⟩ | cases h
theorem isCodeV_ok {v : Value} (h : isCodeV v = true) : v = .type "code" := by
  cases v with
  | type ty =>
    have e : ty = "code" := of_decide_eq_true h
    rw [e]
  | _ => cases h
/-- the code object of x and its table, as the making of a lambda asks -/
def codeB (K : Frag) (x : Str) : Bool := match codeV K x with
  | .ref c => (match K.lookup c with
    | some ⟨oc, _, .fields vs, _⟩ => isCodeV oc && ((match (vs[11]? : Option Value) with
      | some (.ref P) => !decide (c = P)
      | _ => false) && (isStrV (vs.getD 18 .none) && (isIntV (vs.getD 7 .none) && (isBoolV (vs.getD 9 .none) && isIntV (vs.getD 10 .none)))))
    | _ => false)
  | _ => false
theorem codeB_ok {K : Frag} {x : Str} {h : Heap} (KX : K.In h) (e : codeB K x = true) : codeV K x = .ref (codeA K x) ∧ PySem.W.CodeHd h (codeA K x) (tabA K x) := by
  unfold codeB at e
  split at e
  · rename_i c hc
    have ec : codeA K x = c := by unfold codeA; rw [hc]
    split at e
    · rename_i oc d vs sl hk
      obtain ⟨h1, h2⟩ := He.ba e
      obtain ⟨h3, h4⟩ := He.ba h2
      obtain ⟨h5, h6⟩ := He.ba h4
      obtain ⟨h7, h8⟩ := He.ba h6
      obtain ⟨h9, h10⟩ := He.ba h8
      have e1 := isCodeV_ok h1
      subst e1
      obtain ⟨a1, a2, g1⟩ := isStrV_ok h5
      obtain ⟨a3, a4, g2⟩ := isIntV_ok h7
      obtain ⟨a5, g3⟩ := isBoolV_ok h9
      obtain ⟨a6, a7, g4⟩ := isIntV_ok h10
      split at h3
      · rename_i P hP
        have eT : tabA K x = P := by
          unfold tabA
          rw [ec, hk]
          dsimp only
          rw [hP]
        rw [ec, eT]
        refine ⟨hc, _, vs, a1, a2, a3, a4, a5, a6, a7, KX c _ hk, rfl, rfl, hP, ?_, g1, g2, g3, g4, ?_⟩
        · rw [Array.getD_eq_getD_getElem?, hP]
          rfl
        · exact of_decide_eq_false (by simpa using h3)
      · cases h3
    · cases e
  · cases e
def tabsB (g : Addr → Option Obj) (K : Frag) (tl : List Str) : Bool := (tl.all fun x => codeB K x && (isTabB (g (tabA K x)) && (K.lookup (tabA K x)).isNone)) && decide ((tl.map (tabA K)).Nodup)
def TabSays (K : Frag) (h : Heap) (tl : List Str) : Prop := (∀ x ∈ tl, codeB K x = true ∧ h.get? (tabA K x) = some tabO ∧ K.lookup (tabA K x) = none) ∧ (tl.map (tabA K)).Nodup
abbrev AlT : Type := Bool × AlM
def obsTG (n : Nat) (file : Str) (fb : List (Frag → Bool)) (fn : List DefM) (tl : List Str) (g : Addr → Option Obj) : AlT := (tabsB g (frM g (asM g n)) tl, obsM file fb fn (frM g (asM g n)))
def hookT (n : Nat) (file : Str) (fb : List (Frag → Bool)) (fn : List DefM) (tl : List Str) : PySem.W.Hook where
  α := AlT
  obs := fun s => obsTG n file fb fn tl s.heap.get?
  val := fun _ => (true, valM fn)
  says := fun _ h => ∃ K : Frag, K.In h ∧ SaysM file fb fn K ∧ TabSays K h tl
  of := fun _ s e => by
    have e1 : tabsB s.heap.get? (frM s.heap.get? (asM s.heap.get? n)) tl = true := congrArg (fun z : AlT => z.1) e
    have e2 : obsM file fb fn (frM s.heap.get? (asM s.heap.get? n)) = valM fn := congrArg (fun z : AlT => z.2) e
    obtain ⟨t1, t2⟩ := He.ba e1
    refine ⟨_, frM_in, e2, fun x hx => ?_, of_decide_eq_true t2⟩
    obtain ⟨q1, q2⟩ := He.ba (List.all_eq_true.mp t1 x hx)
    obtain ⟨q3, q4⟩ := He.ba q2
    exact ⟨q1, isTabB_ok q3, by simpa using q4⟩
  keeps := fun _ _ _ ⟨K, hK, c, t⟩ k => ⟨K, PySem.W.Frag.In.keeps hK k, c, fun x hx => ⟨(t.1 x hx).1, k _ _ (t.1 x hx).2.1, (t.1 x hx).2.2⟩, t.2⟩
theorem obsTG_eq {n : Nat} {file : Str} {fb : List (Frag → Bool)} {fn : List DefM} {tl : List Str} {g : Addr → Option Obj} {s : Shared} (h : ∀ a, g a = s.heap.get? a) : obsTG n file fb fn tl g = (hookT n file fb fn tl).obs s := by
  have e : g = s.heap.get? := funext h
  rw [e]
  rfl
/-- what a law's defs may lean on where lambdas are made -/
abbrev Tbs (K : Frag) (mg : Str → Option Value) (base : Heap) (tl : List Str) : Prop := ∀ x ∈ tl, LamX.TabB base mg (codeA K x) (tabA K x) ∧ codeV K x = .ref (codeA K x)
/-! ### the end -/
def s0T (tl : List Str) : Sto := tl.map fun x => some (.tab x)
section
variable {P : Program} {w : World} {K : Frag} {mg mb : Str → Option Value} {k : Nat} {fa a : Addr} {s₁ : Shared} {vs : List Value} {ns : List Int} {m : DF} {tl : List Str}
theorem st_tabs {H : Hp} {a : Addr} (hH : ∀ x ∈ tl, H (tabA K x) = some (.tbl #[])) (nd : (tl.map (tabA K)).Nodup) : StR K ⟨fun n => (tl[n]?).map (tabA K), fun b => H b ≠ none ∧ b ∉ tl.map (tabA K), fun _ => False, H⟩ (s0T tl) := by
  have at0 : ∀ n ct, (s0T tl)[n]? = some (some ct) → ∃ x, tl[n]? = some x ∧ ct = Ct.tab x := fun n ct q => by
    unfold s0T at q
    rw [List.getElem?_map] at q
    cases e : tl[n]? with
    | none => rw [e] at q; cases q
    | some x => rw [e] at q; cases q; exact ⟨x, e, rfl⟩
  refine ⟨fun n ct q => ?_, fun _ _ _ _ _ z => z, fun _ z => z.elim, fun n m b c d q1 q2 h1 h2 => ?_, fun b z => z.1, fun n hn => ?_⟩
  · obtain ⟨x, e, rfl⟩ := at0 n ct q
    have hx : x ∈ tl := List.mem_of_getElem? e
    have nz : ¬ (H (tabA K x) ≠ none ∧ tabA K x ∉ tl.map (tabA K)) := fun z => z.2 (List.mem_map_of_mem hx)
    refine ⟨tabA K x, by show (tl[n]?).map (tabA K) = _; rw [e]; rfl, nz, rfl, #[], hH x hx, trivial, fun pos cv hc => ?_⟩
    have z : codeAmong pos [] = some cv := hc
    simp [codeAmong] at z
  · obtain ⟨x, e1, rfl⟩ := at0 n c q1
    obtain ⟨y, e2, rfl⟩ := at0 m d q2
    have g1 : (tl.map (tabA K))[n]? = some b := by rw [List.getElem?_map]; exact h1
    have g2 : (tl.map (tabA K))[m]? = some b := by rw [List.getElem?_map]; exact h2
    obtain ⟨l1, f1⟩ := List.getElem?_eq_some_iff.mp g1
    obtain ⟨l2, f2⟩ := List.getElem?_eq_some_iff.mp g2
    have pw := List.pairwise_iff_getElem.mp nd
    rcases Nat.lt_trichotomy n m with z | z | z
    · exact absurd (f1.trans f2.symm) (pw n m l1 l2 z)
    · exact z
    · exact absurd (f2.trans f1.symm) (pw m n l2 l1 z)
  · have e : tl[n]? = none := List.getElem?_eq_none (by unfold s0T at hn; rw [List.length_map] at hn; exact hn)
    show (tl[n]?).map (tabA K) = none
    rw [e]
    rfl
theorem law_coreT (KX : K.In s₁.heap) (hns : s₁.heap.Ns mainGlobals mg) (hb : s₁.heap.Ns builtinsNs mb) (hbb : ∀ x : Str, x ≠ "__name__" → mb x = bootBuiltins x) (hlim : s₁.heap.NoLimit) (hg : s₁.gens = #[])
    (hbm : ∃ (bm : Addr) (ob : Obj), mg "__builtins__" = some (.ref bm) ∧ bm ≠ builtinsNs ∧ s₁.heap.get? bm = some ob ∧ ob.cls = .type "module" ∧ ob.dict = some builtinsNs ∧ ob.data = .plain)
    (ha : s₁.heap.get? a = some { cls := .type "list", data := .seq vs.toArray }) (T : TabSays K s₁.heap tl) (hr : Rm k callerA) (F : ∀ base : Heap, K.In base → base.Ns mainGlobals mg → Tbs K mg base tl → FnD P w K mg base k fa m) (hm : ∃ s', m [.rol (ns.map .int)] (s0T tl) = .ok (.bl true) s')
    (H : Hp) (hH : ∀ x ∈ tl, H (tabA K x) = some (.tbl #[])) (hO : ∀ b, H b = none ∨ b ∈ tl.map (tabA K) ∨ ∃ o xs, H b = some (.frz o (.lst xs))) (hS : SqL K H a (ns.map V.int)) (hok : HOk P w H s₁.heap) (hA : ∀ b, H b ≠ none → b = a ∨ b ∈ tl.map (tabA K)) (hK : H a ≠ none → K.lookup a = none) :
    codeAny (model P w) callerA (.call (.ref fa) ⟨[.ref a], []⟩) (LawEnd s₁) s₁ := by
  have atT : ∀ b, b ∈ tl.map (tabA K) → ∃ x ∈ tl, b = tabA K x ∧ s₁.heap.get? b = some tabO := fun b hb => by
    obtain ⟨x, hx, e⟩ := List.mem_map.mp hb
    exact ⟨x, hx, e.symm, e ▸ (T.1 x hx).2.1⟩
  have aT : a ∉ tl.map (tabA K) := fun z => by
    obtain ⟨x, hx, _, q⟩ := atT a z
    rw [ha] at q
    have z2 : Data.seq vs.toArray _ = Data.fields #[] := congrArg Obj.data (Option.some.inj q)
    cases z2
  have off : ∀ {b : Addr} {o : Obj}, s₁.heap.get? b = some o → (∀ u n, o.data ≠ .seq u n) → o.data ≠ .fields #[] → H b = none := fun {b o} e d1 d2 => by
    by_cases q : H b = none
    · exact q
    · rcases hA b q with z | z
      · subst z
        rw [ha] at e
        cases e
        exact absurd rfl (d1 _ _)
      · obtain ⟨x, hx, _, q2⟩ := atT b z
        rw [q2] at e
        cases e
        exact absurd rfl d2
  have nsH : ∀ {b : Addr} {f : Str → Option Value}, s₁.heap.Ns b f → (hidT s₁.heap H).Ns b f := fun ⟨o, es, ep, e, d, r⟩ => ⟨o, es, ep, hidT_get e (off e (by rw [d]; exact fun _ _ z => nomatch z) (by rw [d]; exact fun z => nomatch z)), d, r⟩
  have KH : K.In (hidT s₁.heap H) := fun b o e => hidT_get (KX b o e) (by
    by_cases q : H b = none
    · exact q
    · rcases hA b q with z | z
      · subst z
        rw [hK q] at e
        cases e
      · obtain ⟨x, hx, rfl, _⟩ := atT b z
        rw [(T.1 x hx).2.2] at e
        cases e)
  have M0 : Mod K mg (hidT s₁.heap H) := ⟨KH, nsH hns, ⟨mb, nsH hb, hbb⟩, hlim.elim fun mc z => ⟨mc, nsH z.1, z.2⟩⟩
  have E0 : Env0 P w K mg (hidT s₁.heap H) callerA [] s₁ H := ⟨rfl, M0, fun b o e => of_hidT e, Nat.le_of_eq (hidT_size _ _), trivial, fun b z => absurd (show b ∈ ([] : List Addr) from z) (by simp), hok, .of_eq hg⟩
  have TB : Tbs K mg (hidT s₁.heap H) tl := fun x hx => by
    obtain ⟨cB, gT, nT⟩ := T.1 x hx
    obtain ⟨c1, o, us, file, tf, flags, tg, inF, text, tt, q1, r1, r2, r3, r4, r5, r6, r7, r8, hne⟩ := codeB_ok KX cB
    refine ⟨⟨⟨o, us, file, tf, flags, tg, inF, text, tt, hidT_get q1 (off q1 (by rw [r2]; exact fun _ _ z => nomatch z) fun z => ?_), r1, r2, r3, r4, r5, r6, r7, r8, hne⟩, ?_, fun z => ?_⟩, c1⟩
    · rw [r2] at z
      cases z
      simp at r3
    · obtain ⟨bm, ob, b1, b2, b3, b4, b5, b6⟩ := hbm
      refine ⟨bm, ob, b1, b2, fun q => ?_, fun q => ?_, hidT_get b3 (off b3 (by rw [b6]; exact fun _ _ z => nomatch z) (by rw [b6]; exact fun z => nomatch z)), b4, b5, b6⟩
      · obtain ⟨o2, es, ep, e, hd, _⟩ := hns
        rw [q, e] at b3
        cases b3
        rw [hd] at b6
        cases b6
      · rw [q, gT] at b3
        cases b3
        cases b6
    · obtain ⟨o2, es, ep, e, hd, _⟩ := hns
      rw [z, gT] at e
      cases e
      cases hd
  obtain ⟨s', hm⟩ := hm
  have hsp : spD K m [.ref a] H (fun v _ => v = .bl true) fun _ _ _ => False := by
    refine ⟨[.rol (ns.map .int)], s0T tl, ⟨fun n => (tl[n]?).map (tabA K), fun b => H b ≠ none ∧ b ∉ tl.map (tabA K), fun _ => False, H⟩, rfl, .cons (.rol (hS.elim (fun z => .inl ⟨⟨?_, aT⟩, z⟩) .inr) ?_) .nil, st_tabs (a := a) hH T.2, ?_⟩
    · rcases z with z | ⟨o, z⟩ <;> exact fun e => by rw [e] at z; cases z
    · clear hm hS
      induction ns with
      | nil => exact .nil
      | cons i r ih => exact .cons (.int i) ih
    · rw [hm]
      intro v w' _ _ rv
      cases rv
      rfl
  refine codeAny_mono (F _ KH (nsH hns) TB callerA [] s₁ H [.ref a] [.ref a] _ _ hr E0 (.cons rfl .nil) hsp) fun r s' h => ?_
  cases r with
  | error e =>
    obtain ⟨_, _, _, _, _, _, _, _, _, _, _, _, z⟩ := h
    exact z.elim
  | ok fl =>
    cases fl with
    | ret u =>
      obtain ⟨v, H', os, bare, un, hok', r', q⟩ := h
      obtain rfl : v = .bl true := q
      obtain rfl : u = Value.bool true := r'
      have same : ∀ (b : Addr) (o : Obj), b ∉ tl.map (tabA K) → s₁.heap.get? b = some o → s'.heap.get? b = some o := fun b o nb e => by
        rcases hO b with z | z | ⟨ob, xs, z⟩
        · exact un.keep b o e z (fun y => absurd (show b ∈ ([] : List Addr) from y) (by simp)) (by simp)
        · exact absurd z nb
        · have e1 := (hok b _ z).1
          have e2 := (hok' b _ (un.frzs b ob _ z)).1
          rw [e] at e1
          cases e1
          exact e2
      have more : ∀ x ∈ tl, ∃ ys : Array Value, s'.heap.get? (tabA K x) = some { cls := .none, data := .fields ys } := fun x hx => by
        obtain ⟨ys, z⟩ := un.tbls (tabA K x) #[] (hH x hx)
        exact ⟨_, hok' _ _ z⟩
      refine ⟨rfl, ⟨fun b o e => ?_, fun b o e => ?_⟩, os, bare⟩
      · by_cases hb : b ∈ tl.map (tabA K)
        · obtain ⟨x, hx, rfl, gT⟩ := atT b hb
          obtain ⟨ys, hy⟩ := more x hx
          rw [gT] at e
          cases e
          have C := (codeB_ok KX (T.1 x hx).1).2
          exact .inr (.inl ⟨(C.tab gT).isCodeTable, rfl, #[], ys, rfl, by rw [Array.empty_append]; exact hy⟩)
        · exact .inl (same b o hb e)
      · by_cases hb : b ∈ tl.map (tabA K)
        · obtain ⟨x, hx, rfl, _⟩ := atT b hb
          obtain ⟨ys, hy⟩ := more x hx
          exact ⟨_, hy⟩
        · exact ⟨o, same b o hb e⟩
    | _ => exact h.elim
theorem law_endT (KX : K.In s₁.heap) (hns : s₁.heap.Ns mainGlobals mg) (hb : s₁.heap.Ns builtinsNs mb) (hbb : ∀ x : Str, x ≠ "__name__" → mb x = bootBuiltins x) (hlim : s₁.heap.NoLimit) (hg : s₁.gens = #[])
    (hbm : ∃ (bm : Addr) (ob : Obj), mg "__builtins__" = some (.ref bm) ∧ bm ≠ builtinsNs ∧ s₁.heap.get? bm = some ob ∧ ob.cls = .type "module" ∧ ob.dict = some builtinsNs ∧ ob.data = .plain)
    (ha : s₁.heap.get? a = some { cls := .type "list", data := .seq vs.toArray }) (hi : IntsAre vs ns) (hl : ns.length ≤ sizeLine) (T : TabSays K s₁.heap tl) (hr : Rm k callerA) (F : ∀ base : Heap, K.In base → base.Ns mainGlobals mg → Tbs K mg base tl → FnD P w K mg base k fa m) (hm : ∃ s', m [.rol (ns.map .int)] (s0T tl) = .ok (.bl true) s') :
    codeAny (model P w) callerA (.call (.ref fa) ⟨[.ref a], []⟩) (LawEnd s₁) s₁ := by
  have go := law_coreT (m := m) (ns := ns) KX hns hb hbb hlim hg hbm ha T hr F hm
  have rv := vals_ints hi
  have tabAt : ∀ b, b ∈ tl.map (tabA K) → s₁.heap.get? b = some tabO := fun b hb => by
    obtain ⟨x, hx, e⟩ := List.mem_map.mp hb
    exact e ▸ (T.1 x hx).2.1
  have aT : a ∉ tl.map (tabA K) := fun z => by
    have q := tabAt a z
    rw [ha] at q
    have z2 : Data.seq vs.toArray _ = Data.fields #[] := congrArg Obj.data (Option.some.inj q)
    cases z2
  have tT : ∀ x ∈ tl, tabA K x ∈ tl.map (tabA K) := fun x hx => List.mem_map_of_mem hx
  let H0 : Hp := fun b => if b ∈ tl.map (tabA K) then some (.tbl #[]) else none
  have in0 : ∀ b, b ∈ tl.map (tabA K) → H0 b = some (.tbl #[]) := fun b h => if_pos h
  have out0 : ∀ b, b ∉ tl.map (tabA K) → H0 b = none := fun b h => if_neg h
  cases hk : K.lookup a with
  | some o =>
    have e := KX a o hk
    rw [ha] at e
    cases e
    refine go H0 (fun x hx => in0 _ (tT x hx)) (fun b => ?_) (.inr ⟨_, vs.toArray, _, hk, rfl, rfl, rfl, by rw [List.size_toArray, hi.length]; exact hl, by simpa using rv⟩) (fun b u z => ?_) (fun b z => ?_) fun z => absurd (out0 a aT) z
    · by_cases h : b ∈ tl.map (tabA K)
      · exact .inr (.inl h)
      · exact .inl (out0 b h)
    · by_cases h : b ∈ tl.map (tabA K)
      · rw [in0 b h] at z
        cases z
        exact tabAt b h
      · rw [out0 b h] at z
        cases z
    · by_cases h : b ∈ tl.map (tabA K)
      · exact .inr h
      · exact absurd (out0 b h) z
  | none =>
    have ne : ∀ b, b ∈ tl.map (tabA K) → b ≠ a := fun b h z => aT (z ▸ h)
    refine go (upd H0 a (.frz { cls := .type "list", data := .seq vs.toArray } (.lst (ns.map V.int)))) (fun x hx => (upd_ne (ne _ (tT x hx))).trans (in0 _ (tT x hx))) (fun b => ?_) (.inl (.inr ⟨_, upd_same⟩)) (fun b u z => ?_) (fun b z => ?_) fun _ => hk
    · by_cases e : b = a
      · subst e
        exact .inr (.inr ⟨_, _, upd_same⟩)
      · by_cases h : b ∈ tl.map (tabA K)
        · exact .inr (.inl h)
        · exact .inl ((upd_ne e).trans (out0 b h))
    · by_cases e : b = a
      · subst e
        rw [upd_same] at z
        cases z
        exact ⟨ha, by rw [List.length_map]; exact hl, vs, _, rv, ha⟩
      · rw [upd_ne e] at z
        by_cases h : b ∈ tl.map (tabA K)
        · rw [in0 b h] at z
          cases z
          exact tabAt b h
        · rw [out0 b h] at z
          cases z
    · by_cases e : b = a
      · exact .inl e
      · by_cases h : b ∈ tl.map (tabA K)
        · exact .inr h
        · exact absurd ((upd_ne e).trans (out0 b h)) z
end
/-- a law row in which lambdas are made -/
theorem walk_endT {l : PySem.W.OpenLaw} {n k : Nat} {q : Program} {loose : List Str} {XP : (Str → Option Value) → Heap → Prop} {YP : World → Heap → Prop} {d : DefRec} {m : DF} {tl : List Str} (hn : l.most = some n) (hn2 : n ≤ sizeLine) (hdf : d.params.defaults = []) (hr : Rm k callerA)
    (F : ∀ (w : World) (mg : Str → Option Value) (fa : Addr) (h : Heap), YP w h → h.Ns mainGlobals mg → mg d.name = some (.ref fa) → ∃ K : Frag, K.In h ∧ TabSays K h tl ∧ ∀ base : Heap, K.In base → base.Ns mainGlobals mg → Tbs K mg base tl → FnD l.prog w K mg base k fa m)
    (hm : ∀ ns : List Int, ns.length ≤ n → (∀ z ∈ ns, Builtin.Int.intBits z ≤ 1048576) → ∃ s', m [.rol (ns.map .int)] (s0T tl) = .ok (.bl true) s') : PySem.W.WalkO q loose XP YP l.row.toRowW d [] (fun f vs => PySem.call f vs) := by
  refine Att.attach_callB hn hdf fun w s₀ s₁ mg mb fa o pm cd doc a vs ns G Y ho hd hcd hmg hobj hints hlen hbits hg => ?_
  obtain ⟨K, KX, T, hF⟩ := F w mg fa _ Y G.T.g hmg
  exact law_endT KX G.T.g G.T.b G.T.builtins G.T.nolimit hg G.T.bmain hobj hints (Nat.le_trans hlen hn2) T hr hF (hm ns hlen hbits)
/-! ### a def in which lambdas are made -/
section
variable {P : Program} {w : World} {K : Frag} {mg : Str → Option Value} {base : Heap}
abbrev BodyC (P : Program) (w : World) (K : Frag) (mg : Str → Option Value) (base : Heap) (N : List Str) (qual : Str) (scope : Scope) (f : Addr) (k : Nat) (body : List Stmt) (b : DS) (cv : Value) : Prop :=
  ∀ (A : Around) (outer : List Env) (s : Shared) (H : Hp) (E : XK), Rm k (A.deeper (envOfC qual scope s.heap.objs.size f cv)) → PSs (cxOf (L2.CX P w) P w K mg base N qual scope f cv A outer s H E) body (tS K (fun c d _ H' => E c d H') b)
theorem fn_okC {x qual y : Str} {params : Arguments} {body : List Stmt} {scope : Scope} {kws : List (Str × V)} {fd : FuncData} {N ps : List Str} {k : Nat} {b : DS} (F : FunD K x qual params body scope [] kws (He.ga K y) fd) (S : FnScope N ps scope)
    (hB : ∀ (kV doc pm : Value) (an : Option Addr) (cdv ct : Value) (us : List Value), us.length = ps.length → bindArgs (PySem.W.fnOf x qual params body scope .none kV doc pm an cdv ct) ⟨us, []⟩ = pure (ps.zip us)) (hbody : BodyC P w K mg base N qual scope (He.ga K y) k body b (codeV K y)) :
    FnD P w K mg base (k + 1) (He.ga K y) (bodyM ps.length [] N.length b) := by
  have hbind := F.bindsN hB
  obtain ⟨oc, od, dV, kV, doc, pm, an, cdv, ct, osl, rfl, lk, hcd, hD1, hK⟩ := F.ex
  have ecv : codeV K y = cdv := by
    unfold codeV
    rw [lk]
  rw [ecv] at hbody
  intro A outer s H us vs Q E hr e0 r h
  obtain ⟨ds, so, u, rfl, rs, st, hp⟩ := h
  unfold bodyM argsD at hp
  have l1 := rs.length
  split at hp
  rotate_left
  · exact hp.elim
  rename_i es he
  split at he
  rotate_left
  · cases he
  rename_i hc
  cases he
  have hlen : vs.length = ps.length := by
    have := hc.1
    have := hc.2
    simp at this
    omega
  rw [List.drop_nil, List.append_nil] at hp
  have rl := r.length
  refine StX.run_bnd lk hcd S hr.rm e0 (G := fun xs H2 => xs = vs ∧ H2 = u.H) (fun A' Ex Q' h => ?_) fun s2 H2 xs hx hr' => ?_
  · have z := hbind s us (e0.mod.kin.keeps fun b o e => (e0.bs b o e).1) (by rw [List.append_nil]; omega)
    rw [List.append_nil] at z
    exact z _ _ _ _ (h s u.H _ _ e0 Un.refl rfl (fun _ _ z => z) r hlen ⟨rfl, rfl⟩)
  · obtain ⟨rfl, rfl⟩ := hx
    exact ⟨_, hbody A outer s2 u.H E (hr.deeper _), body_end rs st hp⟩
theorem LamD.mono {N : List Str} {x a : Str} {sg : Scope} {g : Addr} {k j : Nat} {bg : List Stmt} {b : DE → DS} (h : LamD P w K mg base N x sg g k bg a b) (hk : k ≤ j) : LamD P w K mg base N x sg g j bg a b := fun cdv A outer s H th hr act => h cdv A outer s H th (hr.mono hk) act
end
end Mp

set_option Elab.async false
set_option linter.all false
set_option maxRecDepth 100000
set_option maxHeartbeats 4000000
/-! Mp: a text some times. -/
namespace Mp
open PySem PySem.Spec PyProof.Rows L2
def repS (z : Str) (n : Nat) : Str := ⟨(List.replicate n z.cps).foldl (· ++ ·) #[]⟩
def mulX (x y : D) (s : Sto) : Res D := match x with
  | .str z => (match y with
    | .int k => if 2 ≤ k ∧ k ≤ 1000000 ∧ 0 < z.length ∧ z.length * k.toNat ≤ 16777216 then .ok (.str (repS z k.toNat)) s else .bad
    | _ => .bad)
  | x => mulD x y s
section
variable {X : Cx} {W : WX} {a b : Expr} {pos : Pos} {ma mb : DE}
abbrev rRepS : V → V → Hp → VK → Prop := fun x y H Q => ∃ z k, x = .str z ∧ y = .int k ∧ 2 ≤ k ∧ k ≤ 1000000 ∧ 0 < z.length ∧ z.length * k.toNat ≤ 16777216 ∧ Q (.str (repS z k.toNat)) H
theorem op_repS : OpR X (binaryOp .Mult) rRepS := by
  intro pins s t H x y v u Q I rx ry h
  obtain ⟨z, k, rfl, rfl, h1, h2, h3, h4, q⟩ := h
  obtain ⟨tx, rfl⟩ := rx
  obtain ⟨ty, rfl⟩ := ry
  have hs : sizeLine = 16777216 := sizeLine_eq
  have hfit : Builtin.Str.tooLong (z.length * k.toNat) = false := by
    unfold Builtin.Str.tooLong
    exact decide_eq_false (by omega)
  refine P.mul_str (by
      rw [decide_eq_false (show ¬ k < -(2 ^ 63 : Int) by omega), decide_eq_false (show ¬ k ≥ 2 ^ 63 by omega)]
      rfl) (fun _ _ z2 => ?_) (fun _ _ => ?_) ?_
  · have a1 : (z.length : Int) * k ≤ 16777216 := by
      have : ((z.length * k.toNat : Nat) : Int) ≤ 16777216 := by omega
      rw [Int.natCast_mul, Int.toNat_of_nonneg (by omega)] at this
      exact this
    have a2 : (z.length : Int) ≤ (2 ^ 63 - 1) / k := by
      rw [Int.le_ediv_iff_mul_le (by omega)]
      omega
    omega
  · exact hfit
  · rw [if_neg (by omega), if_neg (by
      intro z2
      rw [Bool.or_eq_true] at z2
      rcases z2 with z2 | z2
      · have := eq_of_beq z2
        omega
      · have := eq_of_beq z2
        omega)]
    exact ⟨fits_reps hfit, ⟨.str (repS z k.toNat), H, I.tok _, ⟨_, rfl⟩, q⟩⟩
theorem v_mulX : VR2 X.K (fun x y H Q => ((rI CMulW fun i j => .int (i * j)) x y H Q ∨ rRep x y H Q) ∨ rRepS x y H Q) mulX := fun w s x y d e Q E st rx ry hp => by
  unfold mulX at hp
  cases d with
  | str z =>
    cases rx
    cases ry with
    | int k =>
      dsimp only at hp
      split at hp
      · rename_i hc
        exact .inr ⟨z, k, rfl, rfl, hc.1, hc.2.1, hc.2.2.1, hc.2.2.2, hp.pure st (.str _)⟩
      · exact hp.elim
    | _ => exact hp.elim
  | _ => exact .inl (v_mul w s x y _ e Q E st rx ry hp)
theorem e_mulX (ha : PE X a (tE X.K W ma)) (hb : PE X b (tE X.K W mb)) : PE X (.BinOp a .Mult b pos) (tE X.K W (binM mulX ma mb)) := e_bin (OpR.or (OpR.or op_mulW op_rep) op_repS) v_mulX ha hb
end
end Mp

set_option Elab.async false
set_option linter.all false
set_option maxRecDepth 100000
set_option maxHeartbeats 0
namespace G
open PySem PySem.Spec PyProof.Rows L2 Mp
abbrev PP : Program := (PySem.Challenge.rw_firstanswers_k18_values_modulo_a_prime).prog
def top (i : Nat) : Stmt := PySem.Challenge.pw_firstanswers_k18_values_modulo_a_prime.main.body.getD i (.Pass ⟨0, 0, 0, 0⟩)
theorem takes_blk {X : Cx} : Takes X W0 := fun u s' ⟨_, _, _, _, _, _, _, _, _, _, _, _, _, _, _, _, z⟩ => z.elim
theorem raise_row1 {T : FuncData → Prop} {C : Prop} (h : ∃ fd, T fd) (k : ∀ fd, T fd → C) : C := h.elim k

abbrev s_InvalidMachine___init__ : Stmt := inClass (top 5) 0
def d_InvalidMachine___init__ : DefM := ⟨fun K => He.ma K (He.ga K "InvalidMachine") "__init__", "__init__", "InvalidMachine.__init__", defArgs s_InvalidMachine___init__, defBody s_InvalidMachine___init__, defScope s_InvalidMachine___init__, [], none⟩
abbrev s_InvalidPrime___init__ : Stmt := inClass (top 2) 0
def d_InvalidPrime___init__ : DefM := ⟨fun K => He.ma K (He.ga K "InvalidPrime") "__init__", "__init__", "InvalidPrime.__init__", defArgs s_InvalidPrime___init__, defBody s_InvalidPrime___init__, defScope s_InvalidPrime___init__, [], none⟩
abbrev s_InvalidWord___init__ : Stmt := inClass (top 4) 0
def d_InvalidWord___init__ : DefM := ⟨fun K => He.ma K (He.ga K "InvalidWord") "__init__", "__init__", "InvalidWord.__init__", defArgs s_InvalidWord___init__, defBody s_InvalidWord___init__, defScope s_InvalidWord___init__, [], none⟩
abbrev s_TooMany___init__ : Stmt := inClass (top 10) 0
def d_TooMany___init__ : DefM := ⟨fun K => He.ma K (He.ga K "TooMany") "__init__", "__init__", "TooMany.__init__", defArgs s_TooMany___init__, defBody s_TooMany___init__, defScope s_TooMany___init__, [], none⟩
abbrev s_Field___init__ : Stmt := inClass (top 39) 1
def d_Field___init__ : DefM := ⟨fun K => He.ma K (He.ga K "Field") "__init__", "__init__", "Field.__init__", defArgs s_Field___init__, defBody s_Field___init__, defScope s_Field___init__, [], none⟩
abbrev s_Modulo_add : Stmt := inClass (top 40) 2
def d_Modulo_add : DefM := ⟨fun K => He.ma K (He.ga K "Modulo") "add", "add", "Modulo.add", defArgs s_Modulo_add, defBody s_Modulo_add, defScope s_Modulo_add, [], none⟩
abbrev s_Modulo_multiply : Stmt := inClass (top 40) 4
def d_Modulo_multiply : DefM := ⟨fun K => He.ma K (He.ga K "Modulo") "multiply", "multiply", "Modulo.multiply", defArgs s_Modulo_multiply, defBody s_Modulo_multiply, defScope s_Modulo_multiply, [], none⟩
abbrev s_Field_dot : Stmt := inClass (top 39) 12
def d_Field_dot : DefM := ⟨fun K => He.ma K (He.ga K "Field") "dot", "dot", "Field.dot", defArgs s_Field_dot, defBody s_Field_dot, defScope s_Field_dot, [], none⟩
abbrev s_is_integer : Stmt := top 20
def d_is_integer : DefM := ⟨fun K => He.ga K "is_integer", "is_integer", "is_integer", defArgs s_is_integer, defBody s_is_integer, defScope s_is_integer, [], none⟩
abbrev s_is_between : Stmt := top 21
def d_is_between : DefM := ⟨fun K => He.ga K "is_between", "is_between", "is_between", defArgs s_is_between, defBody s_is_between, defScope s_is_between, [], none⟩
abbrev s_Modulo_is_any : Stmt := inClass (top 40) 1
def d_Modulo_is_any : DefM := ⟨fun K => He.ma K (He.ga K "Modulo") "is_any", "is_any", "Modulo.is_any", defArgs s_Modulo_is_any, defBody s_Modulo_is_any, defScope s_Modulo_is_any, [], none⟩
abbrev s_parts_of : Stmt := top 32
def d_parts_of : DefM := ⟨fun K => He.ga K "parts_of", "parts_of", "parts_of", defArgs s_parts_of, defBody s_parts_of, defScope s_parts_of, [], none⟩
abbrev s_ten_to : Stmt := top 36
def d_ten_to : DefM := ⟨fun K => He.ga K "ten_to", "ten_to", "ten_to", defArgs s_ten_to, defBody s_ten_to, defScope s_ten_to, [], none⟩
abbrev s_is_short : Stmt := top 37
def d_is_short : DefM := ⟨fun K => He.ga K "is_short", "is_short", "is_short", defArgs s_is_short, defBody s_is_short, defScope s_is_short, [], none⟩
abbrev s_Field_is_number : Stmt := inClass (top 39) 14
def d_Field_is_number : DefM := ⟨fun K => He.ma K (He.ga K "Field") "is_number", "is_number", "Field.is_number", defArgs s_Field_is_number, defBody s_Field_is_number, defScope s_Field_is_number, [], none⟩
abbrev s_columns_of : Stmt := top 48
def d_columns_of : DefM := ⟨fun K => He.ga K "columns_of", "columns_of", "columns_of", defArgs s_columns_of, defBody s_columns_of, defScope s_columns_of, [], none⟩
abbrev s_kept_tables : Stmt := top 49
def d_kept_tables : DefM := ⟨fun K => He.ga K "kept_tables", "kept_tables", "kept_tables", defArgs s_kept_tables, defBody s_kept_tables, defScope s_kept_tables, [], none⟩
abbrev s_need_states : Stmt := top 47
def d_need_states : DefM := ⟨fun K => He.ga K "need_states", "need_states", "need_states", defArgs s_need_states, defBody s_need_states, defScope s_need_states, [], none⟩
abbrev s_are_letters : Stmt := top 23
def d_are_letters : DefM := ⟨fun K => He.ga K "are_letters", "are_letters", "are_letters", defArgs s_are_letters, defBody s_are_letters, defScope s_are_letters, [], none⟩
abbrev s_is_list : Stmt := top 22
def d_is_list : DefM := ⟨fun K => He.ga K "is_list", "is_list", "is_list", defArgs s_is_list, defBody s_is_list, defScope s_is_list, [], none⟩
abbrev s_are_numbers : Stmt := top 42
def d_are_numbers : DefM := ⟨fun K => He.ga K "are_numbers", "are_numbers", "are_numbers", defArgs s_are_numbers, defBody s_are_numbers, defScope s_are_numbers, [], none⟩
abbrev s_are_rows : Stmt := top 43
def d_are_rows : DefM := ⟨fun K => He.ga K "are_rows", "are_rows", "are_rows", defArgs s_are_rows, defBody s_are_rows, defScope s_are_rows, [], none⟩
abbrev s_are_tables : Stmt := top 44
def d_are_tables : DefM := ⟨fun K => He.ga K "are_tables", "are_tables", "are_tables", defArgs s_are_tables, defBody s_are_tables, defScope s_are_tables, [], none⟩
abbrev s_wrong_part : Stmt := top 45
def d_wrong_part : DefM := ⟨fun K => He.ga K "wrong_part", "wrong_part", "wrong_part", defArgs s_wrong_part, defBody s_wrong_part, defScope s_wrong_part, [], none⟩
abbrev s_Machine___init__ : Stmt := inClass (top 50) 0
def d_Machine___init__ : DefM := ⟨fun K => He.ma K (He.ga K "Machine") "__init__", "__init__", "Machine.__init__", defArgs s_Machine___init__, defBody s_Machine___init__, defScope s_Machine___init__, [], none⟩
abbrev s_Machine_ended : Stmt := inClass (top 50) 16
def d_Machine_ended : DefM := ⟨fun K => He.ma K (He.ga K "Machine") "ended", "ended", "Machine.ended", defArgs s_Machine_ended, defBody s_Machine_ended, defScope s_Machine_ended, [], none⟩
abbrev s_Machine_stepped : Stmt := inClass (top 50) 12
def d_Machine_stepped : DefM := ⟨fun K => He.ma K (He.ga K "Machine") "stepped", "stepped", "Machine.stepped", defArgs s_Machine_stepped, defBody s_Machine_stepped, defScope s_Machine_stepped, [], none⟩
abbrev s_Machine_run : Stmt := inClass (top 50) 14
def d_Machine_run : DefM := ⟨fun K => He.ma K (He.ga K "Machine") "run", "run", "Machine.run", defArgs s_Machine_run, defBody s_Machine_run, defScope s_Machine_run, [], none⟩
abbrev s_is_word : Stmt := top 24
def d_is_word : DefM := ⟨fun K => He.ga K "is_word", "is_word", "is_word", defArgs s_is_word, defBody s_is_word, defScope s_is_word, [.int 160], none⟩
abbrev s_need_word : Stmt := top 25
def d_need_word : DefM := ⟨fun K => He.ga K "need_word", "need_word", "need_word", defArgs s_need_word, defBody s_need_word, defScope s_need_word, [.int 160], none⟩
abbrev s_Machine_state_after : Stmt := inClass (top 50) 17
def d_Machine_state_after : DefM := ⟨fun K => He.ma K (He.ga K "Machine") "state_after", "state_after", "Machine.state_after", defArgs s_Machine_state_after, defBody s_Machine_state_after, defScope s_Machine_state_after, [], none⟩
abbrev s_Machine_value_of : Stmt := inClass (top 50) 18
def d_Machine_value_of : DefM := ⟨fun K => He.ma K (He.ga K "Machine") "value_of", "value_of", "Machine.value_of", defArgs s_Machine_value_of, defBody s_Machine_value_of, defScope s_Machine_value_of, [], none⟩
abbrev s_power : Stmt := top 33
def d_power : DefM := ⟨fun K => He.ga K "power", "power", "power", defArgs s_power, defBody s_power, defScope s_power, [], none⟩
abbrev s_is_witness : Stmt := top 34
def d_is_witness : DefM := ⟨fun K => He.ga K "is_witness", "is_witness", "is_witness", defArgs s_is_witness, defBody s_is_witness, defScope s_is_witness, [], none⟩
abbrev s_is_prime : Stmt := top 35
def d_is_prime : DefM := ⟨fun K => He.ga K "is_prime", "is_prime", "is_prime", defArgs s_is_prime, defBody s_is_prime, defScope s_is_prime, [], none⟩
abbrev s_Modulo___init__ : Stmt := inClass (top 40) 0
def d_Modulo___init__ : DefM := ⟨fun K => He.ma K (He.ga K "Modulo") "__init__", "__init__", "Modulo.__init__", defArgs s_Modulo___init__, defBody s_Modulo___init__, defScope s_Modulo___init__, [], some "Modulo"⟩
abbrev s__law_draw : Stmt := top 55
def d__law_draw : DefM := ⟨fun K => He.ga K "_law_draw", "_law_draw", "_law_draw", defArgs s__law_draw, defBody s__law_draw, defScope s__law_draw, [], none⟩
abbrev s__law_shuffled : Stmt := top 57
def d__law_shuffled : DefM := ⟨fun K => He.ga K "_law_shuffled", "_law_shuffled", "_law_shuffled", defArgs s__law_shuffled, defBody s__law_shuffled, defScope s__law_shuffled, [], none⟩
abbrev s__law_letters : Stmt := top 59
def d__law_letters : DefM := ⟨fun K => He.ga K "_law_letters", "_law_letters", "_law_letters", defArgs s__law_letters, defBody s__law_letters, defScope s__law_letters, [], none⟩
abbrev s__law_pick : Stmt := top 56
def d__law_pick : DefM := ⟨fun K => He.ga K "_law_pick", "_law_pick", "_law_pick", defArgs s__law_pick, defBody s__law_pick, defScope s__law_pick, [], none⟩
abbrev s__law_word : Stmt := top 60
def d__law_word : DefM := ⟨fun K => He.ga K "_law_word", "_law_word", "_law_word", defArgs s__law_word, defBody s__law_word, defScope s__law_word, [], none⟩
abbrev s__law_long_word : Stmt := top 68
def d__law_long_word : DefM := ⟨fun K => He.ga K "_law_long_word", "_law_long_word", "_law_long_word", defArgs s__law_long_word, defBody s__law_long_word, defScope s__law_long_word, [], none⟩
abbrev s__law_made : Stmt := top 65
def d__law_made : DefM := ⟨fun K => He.ga K "_law_made", "_law_made", "_law_made", defArgs s__law_made, defBody s__law_made, defScope s__law_made, [], none⟩
abbrev s__law_number : Stmt := top 62
def d__law_number : DefM := ⟨fun K => He.ga K "_law_number", "_law_number", "_law_number", defArgs s__law_number, defBody s__law_number, defScope s__law_number, [], none⟩
abbrev s__law_odd_word : Stmt := top 66
def d__law_odd_word : DefM := ⟨fun K => He.ga K "_law_odd_word", "_law_odd_word", "_law_odd_word", defArgs s__law_odd_word, defBody s__law_odd_word, defScope s__law_odd_word, [], none⟩
abbrev s__law_pen : Stmt := top 54
def d__law_pen : DefM := ⟨fun K => He.ga K "_law_pen", "_law_pen", "_law_pen", defArgs s__law_pen, defBody s__law_pen, defScope s__law_pen, [], none⟩
abbrev s__law_plain : Stmt := top 61
def d__law_plain : DefM := ⟨fun K => He.ga K "_law_plain", "_law_plain", "_law_plain", defArgs s__law_plain, defBody s__law_plain, defScope s__law_plain, [], none⟩
abbrev s__law_prime : Stmt := top 58
def d__law_prime : DefM := ⟨fun K => He.ga K "_law_prime", "_law_prime", "_law_prime", defArgs s__law_prime, defBody s__law_prime, defScope s__law_prime, [], none⟩
abbrev s__law_refused : Stmt := top 67
def d__law_refused : DefM := ⟨fun K => He.ga K "_law_refused", "_law_refused", "_law_refused", defArgs s__law_refused, defBody s__law_refused, defScope s__law_refused, [], none⟩
abbrev s__law_state : Stmt := top 63
def d__law_state : DefM := ⟨fun K => He.ga K "_law_state", "_law_state", "_law_state", defArgs s__law_state, defBody s__law_state, defScope s__law_state, [], none⟩
abbrev s__law_value : Stmt := top 64
def d__law_value : DefM := ⟨fun K => He.ga K "_law_value", "_law_value", "_law_value", defArgs s__law_value, defBody s__law_value, defScope s__law_value, [], none⟩
abbrev s_law : Stmt := top 69
def d_law : DefM := ⟨fun K => He.ga K "law", "law", "law", defArgs s_law, defBody s_law, defScope s_law, [], none⟩
def it0 : Isi := ⟨["Machine", "Modulo"], [(("Machine", "Field"), false), (("Machine", "Modulo"), false), (("Machine", "Machine"), true), (("Machine", "MadeMachine"), false), (("Modulo", "Field"), true), (("Modulo", "Modulo"), true), (("Modulo", "Machine"), false), (("Modulo", "MadeMachine"), false)], ["Field", "Modulo", "Machine", "MadeMachine"], [(("Machine", "int"), false), (("Machine", "bool"), false), (("Machine", "str"), false), (("Machine", "tuple"), false), (("Machine", "list"), false), (("Machine", "dict"), false), (("Modulo", "int"), false), (("Modulo", "bool"), false), (("Modulo", "str"), false), (("Modulo", "tuple"), false), (("Modulo", "list"), false), (("Modulo", "dict"), false)]⟩
def fn0 : List (DefM) := [d_InvalidMachine___init__, d_InvalidPrime___init__, d_InvalidWord___init__, d_TooMany___init__, d_Field___init__, d_Modulo_add, d_Modulo_multiply, d_Field_dot, d_is_integer, d_is_between, d_Modulo_is_any, d_parts_of, d_ten_to, d_is_short, d_Field_is_number, d_columns_of, d_kept_tables, d_need_states, d_are_letters, d_is_list, d_are_numbers, d_are_rows, d_are_tables, d_wrong_part, d_Machine___init__]
def fn1 : List (DefM) := [d_Machine_ended, d_Machine_stepped, d_Machine_run, d_is_word, d_need_word, d_Machine_state_after, d_Machine_value_of, d_power, d_is_witness, d_is_prime, d_Modulo___init__, d__law_draw, d__law_shuffled, d__law_letters, d__law_pick, d__law_word, d__law_long_word, d__law_made, d__law_number, d__law_odd_word, d__law_pen, d__law_plain, d__law_prime, d__law_refused, d__law_state]
def fn2 : List (DefM) := [d__law_value, d_law]
def fn : List (DefM) := fn0 ++ fn1 ++ fn2
def fb0 : List (Frag → Bool) := [ckF (.free "ValueError"), ckExc "InvalidMachine" "ValueError.__new__" mValue, ckF (.noat "InvalidMachine" "part"), ckExc "InvalidPrime" "ValueError.__new__" mValue, ckF (.noat "InvalidPrime" "value"), ckExc "InvalidWord" "ValueError.__new__" mValue, ckF (.noat "InvalidWord" "value"), ckF (.free "OverflowError"), ckExc "TooMany" "OverflowError.__new__" mOver, ckF (.noat "TooMany" "limit"), ckF (.cls "Modulo"), ckF (.noat "Modulo" "own_prime"), ckF (.cls "Machine"), ckF (.noat "Machine" "own_prime"), ckF (.free "zip"), ckF (.meth "Modulo" "add"), ckF (.meth "Modulo" "multiply"), fun K => decide (He.ma K (He.ga K "Modulo") "dot" = (fun K => He.ma K (He.ga K "Field") "dot") K), ckF (.free "int"), ckF (.free "isinstance"), ckF (.free "bool"), ckF (.glo "is_integer"), ckF (.glo "is_between"), ckF (.free "tuple"), ckF (.free "range")]
def fb1 : List (Frag → Bool) := [ckF (.glo "ten_to"), ckF (.glo "parts_of"), ckF (.free "abs"), ckF (.free "all"), ckF (.meth "Modulo" "is_any"), ckF (.int "MAX_DIGITS" 100), ckF (.glo "is_short"), fun K => decide (He.ma K (He.ga K "Modulo") "is_number" = (fun K => He.ma K (He.ga K "Field") "is_number") K), ckF (.int "MAX_STATES" 24), ckF (.glo "TooMany"), ckF (.free "str"), ckF (.free "len"), ckF (.int "MAX_LETTERS" 4), ckF (.str "ALPHABET" "abcdefghijklmnopqrstuvwxyz"), ckF (.free "list"), ckF (.glo "is_list"), ckF (.meth "Modulo" "is_number"), ckF (.glo "are_numbers"), ckF (.free "dict"), ckF (.glo "are_rows"), ckF (.glo "Field"), ckF (.glo "are_letters"), ckF (.glo "are_tables"), ckF (.glo "wrong_part"), ckF (.glo "InvalidMachine")]
def fb2 : List (Frag → Bool) := [ckF (.glo "need_states"), ckF (.noat "Modulo" "own_field"), ckF (.noat "Machine" "own_field"), ckF (.noat "Modulo" "own_letters"), ckF (.noat "Machine" "own_letters"), ckF (.noat "Modulo" "own_start"), ckF (.noat "Machine" "own_start"), ckF (.noat "Modulo" "own_size"), ckF (.noat "Machine" "own_size"), ckF (.noat "Modulo" "own_ends"), ckF (.noat "Machine" "own_ends"), ckF (.glo "kept_tables"), ckF (.noat "Modulo" "own_tables"), ckF (.noat "Machine" "own_tables"), ckF (.glo "columns_of"), ckF (.noat "Modulo" "own_columns"), ckF (.noat "Machine" "own_columns"), ckF (.meth "Modulo" "dot"), ckF (.meth "Machine" "stepped"), ckF (.glo "is_word"), ckF (.glo "InvalidWord"), ckF (.glo "need_word"), ckF (.meth "Machine" "run"), ckF (.meth "Machine" "ended"), ckF (.meth "Machine" "state_after")]
def fb3 : List (Frag → Bool) := [ckF (.glo "power"), ckF (.int "MAX_PRIME" 1000000000), ckF (.glo "SMALL_PRIMES"), ckTup "SMALL_PRIMES" [.int 2, .int 3, .int 5, .int 7, .int 11, .int 13, .int 17, .int 19, .int 23, .int 29, .int 31, .int 37], ckF (.glo "WITNESSES"), ckTup "WITNESSES" [.int 2, .int 3, .int 5, .int 7], ckF (.glo "is_witness"), ckF (.free "any"), ckF (.glo "is_prime"), ckF (.glo "InvalidPrime"), ckSup "Modulo" "Modulo" "__init__" (fun K => He.ma K (He.ga K "Field") "__init__"), ckF (.free "super"), ckF (.glo "_law_draw"), ckF (.glo "_law_shuffled"), ckF (.free "sorted"), ckF (.glo "_law_pick"), ckF (.glo "_law_word"), ckF (.mkr "Modulo"), ckF (.glo "Modulo"), ckF (.mkr "Machine"), ckF (.glo "Machine"), ckF (.glo "_law_number"), ckExm (fun K => .ref (He.ga K "InvalidWord")) [("InvalidMachine", false), ("InvalidPrime", false), ("InvalidWord", true), ("TooMany", false)], ckXc "InvalidWord", ckKt "InvalidWord" [("ValueError", true), ("LookupError", false), ("ArithmeticError", false), ("OverflowError", false), ("RuntimeError", false)]]
def fb4 : List (Frag → Bool) := [ckSys, ckF (.free "repr"), ckF (.free "sum"), ckF (.glo "_law_state"), ckF (.glo "_law_pen"), ckF (.free "min"), ckF (.glo "_law_letters"), ckF (.glo "_law_prime"), ckF (.glo "_law_plain"), ckF (.glo "_law_made"), ckF (.glo "_law_long_word"), ckF (.meth "Machine" "value_of"), ckF (.glo "_law_value"), ckF (.glo "_law_odd_word"), ckF (.glo "_law_refused"), ckF (.glo "law"), ckIsi it0]
def fb : List (Frag → Bool) := fb0 ++ fb1 ++ fb2 ++ fb3 ++ fb4
def tl0 : List PySem.Str := ["law"]
abbrev FX (K : Frag) (mg : Str → Option Value) : Prop := Fx PP fb fn K mg
def loose0 : List (PySem.Str) := ["_wall", "__name__", "InvalidPrime", "InvalidNumber", "InvalidWord", "InvalidMachine", "InvalidText", "OtherField", "OtherLetters", "NoQuotient", "TooMany", "TooLong", "MAX_DIGITS", "MAX_TEXT_DIGITS", "MAX_PRIME", "MAX_LETTERS", "MAX_WORD", "MAX_STATES", "ALPHABET", "is_integer", "is_between", "is_list", "are_letters", "is_word", "need_word"]
def loose1 : List (PySem.Str) := ["is_numeral", "FRACTIONS", "MODULO", "SMALL_PRIMES", "WITNESSES", "parts_of", "power", "is_witness", "is_prime", "ten_to", "is_short", "integer_in", "Field", "Modulo", "are_numbers", "are_rows", "are_tables", "wrong_part", "need_same", "need_states", "columns_of", "kept_tables", "Machine", "MadeMachine", "built"]
def loose2 : List (PySem.Str) := ["_law_pen", "_law_draw", "_law_pick", "_law_shuffled", "_law_prime", "_law_letters", "_law_word", "_law_plain", "_law_number", "_law_state", "_law_value", "_law_made", "_law_odd_word", "_law_refused", "_law_long_word"]
def loose : List (PySem.Str) := loose0 ++ loose1 ++ loose2
abbrev R : PySem.W.OpenRow := PySem.W.OpenLaw.row PySem.Challenge.rw_firstanswers_k18_values_modulo_a_prime
abbrev hk : PySem.W.Hook := hookT 6 PP.main.file fb fn tl0
def ob (s : PySem.W.SharedT) : AlT := obsTG 6 PP.main.file fb fn tl0 (HandSHeadRun.getT s)
theorem ob_eq (s : PySem.W.SharedT) : ob s = hk.obs s.abs := obsTG_eq (HandSHeadRun.getT_eq s)
theorem run (w : World) : HandSHeadRun.RunEq R (PySem.W.view R.prog [69]) hk ob 20000 loose w := by
  intro os
  kernel_rfl
end G

set_option Elab.async false
set_option linter.all false
set_option maxRecDepth 100000
set_option maxHeartbeats 0
namespace G
open PySem PySem.Spec PyProof.Rows L2 Mp

section
variable {w : World} {K : Frag} {mg : Str → Option Value} {base : Heap}
theorem z0 (Z : FX K mg) : mg "ValueError" = none := Z.free 0 rfl
theorem z1 (Z : FX K mg) : OexB K (He.ga K "InvalidMachine") "ValueError" "ValueError.__new__" "ValueError.__init__" mValue ∧ PySem.W.findIn K (.ref (He.ga K "InvalidMachine")) "__init__" = some (some (.ref (He.ma K (He.ga K "InvalidMachine") "__init__"))) ∧ PySem.W.typeIn K (.ref (He.ma K (He.ga K "InvalidMachine") "__init__")) = some (.type "function") := Z.exc 1 bxValue rfl
theorem z2 (Z : FX K mg) : NoAttr K (He.ga K "InvalidMachine") "part" := Z.noat 2 rfl
theorem z3 (Z : FX K mg) : OexB K (He.ga K "InvalidPrime") "ValueError" "ValueError.__new__" "ValueError.__init__" mValue ∧ PySem.W.findIn K (.ref (He.ga K "InvalidPrime")) "__init__" = some (some (.ref (He.ma K (He.ga K "InvalidPrime") "__init__"))) ∧ PySem.W.typeIn K (.ref (He.ma K (He.ga K "InvalidPrime") "__init__")) = some (.type "function") := Z.exc 3 bxValue rfl
theorem z4 (Z : FX K mg) : NoAttr K (He.ga K "InvalidPrime") "value" := Z.noat 4 rfl
theorem z5 (Z : FX K mg) : OexB K (He.ga K "InvalidWord") "ValueError" "ValueError.__new__" "ValueError.__init__" mValue ∧ PySem.W.findIn K (.ref (He.ga K "InvalidWord")) "__init__" = some (some (.ref (He.ma K (He.ga K "InvalidWord") "__init__"))) ∧ PySem.W.typeIn K (.ref (He.ma K (He.ga K "InvalidWord") "__init__")) = some (.type "function") := Z.exc 5 bxValue rfl
theorem z6 (Z : FX K mg) : NoAttr K (He.ga K "InvalidWord") "value" := Z.noat 6 rfl
theorem z7 (Z : FX K mg) : mg "OverflowError" = none := Z.free 7 rfl
theorem z8 (Z : FX K mg) : OexB K (He.ga K "TooMany") "OverflowError" "OverflowError.__new__" "OverflowError.__init__" mOver ∧ PySem.W.findIn K (.ref (He.ga K "TooMany")) "__init__" = some (some (.ref (He.ma K (He.ga K "TooMany") "__init__"))) ∧ PySem.W.typeIn K (.ref (He.ma K (He.ga K "TooMany") "__init__")) = some (.type "function") := Z.exc 8 bxOver rfl
theorem z9 (Z : FX K mg) : NoAttr K (He.ga K "TooMany") "limit" := Z.noat 9 rfl
theorem z10 (Z : FX K mg) : Cls K (He.ga K "Modulo") := Z.cls 10 rfl
theorem z11 (Z : FX K mg) : NoAttr K (He.ga K "Modulo") "own_prime" := Z.noat 11 rfl
theorem z12 (Z : FX K mg) : Cls K (He.ga K "Machine") := Z.cls 12 rfl
theorem z13 (Z : FX K mg) : NoAttr K (He.ga K "Machine") "own_prime" := Z.noat 13 rfl
theorem z14 (Z : FX K mg) : mg "zip" = none := Z.free 14 rfl
theorem z15 (Z : FX K mg) : Meth K (He.ga K "Modulo") "add" (He.ma K (He.ga K "Modulo") "add") := Z.meth 15 rfl
theorem z16 (Z : FX K mg) : Meth K (He.ga K "Modulo") "multiply" (He.ma K (He.ga K "Modulo") "multiply") := Z.meth 16 rfl
theorem z17 (Z : FX K mg) : (decide (He.ma K (He.ga K "Modulo") "dot" = (fun K => He.ma K (He.ga K "Field") "dot") K)) = true := Z.fact (f := fun K => decide (He.ma K (He.ga K "Modulo") "dot" = (fun K => He.ma K (He.ga K "Field") "dot") K)) 17 rfl
theorem z18 (Z : FX K mg) : mg "int" = none := Z.free 18 rfl
theorem z19 (Z : FX K mg) : mg "isinstance" = none := Z.free 19 rfl
theorem z20 (Z : FX K mg) : mg "bool" = none := Z.free 20 rfl
theorem z21 (Z : FX K mg) : mg "is_integer" = some (.ref (He.ga K "is_integer")) := Z.glo 21 rfl
theorem z22 (Z : FX K mg) : mg "is_between" = some (.ref (He.ga K "is_between")) := Z.glo 22 rfl
theorem z23 (Z : FX K mg) : mg "tuple" = none := Z.free 23 rfl
theorem z24 (Z : FX K mg) : mg "range" = none := Z.free 24 rfl
theorem z25 (Z : FX K mg) : mg "ten_to" = some (.ref (He.ga K "ten_to")) := Z.glo 25 rfl
theorem z26 (Z : FX K mg) : mg "parts_of" = some (.ref (He.ga K "parts_of")) := Z.glo 26 rfl
theorem z27 (Z : FX K mg) : mg "abs" = none := Z.free 27 rfl
theorem z28 (Z : FX K mg) : mg "all" = none := Z.free 28 rfl
theorem z29 (Z : FX K mg) : Meth K (He.ga K "Modulo") "is_any" (He.ma K (He.ga K "Modulo") "is_any") := Z.meth 29 rfl
theorem z30 (Z : FX K mg) : ∃ t, mg "MAX_DIGITS" = some (.int 100 t) := Z.int 30 rfl
theorem z31 (Z : FX K mg) : mg "is_short" = some (.ref (He.ga K "is_short")) := Z.glo 31 rfl
theorem z32 (Z : FX K mg) : (decide (He.ma K (He.ga K "Modulo") "is_number" = (fun K => He.ma K (He.ga K "Field") "is_number") K)) = true := Z.fact (f := fun K => decide (He.ma K (He.ga K "Modulo") "is_number" = (fun K => He.ma K (He.ga K "Field") "is_number") K)) 32 rfl
theorem z33 (Z : FX K mg) : ∃ t, mg "MAX_STATES" = some (.int 24 t) := Z.int 33 rfl
theorem z34 (Z : FX K mg) : mg "TooMany" = some (.ref (He.ga K "TooMany")) := Z.glo 34 rfl
theorem z35 (Z : FX K mg) : mg "str" = none := Z.free 35 rfl
theorem z36 (Z : FX K mg) : mg "len" = none := Z.free 36 rfl
theorem z37 (Z : FX K mg) : ∃ t, mg "MAX_LETTERS" = some (.int 4 t) := Z.int 37 rfl
theorem z38 (Z : FX K mg) : ∃ t, mg "ALPHABET" = some (.str "abcdefghijklmnopqrstuvwxyz" t) := Z.str 38 rfl
theorem z39 (Z : FX K mg) : mg "list" = none := Z.free 39 rfl
theorem z40 (Z : FX K mg) : mg "is_list" = some (.ref (He.ga K "is_list")) := Z.glo 40 rfl
theorem z41 (Z : FX K mg) : Meth K (He.ga K "Modulo") "is_number" (He.ma K (He.ga K "Modulo") "is_number") := Z.meth 41 rfl
theorem z42 (Z : FX K mg) : mg "are_numbers" = some (.ref (He.ga K "are_numbers")) := Z.glo 42 rfl
theorem z43 (Z : FX K mg) : mg "dict" = none := Z.free 43 rfl
theorem z44 (Z : FX K mg) : mg "are_rows" = some (.ref (He.ga K "are_rows")) := Z.glo 44 rfl
theorem z45 (Z : FX K mg) : mg "Field" = some (.ref (He.ga K "Field")) := Z.glo 45 rfl
theorem z46 (Z : FX K mg) : mg "are_letters" = some (.ref (He.ga K "are_letters")) := Z.glo 46 rfl
theorem z47 (Z : FX K mg) : mg "are_tables" = some (.ref (He.ga K "are_tables")) := Z.glo 47 rfl
theorem z48 (Z : FX K mg) : mg "wrong_part" = some (.ref (He.ga K "wrong_part")) := Z.glo 48 rfl
theorem z49 (Z : FX K mg) : mg "InvalidMachine" = some (.ref (He.ga K "InvalidMachine")) := Z.glo 49 rfl
theorem z50 (Z : FX K mg) : mg "need_states" = some (.ref (He.ga K "need_states")) := Z.glo 50 rfl
theorem z51 (Z : FX K mg) : NoAttr K (He.ga K "Modulo") "own_field" := Z.noat 51 rfl
theorem z52 (Z : FX K mg) : NoAttr K (He.ga K "Machine") "own_field" := Z.noat 52 rfl
theorem z53 (Z : FX K mg) : NoAttr K (He.ga K "Modulo") "own_letters" := Z.noat 53 rfl
theorem z54 (Z : FX K mg) : NoAttr K (He.ga K "Machine") "own_letters" := Z.noat 54 rfl
theorem z55 (Z : FX K mg) : NoAttr K (He.ga K "Modulo") "own_start" := Z.noat 55 rfl
theorem z56 (Z : FX K mg) : NoAttr K (He.ga K "Machine") "own_start" := Z.noat 56 rfl
theorem z57 (Z : FX K mg) : NoAttr K (He.ga K "Modulo") "own_size" := Z.noat 57 rfl
theorem z58 (Z : FX K mg) : NoAttr K (He.ga K "Machine") "own_size" := Z.noat 58 rfl
theorem z59 (Z : FX K mg) : NoAttr K (He.ga K "Modulo") "own_ends" := Z.noat 59 rfl
theorem z60 (Z : FX K mg) : NoAttr K (He.ga K "Machine") "own_ends" := Z.noat 60 rfl
theorem z61 (Z : FX K mg) : mg "kept_tables" = some (.ref (He.ga K "kept_tables")) := Z.glo 61 rfl
theorem z62 (Z : FX K mg) : NoAttr K (He.ga K "Modulo") "own_tables" := Z.noat 62 rfl
theorem z63 (Z : FX K mg) : NoAttr K (He.ga K "Machine") "own_tables" := Z.noat 63 rfl
theorem z64 (Z : FX K mg) : mg "columns_of" = some (.ref (He.ga K "columns_of")) := Z.glo 64 rfl
theorem z65 (Z : FX K mg) : NoAttr K (He.ga K "Modulo") "own_columns" := Z.noat 65 rfl
theorem z66 (Z : FX K mg) : NoAttr K (He.ga K "Machine") "own_columns" := Z.noat 66 rfl
theorem z67 (Z : FX K mg) : Meth K (He.ga K "Modulo") "dot" (He.ma K (He.ga K "Modulo") "dot") := Z.meth 67 rfl
theorem z68 (Z : FX K mg) : Meth K (He.ga K "Machine") "stepped" (He.ma K (He.ga K "Machine") "stepped") := Z.meth 68 rfl
theorem z69 (Z : FX K mg) : mg "is_word" = some (.ref (He.ga K "is_word")) := Z.glo 69 rfl
theorem z70 (Z : FX K mg) : mg "InvalidWord" = some (.ref (He.ga K "InvalidWord")) := Z.glo 70 rfl
theorem z71 (Z : FX K mg) : mg "need_word" = some (.ref (He.ga K "need_word")) := Z.glo 71 rfl
theorem z72 (Z : FX K mg) : Meth K (He.ga K "Machine") "run" (He.ma K (He.ga K "Machine") "run") := Z.meth 72 rfl
theorem z73 (Z : FX K mg) : Meth K (He.ga K "Machine") "ended" (He.ma K (He.ga K "Machine") "ended") := Z.meth 73 rfl
theorem z74 (Z : FX K mg) : Meth K (He.ga K "Machine") "state_after" (He.ma K (He.ga K "Machine") "state_after") := Z.meth 74 rfl
theorem z75 (Z : FX K mg) : mg "power" = some (.ref (He.ga K "power")) := Z.glo 75 rfl
theorem z76 (Z : FX K mg) : ∃ t, mg "MAX_PRIME" = some (.int 1000000000 t) := Z.int 76 rfl
theorem z77 (Z : FX K mg) : mg "SMALL_PRIMES" = some (.ref (He.ga K "SMALL_PRIMES")) := Z.glo 77 rfl
theorem z78 (Z : FX K mg) : KT K (He.ga K "SMALL_PRIMES") (([.int 2, .int 3, .int 5, .int 7, .int 11, .int 13, .int 17, .int 19, .int 23, .int 29, .int 31, .int 37] : List He.Dv).map (He.Dv.v K)) := Z.tup 78 rfl
theorem z79 (Z : FX K mg) : mg "WITNESSES" = some (.ref (He.ga K "WITNESSES")) := Z.glo 79 rfl
theorem z80 (Z : FX K mg) : KT K (He.ga K "WITNESSES") (([.int 2, .int 3, .int 5, .int 7] : List He.Dv).map (He.Dv.v K)) := Z.tup 80 rfl
theorem z81 (Z : FX K mg) : mg "is_witness" = some (.ref (He.ga K "is_witness")) := Z.glo 81 rfl
theorem z82 (Z : FX K mg) : mg "any" = none := Z.free 82 rfl
theorem z83 (Z : FX K mg) : mg "is_prime" = some (.ref (He.ga K "is_prime")) := Z.glo 83 rfl
theorem z84 (Z : FX K mg) : mg "InvalidPrime" = some (.ref (He.ga K "InvalidPrime")) := Z.glo 84 rfl
theorem z85 (Z : FX K mg) : (ckSup "Modulo" "Modulo" "__init__" (fun K => He.ma K (He.ga K "Field") "__init__")) K = true := Z.fact 85 rfl
theorem z86 (Z : FX K mg) : mg "super" = none := Z.free 86 rfl
theorem z87 (Z : FX K mg) : mg "_law_draw" = some (.ref (He.ga K "_law_draw")) := Z.glo 87 rfl
theorem z88 (Z : FX K mg) : mg "_law_shuffled" = some (.ref (He.ga K "_law_shuffled")) := Z.glo 88 rfl
theorem z89 (Z : FX K mg) : mg "sorted" = none := Z.free 89 rfl
theorem z90 (Z : FX K mg) : mg "_law_pick" = some (.ref (He.ga K "_law_pick")) := Z.glo 90 rfl
theorem z91 (Z : FX K mg) : mg "_law_word" = some (.ref (He.ga K "_law_word")) := Z.glo 91 rfl
theorem z92 (Z : FX K mg) : Mk K (He.ga K "Modulo") (He.ma K (He.ga K "Modulo") "__init__") := Z.mkr 92 rfl
theorem z93 (Z : FX K mg) : mg "Modulo" = some (.ref (He.ga K "Modulo")) := Z.glo 93 rfl
theorem z94 (Z : FX K mg) : Mk K (He.ga K "Machine") (He.ma K (He.ga K "Machine") "__init__") := Z.mkr 94 rfl
theorem z95 (Z : FX K mg) : mg "Machine" = some (.ref (He.ga K "Machine")) := Z.glo 95 rfl
theorem z96 (Z : FX K mg) : mg "_law_number" = some (.ref (He.ga K "_law_number")) := Z.glo 96 rfl
theorem z97 (Z : FX K mg) : ExTab K (((fun K => .ref (He.ga K "InvalidWord") : Frag → Value)) K) [("InvalidMachine", false), ("InvalidPrime", false), ("InvalidWord", true), ("TooMany", false)] := Z.exm 97 rfl
theorem z98 (Z : FX K mg) : ExcC K (He.ga K "InvalidWord") := Z.xc 98 rfl
theorem z99 (Z : FX K mg) : KitTab K "InvalidWord" [("ValueError", true), ("LookupError", false), ("ArithmeticError", false), ("OverflowError", false), ("RuntimeError", false)] := Z.kt 99 rfl
theorem z100 (Z : FX K mg) : SysD K := Z.sys 100 rfl
theorem z101 (Z : FX K mg) : mg "repr" = none := Z.free 101 rfl
theorem z102 (Z : FX K mg) : mg "sum" = none := Z.free 102 rfl
theorem z103 (Z : FX K mg) : mg "_law_state" = some (.ref (He.ga K "_law_state")) := Z.glo 103 rfl
theorem z104 (Z : FX K mg) : mg "_law_pen" = some (.ref (He.ga K "_law_pen")) := Z.glo 104 rfl
theorem z105 (Z : FX K mg) : mg "min" = none := Z.free 105 rfl
theorem z106 (Z : FX K mg) : mg "_law_letters" = some (.ref (He.ga K "_law_letters")) := Z.glo 106 rfl
theorem z107 (Z : FX K mg) : mg "_law_prime" = some (.ref (He.ga K "_law_prime")) := Z.glo 107 rfl
theorem z108 (Z : FX K mg) : mg "_law_plain" = some (.ref (He.ga K "_law_plain")) := Z.glo 108 rfl
theorem z109 (Z : FX K mg) : mg "_law_made" = some (.ref (He.ga K "_law_made")) := Z.glo 109 rfl
theorem z110 (Z : FX K mg) : mg "_law_long_word" = some (.ref (He.ga K "_law_long_word")) := Z.glo 110 rfl
theorem z111 (Z : FX K mg) : Meth K (He.ga K "Machine") "value_of" (He.ma K (He.ga K "Machine") "value_of") := Z.meth 111 rfl
theorem z112 (Z : FX K mg) : mg "_law_value" = some (.ref (He.ga K "_law_value")) := Z.glo 112 rfl
theorem z113 (Z : FX K mg) : mg "_law_odd_word" = some (.ref (He.ga K "_law_odd_word")) := Z.glo 113 rfl
theorem z114 (Z : FX K mg) : mg "_law_refused" = some (.ref (He.ga K "_law_refused")) := Z.glo 114 rfl
theorem z115 (Z : FX K mg) : mg "law" = some (.ref (He.ga K "law")) := Z.glo 115 rfl
theorem z116 (Z : FX K mg) : IsiOk K it0 := Z.isi 116 rfl
theorem z_isi (Z : FX K mg) : IsiOk K it0 := z116 Z
theorem x_InvalidMachine (Z : FX K mg) : ∃ fd, FnOk PP w K mg base (L2.CX PP w) 1 (He.ma K (He.ga K "InvalidMachine") "__init__") fd ["self", "part"] (spI1 (He.ga K "InvalidMachine") "part") ∧ Binds K fd ["self", "part"] [] := by
  obtain ⟨fd, F⟩ := Z.df 0 (d := d_InvalidMachine___init__) rfl rfl
  exact ⟨fd, fn_init1 F ⟨rfl, rfl, rfl, by decide +kernel, rfl, by decide +kernel, by decide +kernel⟩ rfl rfl (by decide) (by decide) (z0 Z) ((z1 Z)).1 (z2 Z), F.bindsN (ps := ["self", "part"]) fun _ _ _ _ _ _ us hl => match us, hl with | [_, _], _ => rfl⟩
theorem x_InvalidPrime (Z : FX K mg) : ∃ fd, FnOk PP w K mg base (L2.CX PP w) 1 (He.ma K (He.ga K "InvalidPrime") "__init__") fd ["self", "value"] (spI1 (He.ga K "InvalidPrime") "value") ∧ Binds K fd ["self", "value"] [] := by
  obtain ⟨fd, F⟩ := Z.df 1 (d := d_InvalidPrime___init__) rfl rfl
  exact ⟨fd, fn_init1 F ⟨rfl, rfl, rfl, by decide +kernel, rfl, by decide +kernel, by decide +kernel⟩ rfl rfl (by decide) (by decide) (z0 Z) ((z3 Z)).1 (z4 Z), F.bindsN (ps := ["self", "value"]) fun _ _ _ _ _ _ us hl => match us, hl with | [_, _], _ => rfl⟩
theorem x_InvalidWord (Z : FX K mg) : ∃ fd, FnOk PP w K mg base (L2.CX PP w) 1 (He.ma K (He.ga K "InvalidWord") "__init__") fd ["self", "value"] (spI1 (He.ga K "InvalidWord") "value") ∧ Binds K fd ["self", "value"] [] := by
  obtain ⟨fd, F⟩ := Z.df 2 (d := d_InvalidWord___init__) rfl rfl
  exact ⟨fd, fn_init1 F ⟨rfl, rfl, rfl, by decide +kernel, rfl, by decide +kernel, by decide +kernel⟩ rfl rfl (by decide) (by decide) (z0 Z) ((z5 Z)).1 (z6 Z), F.bindsN (ps := ["self", "value"]) fun _ _ _ _ _ _ us hl => match us, hl with | [_, _], _ => rfl⟩
theorem x_TooMany (Z : FX K mg) : ∃ fd, FnOk PP w K mg base (L2.CX PP w) 1 (He.ma K (He.ga K "TooMany") "__init__") fd ["self", "limit"] (spI1 (He.ga K "TooMany") "limit") ∧ Binds K fd ["self", "limit"] [] := by
  obtain ⟨fd, F⟩ := Z.df 3 (d := d_TooMany___init__) rfl rfl
  exact ⟨fd, fn_init1 F ⟨rfl, rfl, rfl, by decide +kernel, rfl, by decide +kernel, by decide +kernel⟩ rfl rfl (by decide) (by decide) (z7 Z) ((z8 Z)).1 (z9 Z), F.bindsN (ps := ["self", "limit"]) fun _ _ _ _ _ _ us hl => match us, hl with | [_, _], _ => rfl⟩
noncomputable def b_Field___init__ : DS := fldS ["Machine", "Modulo"] "own_prime" (vM 0) (vM 1)
noncomputable def m_Field___init__ : DF := bodyM 2 [] 2 b_Field___init__
theorem c_Field___init__ (Z : FX K mg) {f : Addr} : BodyD PP w K mg base ["self", "prime"] "Field.__init__" (defScope s_Field___init__) f 0 (defBody s_Field___init__) b_Field___init__ := by
  intro cdv A outer s H E hr
  have nd : (["self", "prime"] : List Str).Nodup := by decide +kernel
  have tk : Takes (cxOf (L2.CX PP w) PP w K mg base ["self", "prime"] "Field.__init__" (defScope s_Field___init__) f cdv A outer s H E) (fun c d _ H' => E c d H') := takes_of rfl rfl rfl rfl
  have hp := passes_of (X := cxOf (L2.CX PP w) PP w K mg base ["self", "prime"] "Field.__init__" (defScope s_Field___init__) f cdv A outer s H E) rfl
  have hu := hr.rm.units
  have hu1 : _ + 1 < cLine := Nat.lt_of_le_of_lt (Nat.add_le_add_left (by decide : 1 ≤ 64) _) hu
  exact (s_one (s_fld (List.forall_mem_cons.2 ⟨⟨(z12 Z), (z13 Z)⟩, (List.forall_mem_cons.2 ⟨⟨(z10 Z), (z11 Z)⟩, (List.forall_mem_nil _)⟩)⟩) (ev 0) (ev 1)))
theorem f_Field___init__ (Z : FX K mg) : FnD PP w K mg base 1 ((fun K => He.ma K (He.ga K "Field") "__init__") K) m_Field___init__ := by
  obtain ⟨fd, F⟩ := Z.df 4 (d := d_Field___init__) rfl rfl
  exact fn_ok0 (ps := ["self", "prime"]) F ⟨rfl, rfl, rfl, by decide +kernel, rfl, by decide +kernel, by decide +kernel⟩ (fun _ _ _ _ _ _ us hl => match us, hl with | [_, _], _ => rfl) (c_Field___init__ Z)
noncomputable def b_Modulo_add : DS := retS (binM modD (binM addD (vM 1) (vM 2)) (attrM [("Machine", .fld), ("Modulo", .fld)] "own_prime" (vM 0)))
noncomputable def m_Modulo_add : DF := bodyM 3 [] 3 b_Modulo_add
theorem c_Modulo_add (Z : FX K mg) {f : Addr} : BodyD PP w K mg base ["self", "one", "other"] "Modulo.add" (defScope s_Modulo_add) f 0 (defBody s_Modulo_add) b_Modulo_add := by
  intro cdv A outer s H E hr
  have nd : (["self", "one", "other"] : List Str).Nodup := by decide +kernel
  have tk : Takes (cxOf (L2.CX PP w) PP w K mg base ["self", "one", "other"] "Modulo.add" (defScope s_Modulo_add) f cdv A outer s H E) (fun c d _ H' => E c d H') := takes_of rfl rfl rfl rfl
  have hp := passes_of (X := cxOf (L2.CX PP w) PP w K mg base ["self", "one", "other"] "Modulo.add" (defScope s_Modulo_add) f cdv A outer s H E) rfl
  have hu := hr.rm.units
  have hu1 : _ + 1 < cLine := Nat.lt_of_le_of_lt (Nat.add_le_add_left (by decide : 1 ≤ 64) _) hu
  exact (s_one (s_ret (e_mod (e_add (ev 1) (ev 2)) (e_attr (.fld (z12 Z) (z13 Z) (.fld (z10 Z) (z11 Z) .nil)) (ev 0)))))
theorem f_Modulo_add (Z : FX K mg) : FnD PP w K mg base 1 ((fun K => He.ma K (He.ga K "Modulo") "add") K) m_Modulo_add := by
  obtain ⟨fd, F⟩ := Z.df 5 (d := d_Modulo_add) rfl rfl
  exact fn_ok0 (ps := ["self", "one", "other"]) F ⟨rfl, rfl, rfl, by decide +kernel, rfl, by decide +kernel, by decide +kernel⟩ (fun _ _ _ _ _ _ us hl => match us, hl with | [_, _, _], _ => rfl) (c_Modulo_add Z)
theorem f_Modulo_add_at_Modulo (Z : FX K mg) : FnD PP w K mg base 1 (He.ma K (He.ga K "Modulo") "add") m_Modulo_add := f_Modulo_add Z
noncomputable def b_Modulo_multiply : DS := retS (binM modD (binM mulD (vM 1) (vM 2)) (attrM [("Machine", .fld), ("Modulo", .fld)] "own_prime" (vM 0)))
noncomputable def m_Modulo_multiply : DF := bodyM 3 [] 3 b_Modulo_multiply
theorem c_Modulo_multiply (Z : FX K mg) {f : Addr} : BodyD PP w K mg base ["self", "one", "other"] "Modulo.multiply" (defScope s_Modulo_multiply) f 0 (defBody s_Modulo_multiply) b_Modulo_multiply := by
  intro cdv A outer s H E hr
  have nd : (["self", "one", "other"] : List Str).Nodup := by decide +kernel
  have tk : Takes (cxOf (L2.CX PP w) PP w K mg base ["self", "one", "other"] "Modulo.multiply" (defScope s_Modulo_multiply) f cdv A outer s H E) (fun c d _ H' => E c d H') := takes_of rfl rfl rfl rfl
  have hp := passes_of (X := cxOf (L2.CX PP w) PP w K mg base ["self", "one", "other"] "Modulo.multiply" (defScope s_Modulo_multiply) f cdv A outer s H E) rfl
  have hu := hr.rm.units
  have hu1 : _ + 1 < cLine := Nat.lt_of_le_of_lt (Nat.add_le_add_left (by decide : 1 ≤ 64) _) hu
  exact (s_one (s_ret (e_mod (e_mul (ev 1) (ev 2)) (e_attr (.fld (z12 Z) (z13 Z) (.fld (z10 Z) (z11 Z) .nil)) (ev 0)))))
theorem f_Modulo_multiply (Z : FX K mg) : FnD PP w K mg base 1 ((fun K => He.ma K (He.ga K "Modulo") "multiply") K) m_Modulo_multiply := by
  obtain ⟨fd, F⟩ := Z.df 6 (d := d_Modulo_multiply) rfl rfl
  exact fn_ok0 (ps := ["self", "one", "other"]) F ⟨rfl, rfl, rfl, by decide +kernel, rfl, by decide +kernel, by decide +kernel⟩ (fun _ _ _ _ _ _ us hl => match us, hl with | [_, _, _], _ => rfl) (c_Modulo_multiply Z)
theorem f_Modulo_multiply_at_Modulo (Z : FX K mg) : FnD PP w K mg base 1 (He.ma K (He.ga K "Modulo") "multiply") m_Modulo_multiply := f_Modulo_multiply Z
noncomputable def b_Field_dot : DS := seqS (setS 3 (cM (.int 0))) (seqS (forS (argI zipD (consA (vM 1) (consA (vM 2) (nilA)))) (tupG 2 (consG (nameG 4) (consG (nameG 5) (nilG)))) (ifS (andT (blM (binM neD (vM 4) (cM (.int 0)))) (blM (binM neD (vM 5) (cM (.int 0))))) (setS 3 (methM [("Modulo", m_Modulo_add)] "add" (vM 0) (consA (vM 3) (consA (methM [("Modulo", m_Modulo_multiply)] "multiply" (vM 0) (consA (vM 4) (consA (vM 5) (nilA)))) (nilA))))) (skipS))) (retS (vM 3)))
noncomputable def m_Field_dot : DF := bodyM 3 [] 6 b_Field_dot
theorem c_Field_dot (Z : FX K mg) {f : Addr} : BodyD PP w K mg base ["self", "row", "other", "found", "number", "factor"] "Field.dot" (defScope s_Field_dot) f 1 (defBody s_Field_dot) b_Field_dot := by
  intro cdv A outer s H E hr
  have nd : (["self", "row", "other", "found", "number", "factor"] : List Str).Nodup := by decide +kernel
  have tk : Takes (cxOf (L2.CX PP w) PP w K mg base ["self", "row", "other", "found", "number", "factor"] "Field.dot" (defScope s_Field_dot) f cdv A outer s H E) (fun c d _ H' => E c d H') := takes_of rfl rfl rfl rfl
  have hp := passes_of (X := cxOf (L2.CX PP w) PP w K mg base ["self", "row", "other", "found", "number", "factor"] "Field.dot" (defScope s_Field_dot) f cdv A outer s H E) rfl
  have hu := hr.rm.units
  have hu1 : _ + 1 < cLine := Nat.lt_of_le_of_lt (Nat.add_le_add_left (by decide : 1 ≤ 64) _) hu
  exact (s_cons (s_set nd rfl (by first | exact .inl rfl | exact .inr rfl) e_int)
    (s_cons (s_for hp rfl (i_zip rfl (z14 Z) (a_cons (ev 1) (a_cons (ev 2) a_nil))) (g_tup rfl (gs_cons (g_name nd rfl (by first | exact .inl rfl | exact .inr rfl)) (gs_cons (g_name nd rfl (by first | exact .inl rfl | exact .inr rfl)) gs_nil))) (s_one (s_if (PW.pt (w_and (t_ne hu (ev 4) e_int) (w_and1 (t_ne hu (ev 5) e_int)))) (s_one (s_set nd rfl (by first | exact .inl rfl | exact .inr rfl) (e_meth tk (.cons ⟨(z10 Z), _, 1, (z15 Z), f_Modulo_add_at_Modulo Z, (hr.mono (Nat.le_of_ble_eq_true rfl) : Rm 1 _)⟩ .nil) (ev 0) (a_cons (ev 3) (a_cons (e_meth tk (.cons ⟨(z10 Z), _, 1, (z16 Z), f_Modulo_multiply_at_Modulo Z, (hr.mono (Nat.le_of_ble_eq_true rfl) : Rm 1 _)⟩ .nil) (ev 0) (a_cons (ev 4) (a_cons (ev 5) a_nil))) a_nil))))) s_nil)))
    (s_one (s_ret (ev 3)))))
theorem f_Field_dot (Z : FX K mg) : FnD PP w K mg base 2 ((fun K => He.ma K (He.ga K "Field") "dot") K) m_Field_dot := by
  obtain ⟨fd, F⟩ := Z.df 7 (d := d_Field_dot) rfl rfl
  exact fn_ok0 (ps := ["self", "row", "other"]) F ⟨rfl, rfl, rfl, by decide +kernel, rfl, by decide +kernel, by decide +kernel⟩ (fun _ _ _ _ _ _ us hl => match us, hl with | [_, _, _], _ => rfl) (c_Field_dot Z)
theorem f_Field_dot_at_Modulo (Z : FX K mg) : FnD PP w K mg base 2 (He.ma K (He.ga K "Modulo") "dot") m_Field_dot := by
  have e : He.ma K (He.ga K "Modulo") "dot" = (fun K => He.ma K (He.ga K "Field") "dot") K := of_decide_eq_true (z17 Z)
  rw [e]
  exact f_Field_dot Z
noncomputable def b_is_integer : DS := retS (andV (argM (isiD it0) (consA (vM 0) (consA (cM (.ty "int")) (nilA)))) (notV (argM (isiD it0) (consA (vM 0) (consA (cM (.ty "bool")) (nilA))))))
noncomputable def m_is_integer : DF := bodyM 1 [] 1 b_is_integer
theorem c_is_integer (Z : FX K mg) {f : Addr} : BodyD PP w K mg base ["value"] "is_integer" (defScope s_is_integer) f 0 (defBody s_is_integer) b_is_integer := by
  intro cdv A outer s H E hr
  have nd : (["value"] : List Str).Nodup := by decide +kernel
  have tk : Takes (cxOf (L2.CX PP w) PP w K mg base ["value"] "is_integer" (defScope s_is_integer) f cdv A outer s H E) (fun c d _ H' => E c d H') := takes_of rfl rfl rfl rfl
  have hp := passes_of (X := cxOf (L2.CX PP w) PP w K mg base ["value"] "is_integer" (defScope s_is_integer) f cdv A outer s H E) rfl
  have hu := hr.rm.units
  have hu1 : _ + 1 < cLine := Nat.lt_of_le_of_lt (Nat.add_le_add_left (by decide : 1 ≤ 64) _) hu
  exact (s_one (s_ret (e_and (e_callB call_isi (v_isi (z_isi Z)) rfl (z19 Z) (by decide +kernel) (a_cons (ev 0) (a_cons (e_ty (n := "int") rfl (z18 Z) (by decide +kernel)) a_nil))) (e_one (e_not (e_callB call_isi (v_isi (z_isi Z)) rfl (z19 Z) (by decide +kernel) (a_cons (ev 0) (a_cons (e_ty (n := "bool") rfl (z20 Z) (by decide +kernel)) a_nil))))))))
theorem f_is_integer (Z : FX K mg) : FnD PP w K mg base 1 ((fun K => He.ga K "is_integer") K) m_is_integer := by
  obtain ⟨fd, F⟩ := Z.df 8 (d := d_is_integer) rfl rfl
  exact fn_ok0 (ps := ["value"]) F ⟨rfl, rfl, rfl, by decide +kernel, rfl, by decide +kernel, by decide +kernel⟩ (fun _ _ _ _ _ _ us hl => match us, hl with | [_], _ => rfl) (c_is_integer Z)
theorem k_is_integer (Z : FX K mg) : PySem.W.keepIn K (.ref ((fun K => He.ga K "is_integer") K)) = true := Z.keep 8 (d := d_is_integer) rfl
noncomputable def b_is_between : DS := retS (andV (callM m_is_integer (consA (vM 0) (nilA))) ((chainM leI leI (vM 1) (vM 0) (vM 2))))
noncomputable def m_is_between : DF := bodyM 3 [] 3 b_is_between
theorem c_is_between (Z : FX K mg) {f : Addr} : BodyD PP w K mg base ["value", "least", "most"] "is_between" (defScope s_is_between) f 1 (defBody s_is_between) b_is_between := by
  intro cdv A outer s H E hr
  have nd : (["value", "least", "most"] : List Str).Nodup := by decide +kernel
  have tk : Takes (cxOf (L2.CX PP w) PP w K mg base ["value", "least", "most"] "is_between" (defScope s_is_between) f cdv A outer s H E) (fun c d _ H' => E c d H') := takes_of rfl rfl rfl rfl
  have hp := passes_of (X := cxOf (L2.CX PP w) PP w K mg base ["value", "least", "most"] "is_between" (defScope s_is_between) f cdv A outer s H E) rfl
  have hu := hr.rm.units
  have hu1 : _ + 1 < cLine := Nat.lt_of_le_of_lt (Nat.add_le_add_left (by decide : 1 ≤ 64) _) hu
  exact (s_one (s_ret (e_and (e_call tk (f_is_integer Z) (hr.mono (Nat.le_of_ble_eq_true rfl) : Rm 1 _) rfl (z21 Z) (k_is_integer Z) (a_cons (ev 0) a_nil)) (e_one (e_chain o_le o_le v_ord v_ord (ev 1) (ev 0) (ev 2))))))
theorem f_is_between (Z : FX K mg) : FnD PP w K mg base 2 ((fun K => He.ga K "is_between") K) m_is_between := by
  obtain ⟨fd, F⟩ := Z.df 9 (d := d_is_between) rfl rfl
  exact fn_ok0 (ps := ["value", "least", "most"]) F ⟨rfl, rfl, rfl, by decide +kernel, rfl, by decide +kernel, by decide +kernel⟩ (fun _ _ _ _ _ _ us hl => match us, hl with | [_, _, _], _ => rfl) (c_is_between Z)
theorem k_is_between (Z : FX K mg) : PySem.W.keepIn K (.ref ((fun K => He.ga K "is_between") K)) = true := Z.keep 9 (d := d_is_between) rfl
noncomputable def b_Modulo_is_any : DS := retS (callM m_is_between (consA (vM 1) (consA (cM (.int 0)) (consA (binM subD (attrM [("Machine", .fld), ("Modulo", .fld)] "own_prime" (vM 0)) (cM (.int 1))) (nilA)))))
noncomputable def m_Modulo_is_any : DF := bodyM 2 [] 2 b_Modulo_is_any
theorem c_Modulo_is_any (Z : FX K mg) {f : Addr} : BodyD PP w K mg base ["self", "value"] "Modulo.is_any" (defScope s_Modulo_is_any) f 2 (defBody s_Modulo_is_any) b_Modulo_is_any := by
  intro cdv A outer s H E hr
  have nd : (["self", "value"] : List Str).Nodup := by decide +kernel
  have tk : Takes (cxOf (L2.CX PP w) PP w K mg base ["self", "value"] "Modulo.is_any" (defScope s_Modulo_is_any) f cdv A outer s H E) (fun c d _ H' => E c d H') := takes_of rfl rfl rfl rfl
  have hp := passes_of (X := cxOf (L2.CX PP w) PP w K mg base ["self", "value"] "Modulo.is_any" (defScope s_Modulo_is_any) f cdv A outer s H E) rfl
  have hu := hr.rm.units
  have hu1 : _ + 1 < cLine := Nat.lt_of_le_of_lt (Nat.add_le_add_left (by decide : 1 ≤ 64) _) hu
  exact (s_one (s_ret (e_call tk (f_is_between Z) (hr.mono (Nat.le_of_ble_eq_true rfl) : Rm 2 _) rfl (z22 Z) (k_is_between Z) (a_cons (ev 1) (a_cons e_int (a_cons (e_sub (e_attr (.fld (z12 Z) (z13 Z) (.fld (z10 Z) (z11 Z) .nil)) (ev 0)) e_int) a_nil))))))
theorem f_Modulo_is_any (Z : FX K mg) : FnD PP w K mg base 3 ((fun K => He.ma K (He.ga K "Modulo") "is_any") K) m_Modulo_is_any := by
  obtain ⟨fd, F⟩ := Z.df 10 (d := d_Modulo_is_any) rfl rfl
  exact fn_ok0 (ps := ["self", "value"]) F ⟨rfl, rfl, rfl, by decide +kernel, rfl, by decide +kernel, by decide +kernel⟩ (fun _ _ _ _ _ _ us hl => match us, hl with | [_, _], _ => rfl) (c_Modulo_is_any Z)
theorem f_Modulo_is_any_at_Modulo (Z : FX K mg) : FnD PP w K mg base 3 (He.ma K (He.ga K "Modulo") "is_any") m_Modulo_is_any := f_Modulo_is_any Z
noncomputable def b_parts_of : DS := retS (ifM (truM (argM (isiD it0) (consA (vM 0) (consA (cM (.ty "tuple")) (nilA))))) (vM 0) (argM tupD (consA (vM 0) (consA (cM (.int 1)) (nilA)))))
noncomputable def m_parts_of : DF := bodyM 1 [] 1 b_parts_of
theorem c_parts_of (Z : FX K mg) {f : Addr} : BodyD PP w K mg base ["number"] "parts_of" (defScope s_parts_of) f 0 (defBody s_parts_of) b_parts_of := by
  intro cdv A outer s H E hr
  have nd : (["number"] : List Str).Nodup := by decide +kernel
  have tk : Takes (cxOf (L2.CX PP w) PP w K mg base ["number"] "parts_of" (defScope s_parts_of) f cdv A outer s H E) (fun c d _ H' => E c d H') := takes_of rfl rfl rfl rfl
  have hp := passes_of (X := cxOf (L2.CX PP w) PP w K mg base ["number"] "parts_of" (defScope s_parts_of) f cdv A outer s H E) rfl
  have hu := hr.rm.units
  have hu1 : _ + 1 < cLine := Nat.lt_of_le_of_lt (Nat.add_le_add_left (by decide : 1 ≤ 64) _) hu
  exact (s_one (s_ret (e_if (t_truth (e_callB call_isi (v_isi (z_isi Z)) rfl (z19 Z) (by decide +kernel) (a_cons (ev 0) (a_cons (e_ty (n := "tuple") rfl (z23 Z) (by decide +kernel)) a_nil)))) (ev 0) (e_tup (a_cons (ev 0) (a_cons e_int a_nil))))))
theorem f_parts_of (Z : FX K mg) : FnD PP w K mg base 1 ((fun K => He.ga K "parts_of") K) m_parts_of := by
  obtain ⟨fd, F⟩ := Z.df 11 (d := d_parts_of) rfl rfl
  exact fn_ok0 (ps := ["number"]) F ⟨rfl, rfl, rfl, by decide +kernel, rfl, by decide +kernel, by decide +kernel⟩ (fun _ _ _ _ _ _ us hl => match us, hl with | [_], _ => rfl) (c_parts_of Z)
theorem k_parts_of (Z : FX K mg) : PySem.W.keepIn K (.ref ((fun K => He.ga K "parts_of") K)) = true := Z.keep 11 (d := d_parts_of) rfl
noncomputable def b_ten_to : DS := seqS (setS 1 (cM (.int 1))) (seqS (forS (argI rangeD1 (consA (binM divD (vM 0) (cM (.int 50))) (nilA))) (nameG 2) (augS 1 mulI (binM powD (cM (.int 10)) (cM (.int 50))))) (retS (vM 1)))
noncomputable def m_ten_to : DF := bodyM 1 [] 3 b_ten_to
theorem c_ten_to (Z : FX K mg) {f : Addr} : BodyD PP w K mg base ["digits", "found", "turn"] "ten_to" (defScope s_ten_to) f 0 (defBody s_ten_to) b_ten_to := by
  intro cdv A outer s H E hr
  have nd : (["digits", "found", "turn"] : List Str).Nodup := by decide +kernel
  have tk : Takes (cxOf (L2.CX PP w) PP w K mg base ["digits", "found", "turn"] "ten_to" (defScope s_ten_to) f cdv A outer s H E) (fun c d _ H' => E c d H') := takes_of rfl rfl rfl rfl
  have hp := passes_of (X := cxOf (L2.CX PP w) PP w K mg base ["digits", "found", "turn"] "ten_to" (defScope s_ten_to) f cdv A outer s H E) rfl
  have hu := hr.rm.units
  have hu1 : _ + 1 < cLine := Nat.lt_of_le_of_lt (Nat.add_le_add_left (by decide : 1 ≤ 64) _) hu
  exact (s_cons (s_set nd rfl (by first | exact .inl rfl | exact .inr rfl) e_int)
    (s_cons (s_for hp rfl (i_range1 rfl (z24 Z) (a_cons (e_div (ev 0) e_int) a_nil)) (g_name nd rfl (by first | exact .inl rfl | exact .inr rfl)) (s_one (s_augMul nd rfl (by first | exact .inl rfl | exact .inr rfl) (e_pow e_int e_int))))
    (s_one (s_ret (ev 1)))))
theorem f_ten_to (Z : FX K mg) : FnD PP w K mg base 1 ((fun K => He.ga K "ten_to") K) m_ten_to := by
  obtain ⟨fd, F⟩ := Z.df 12 (d := d_ten_to) rfl rfl
  exact fn_ok0 (ps := ["digits"]) F ⟨rfl, rfl, rfl, by decide +kernel, rfl, by decide +kernel, by decide +kernel⟩ (fun _ _ _ _ _ _ us hl => match us, hl with | [_], _ => rfl) (c_ten_to Z)
theorem k_ten_to (Z : FX K mg) : PySem.W.keepIn K (.ref ((fun K => He.ga K "ten_to") K)) = true := Z.keep 12 (d := d_ten_to) rfl
noncomputable def b_is_short : DS := seqS (setS 2 (callM m_ten_to (consA (vM 1) (nilA)))) (retS (argM (allD) (consA (lcM false (seqI (callM m_parts_of (consA (vM 0) (nilA)))) (nameG 3) (yesM) ((binM ltI (argM (absD) (consA (vM 3) (nilA))) (vM 2))) [3]) (nilA))))
noncomputable def m_is_short : DF := bodyM 2 [] 4 b_is_short
theorem c_is_short (Z : FX K mg) {f : Addr} : BodyD PP w K mg base ["number", "digits", "most", "part"] "is_short" (defScope s_is_short) f 1 (defBody s_is_short) b_is_short := by
  intro cdv A outer s H E hr
  have nd : (["number", "digits", "most", "part"] : List Str).Nodup := by decide +kernel
  have tk : Takes (cxOf (L2.CX PP w) PP w K mg base ["number", "digits", "most", "part"] "is_short" (defScope s_is_short) f cdv A outer s H E) (fun c d _ H' => E c d H') := takes_of rfl rfl rfl rfl
  have hp := passes_of (X := cxOf (L2.CX PP w) PP w K mg base ["number", "digits", "most", "part"] "is_short" (defScope s_is_short) f cdv A outer s H E) rfl
  have hu := hr.rm.units
  have hu1 : _ + 1 < cLine := Nat.lt_of_le_of_lt (Nat.add_le_add_left (by decide : 1 ≤ 64) _) hu
  exact (s_cons (s_set nd rfl (by first | exact .inl rfl | exact .inr rfl) (e_call tk (f_ten_to Z) (hr.mono (Nat.le_of_ble_eq_true rfl) : Rm 1 _) rfl (z25 Z) (k_ten_to Z) (a_cons (ev 1) a_nil)))
    (s_one (s_ret (e_callB (cr_all rfl) v_all rfl (z28 Z) (by decide +kernel) (a_cons (e_lc false rfl nd (i_seq (e_call tk (f_parts_of Z) (hr.mono (Nat.le_of_ble_eq_true rfl) : Rm 1 _) rfl (z26 Z) (k_parts_of Z) (a_cons (ev 0) a_nil))) (own := ([("part", 3)] : List (Str × Nat))) (show BlkOk ["number", "digits", "most", "part"] (defScope s_is_short) _ _ from ⟨rfl, by decide +kernel, by decide +kernel, by decide +kernel, by decide +kernel⟩) (fun _ _ _ _ _ => (gw_name nd rfl (by first | exact .inl rfl | exact .inr rfl) (by decide))) (fun _ _ _ _ _ => ts_nil) (fun _ _ _ _ _ => (e_lt (e_callB call_abs v_abs rfl (z27 Z) (by decide +kernel) (a_cons (ev 3) a_nil)) (ev 2)))) a_nil)))))
theorem f_is_short (Z : FX K mg) : FnD PP w K mg base 2 ((fun K => He.ga K "is_short") K) m_is_short := by
  obtain ⟨fd, F⟩ := Z.df 13 (d := d_is_short) rfl rfl
  exact fn_ok0 (ps := ["number", "digits"]) F ⟨rfl, rfl, rfl, by decide +kernel, rfl, by decide +kernel, by decide +kernel⟩ (fun _ _ _ _ _ _ us hl => match us, hl with | [_, _], _ => rfl) (c_is_short Z)
theorem k_is_short (Z : FX K mg) : PySem.W.keepIn K (.ref ((fun K => He.ga K "is_short") K)) = true := Z.keep 13 (d := d_is_short) rfl
noncomputable def b_Field_is_number : DS := retS (andV (methM [("Modulo", m_Modulo_is_any)] "is_any" (vM 0) (consA (vM 1) (nilA))) (callM m_is_short (consA (vM 1) (consA (cM (.int 100)) (nilA)))))
noncomputable def m_Field_is_number : DF := bodyM 2 [] 2 b_Field_is_number
theorem c_Field_is_number (Z : FX K mg) {f : Addr} : BodyD PP w K mg base ["self", "value"] "Field.is_number" (defScope s_Field_is_number) f 3 (defBody s_Field_is_number) b_Field_is_number := by
  intro cdv A outer s H E hr
  have nd : (["self", "value"] : List Str).Nodup := by decide +kernel
  have tk : Takes (cxOf (L2.CX PP w) PP w K mg base ["self", "value"] "Field.is_number" (defScope s_Field_is_number) f cdv A outer s H E) (fun c d _ H' => E c d H') := takes_of rfl rfl rfl rfl
  have hp := passes_of (X := cxOf (L2.CX PP w) PP w K mg base ["self", "value"] "Field.is_number" (defScope s_Field_is_number) f cdv A outer s H E) rfl
  have hu := hr.rm.units
  have hu1 : _ + 1 < cLine := Nat.lt_of_le_of_lt (Nat.add_le_add_left (by decide : 1 ≤ 64) _) hu
  exact (s_one (s_ret (e_and (e_meth tk (.cons ⟨(z10 Z), _, 3, (z29 Z), f_Modulo_is_any_at_Modulo Z, (hr.mono (Nat.le_of_ble_eq_true rfl) : Rm 3 _)⟩ .nil) (ev 0) (a_cons (ev 1) a_nil)) (e_one (e_call tk (f_is_short Z) (hr.mono (Nat.le_of_ble_eq_true rfl) : Rm 2 _) rfl (z31 Z) (k_is_short Z) (a_cons (ev 1) (a_cons (e_gint rfl (z30 Z)) a_nil)))))))
theorem f_Field_is_number (Z : FX K mg) : FnD PP w K mg base 4 ((fun K => He.ma K (He.ga K "Field") "is_number") K) m_Field_is_number := by
  obtain ⟨fd, F⟩ := Z.df 14 (d := d_Field_is_number) rfl rfl
  exact fn_ok0 (ps := ["self", "value"]) F ⟨rfl, rfl, rfl, by decide +kernel, rfl, by decide +kernel, by decide +kernel⟩ (fun _ _ _ _ _ _ us hl => match us, hl with | [_, _], _ => rfl) (c_Field_is_number Z)
theorem f_Field_is_number_at_Modulo (Z : FX K mg) : FnD PP w K mg base 4 (He.ma K (He.ga K "Modulo") "is_number") m_Field_is_number := by
  have e : He.ma K (He.ga K "Modulo") "is_number" = (fun K => He.ma K (He.ga K "Field") "is_number") K := of_decide_eq_true (z32 Z)
  rw [e]
  exact f_Field_is_number Z
noncomputable def b_columns_of : DS := retS (argM (tupleD) (consA (lcM false (zipSI (vM 0)) (nameG 1) (yesM) (argM (tupleD) (consA (vM 1) (nilA))) [1]) (nilA)))
noncomputable def m_columns_of : DF := bodyM 1 [] 2 b_columns_of
theorem c_columns_of (Z : FX K mg) {f : Addr} : BodyD PP w K mg base ["rows", "column"] "columns_of" (defScope s_columns_of) f 0 (defBody s_columns_of) b_columns_of := by
  intro cdv A outer s H E hr
  have nd : (["rows", "column"] : List Str).Nodup := by decide +kernel
  have tk : Takes (cxOf (L2.CX PP w) PP w K mg base ["rows", "column"] "columns_of" (defScope s_columns_of) f cdv A outer s H E) (fun c d _ H' => E c d H') := takes_of rfl rfl rfl rfl
  have hp := passes_of (X := cxOf (L2.CX PP w) PP w K mg base ["rows", "column"] "columns_of" (defScope s_columns_of) f cdv A outer s H E) rfl
  have hu := hr.rm.units
  have hu1 : _ + 1 < cLine := Nat.lt_of_le_of_lt (Nat.add_le_add_left (by decide : 1 ≤ 64) _) hu
  exact (s_one (s_ret (e_callTy call_tuple_of v_tuple rfl (z23 Z) (by decide +kernel) (a_cons (e_lc false rfl nd (i_starZ rfl (z14 Z) (ev 0)) (own := ([("column", 1)] : List (Str × Nat))) (show BlkOk ["rows", "column"] (defScope s_columns_of) _ _ from ⟨rfl, by decide +kernel, by decide +kernel, by decide +kernel, by decide +kernel⟩) (fun _ _ _ _ _ => (gw_name nd rfl (by first | exact .inl rfl | exact .inr rfl) (by decide))) (fun _ _ _ _ _ => ts_nil) (fun _ _ _ _ _ => (e_callTy call_tuple_of v_tuple rfl (z23 Z) (by decide +kernel) (a_cons (ev 1) a_nil)))) a_nil))))
theorem f_columns_of (Z : FX K mg) : FnD PP w K mg base 1 ((fun K => He.ga K "columns_of") K) m_columns_of := by
  obtain ⟨fd, F⟩ := Z.df 15 (d := d_columns_of) rfl rfl
  exact fn_ok0 (ps := ["rows"]) F ⟨rfl, rfl, rfl, by decide +kernel, rfl, by decide +kernel, by decide +kernel⟩ (fun _ _ _ _ _ _ us hl => match us, hl with | [_], _ => rfl) (c_columns_of Z)
theorem k_columns_of (Z : FX K mg) : PySem.W.keepIn K (.ref ((fun K => He.ga K "columns_of") K)) = true := Z.keep 15 (d := d_columns_of) rfl
noncomputable def b_kept_tables : DS := retS (dcM (seqI (vM 0)) (nameG 2) (yesM) (vM 2) (argM (tupleD) (consA (lcM false (seqI (binM idxD (vM 1) (vM 2))) (nameG 3) (yesM) (argM (tupleD) (consA (vM 3) (nilA))) [3]) (nilA))) [2])
noncomputable def m_kept_tables : DF := bodyM 2 [] 4 b_kept_tables
theorem c_kept_tables (Z : FX K mg) {f : Addr} : BodyD PP w K mg base ["letters", "tables", "letter", "row"] "kept_tables" (defScope s_kept_tables) f 0 (defBody s_kept_tables) b_kept_tables := by
  intro cdv A outer s H E hr
  have nd : (["letters", "tables", "letter", "row"] : List Str).Nodup := by decide +kernel
  have tk : Takes (cxOf (L2.CX PP w) PP w K mg base ["letters", "tables", "letter", "row"] "kept_tables" (defScope s_kept_tables) f cdv A outer s H E) (fun c d _ H' => E c d H') := takes_of rfl rfl rfl rfl
  have hp := passes_of (X := cxOf (L2.CX PP w) PP w K mg base ["letters", "tables", "letter", "row"] "kept_tables" (defScope s_kept_tables) f cdv A outer s H E) rfl
  have hu := hr.rm.units
  have hu1 : _ + 1 < cLine := Nat.lt_of_le_of_lt (Nat.add_le_add_left (by decide : 1 ≤ 64) _) hu
  exact (s_one (s_ret (e_dc rfl nd (i_seq (ev 0)) (own := ([("letter", 2)] : List (Str × Nat))) (show BlkOk ["letters", "tables", "letter", "row"] (defScope s_kept_tables) _ _ from ⟨rfl, by decide +kernel, by decide +kernel, by decide +kernel, by decide +kernel⟩) (fun _ _ _ _ _ => (gw_name nd rfl (by first | exact .inl rfl | exact .inr rfl) (by decide))) (fun _ _ _ _ _ => ts_nil) (fun _ _ _ _ _ => (ev 2)) (fun _ _ _ _ _ => (e_callTy call_tuple_of v_tuple rfl (z23 Z) (by decide +kernel) (a_cons (e_lc false rfl nd (i_seq (e_idx hu1 (ev 1) (ev 2))) (own := ([("row", 3)] : List (Str × Nat))) (show BlkOk ["letters", "tables", "letter", "row"] _ _ _ from ⟨rfl, by decide +kernel, by decide +kernel, by repeat (first | exact List.forall_mem_nil _ | refine List.forall_mem_cons.2 ⟨fun h => by first | (cases h; done) | exact .inl rfl | exact .inr rfl, ?_⟩), by decide +kernel⟩) (fun _ _ _ _ _ => (gw_name nd rfl (by first | exact .inl rfl | exact .inr rfl) (by decide))) (fun _ _ _ _ _ => ts_nil) (fun _ _ _ _ _ => (e_callTy call_tuple_of v_tuple rfl (z23 Z) (by decide +kernel) (a_cons (ev 3) a_nil)))) a_nil))))))
theorem f_kept_tables (Z : FX K mg) : FnD PP w K mg base 1 ((fun K => He.ga K "kept_tables") K) m_kept_tables := by
  obtain ⟨fd, F⟩ := Z.df 16 (d := d_kept_tables) rfl rfl
  exact fn_ok0 (ps := ["letters", "tables"]) F ⟨rfl, rfl, rfl, by decide +kernel, rfl, by decide +kernel, by decide +kernel⟩ (fun _ _ _ _ _ _ us hl => match us, hl with | [_, _], _ => rfl) (c_kept_tables Z)
theorem k_kept_tables (Z : FX K mg) : PySem.W.keepIn K (.ref ((fun K => He.ga K "kept_tables") K)) = true := Z.keep 16 (d := d_kept_tables) rfl
noncomputable def b_need_states : DS := ifS (blM (binM gtI (vM 0) (cM (.int 24)))) (raiseS "TooMany" "limit" (consA (cM (.int 24)) (nilA))) (skipS)
noncomputable def m_need_states : DF := bodyM 1 [] 1 b_need_states
theorem c_need_states (Z : FX K mg) {f : Addr} : BodyD PP w K mg base ["many"] "need_states" (defScope s_need_states) f 2 (defBody s_need_states) b_need_states := by
  intro cdv A outer s H E hr
  have nd : (["many"] : List Str).Nodup := by decide +kernel
  have tk : Takes (cxOf (L2.CX PP w) PP w K mg base ["many"] "need_states" (defScope s_need_states) f cdv A outer s H E) (fun c d _ H' => E c d H') := takes_of rfl rfl rfl rfl
  have hp := passes_of (X := cxOf (L2.CX PP w) PP w K mg base ["many"] "need_states" (defScope s_need_states) f cdv A outer s H E) rfl
  have hu := hr.rm.units
  have hu1 : _ + 1 < cLine := Nat.lt_of_le_of_lt (Nat.add_le_add_left (by decide : 1 ≤ 64) _) hu
  exact (s_one (s_if (t_gt (ev 0) (e_gint rfl (z33 Z))) (s_one (raise_row1 (x_TooMany Z) fun fd h => s_raise1 rfl tk ⟨((z8 Z)).1, ((z8 Z)).2.1, ((z8 Z)).2.2⟩ h.1 ((hr.mono (Nat.le_of_ble_eq_true rfl) : Rm 2 _)).rm h.2 rfl (z34 Z) (a_cons (e_gint rfl (z33 Z)) a_nil))) s_nil))
theorem f_need_states (Z : FX K mg) : FnD PP w K mg base 3 ((fun K => He.ga K "need_states") K) m_need_states := by
  obtain ⟨fd, F⟩ := Z.df 17 (d := d_need_states) rfl rfl
  exact fn_ok0 (ps := ["many"]) F ⟨rfl, rfl, rfl, by decide +kernel, rfl, by decide +kernel, by decide +kernel⟩ (fun _ _ _ _ _ _ us hl => match us, hl with | [_], _ => rfl) (c_need_states Z)
theorem k_need_states (Z : FX K mg) : PySem.W.keepIn K (.ref ((fun K => He.ga K "need_states") K)) = true := Z.keep 17 (d := d_need_states) rfl
noncomputable def b_are_letters : DS := seqS (ifS (orT (notT (truM (argM (isiD it0) (consA (vM 0) (consA (cM (.ty "str")) (nilA)))))) (notT (blM (chainM leI leI (cM (.int 1)) (argM (lenD) (consA (vM 0) (nilA))) (cM (.int 4)))))) (retS (cM (.bl false))) (skipS)) (seqS (ifS (notT (truM (argM (allD) (consA (lcM false (seqI (vM 0)) (nameG 2) (yesM) ((binM (inD false) (vM 2) (cM (.str "abcdefghijklmnopqrstuvwxyz")))) [2]) (nilA))))) (retS (cM (.bl false))) (skipS)) (retS (argM (allD) (consA (lcM false (argI rangeD1 (consA (binM subD (argM (lenD) (consA (vM 0) (nilA))) (cM (.int 1))) (nilA))) (nameG 1) (yesM) ((binM ltI (binM idxD (vM 0) (vM 1)) (binM idxD (vM 0) (binM addD (vM 1) (cM (.int 1)))))) [1]) (nilA)))))
noncomputable def m_are_letters : DF := bodyM 1 [] 3 b_are_letters
theorem c_are_letters (Z : FX K mg) {f : Addr} : BodyD PP w K mg base ["value", "place", "letter"] "are_letters" (defScope s_are_letters) f 0 (defBody s_are_letters) b_are_letters := by
  intro cdv A outer s H E hr
  have nd : (["value", "place", "letter"] : List Str).Nodup := by decide +kernel
  have tk : Takes (cxOf (L2.CX PP w) PP w K mg base ["value", "place", "letter"] "are_letters" (defScope s_are_letters) f cdv A outer s H E) (fun c d _ H' => E c d H') := takes_of rfl rfl rfl rfl
  have hp := passes_of (X := cxOf (L2.CX PP w) PP w K mg base ["value", "place", "letter"] "are_letters" (defScope s_are_letters) f cdv A outer s H E) rfl
  have hu := hr.rm.units
  have hu1 : _ + 1 < cLine := Nat.lt_of_le_of_lt (Nat.add_le_add_left (by decide : 1 ≤ 64) _) hu
  exact (s_cons (s_if (PW.pt (w_or (t_not (t_truth (e_callB call_isi (v_isi (z_isi Z)) rfl (z19 Z) (by decide +kernel) (a_cons (ev 0) (a_cons (e_ty (n := "str") rfl (z35 Z) (by decide +kernel)) a_nil))))) (w_or1 (t_not (t_chain o_le o_le v_ord v_ord e_int (e_callB call_len v_len rfl (z36 Z) (by decide +kernel) (a_cons (ev 0) a_nil)) (e_gint rfl (z37 Z))))))) (s_one (s_ret e_bl)) s_nil)
    (s_cons (s_if (t_not (t_truth (e_callB (cr_all rfl) v_all rfl (z28 Z) (by decide +kernel) (a_cons (e_lc false rfl nd (i_seq (ev 0)) (own := ([("letter", 2)] : List (Str × Nat))) (show BlkOk ["value", "place", "letter"] (defScope s_are_letters) _ _ from ⟨rfl, by decide +kernel, by decide +kernel, by decide +kernel, by decide +kernel⟩) (fun _ _ _ _ _ => (gw_name nd rfl (by first | exact .inl rfl | exact .inr rfl) (by decide))) (fun _ _ _ _ _ => ts_nil) (fun _ _ _ _ _ => (e_in hu1 (ev 2) (e_gstr rfl (z38 Z))))) a_nil)))) (s_one (s_ret e_bl)) s_nil)
    (s_one (s_ret (e_callB (cr_all rfl) v_all rfl (z28 Z) (by decide +kernel) (a_cons (e_lc false rfl nd (i_range1 rfl (z24 Z) (a_cons (e_sub (e_callB call_len v_len rfl (z36 Z) (by decide +kernel) (a_cons (ev 0) a_nil)) e_int) a_nil)) (own := ([("place", 1)] : List (Str × Nat))) (show BlkOk ["value", "place", "letter"] (defScope s_are_letters) _ _ from ⟨rfl, by decide +kernel, by decide +kernel, by decide +kernel, by decide +kernel⟩) (fun _ _ _ _ _ => (gw_name nd rfl (by first | exact .inl rfl | exact .inr rfl) (by decide))) (fun _ _ _ _ _ => ts_nil) (fun _ _ _ _ _ => (e_lt (e_idx hu1 (ev 0) (ev 1)) (e_idx hu1 (ev 0) (e_add (ev 1) e_int))))) a_nil))))))
theorem f_are_letters (Z : FX K mg) : FnD PP w K mg base 1 ((fun K => He.ga K "are_letters") K) m_are_letters := by
  obtain ⟨fd, F⟩ := Z.df 18 (d := d_are_letters) rfl rfl
  exact fn_ok0 (ps := ["value"]) F ⟨rfl, rfl, rfl, by decide +kernel, rfl, by decide +kernel, by decide +kernel⟩ (fun _ _ _ _ _ _ us hl => match us, hl with | [_], _ => rfl) (c_are_letters Z)
theorem k_are_letters (Z : FX K mg) : PySem.W.keepIn K (.ref ((fun K => He.ga K "are_letters") K)) = true := Z.keep 18 (d := d_are_letters) rfl
noncomputable def b_is_list : DS := retS (argM (isiMD it0) (consA (vM 0) (consA (argM tupD (consA (cM (.ty "list")) (consA (cM (.ty "tuple")) (nilA)))) (nilA))))
noncomputable def m_is_list : DF := bodyM 1 [] 1 b_is_list
theorem c_is_list (Z : FX K mg) {f : Addr} : BodyD PP w K mg base ["value"] "is_list" (defScope s_is_list) f 0 (defBody s_is_list) b_is_list := by
  intro cdv A outer s H E hr
  have nd : (["value"] : List Str).Nodup := by decide +kernel
  have tk : Takes (cxOf (L2.CX PP w) PP w K mg base ["value"] "is_list" (defScope s_is_list) f cdv A outer s H E) (fun c d _ H' => E c d H') := takes_of rfl rfl rfl rfl
  have hp := passes_of (X := cxOf (L2.CX PP w) PP w K mg base ["value"] "is_list" (defScope s_is_list) f cdv A outer s H E) rfl
  have hu := hr.rm.units
  have hu1 : _ + 1 < cLine := Nat.lt_of_le_of_lt (Nat.add_le_add_left (by decide : 1 ≤ 64) _) hu
  exact (s_one (s_ret (e_callB call_isiQ (v_isiM (z_isi Z)) rfl (z19 Z) (by decide +kernel) (a_cons (ev 0) (a_cons (e_tup (a_cons (e_ty (n := "list") rfl (z39 Z) (by decide +kernel)) (a_cons (e_ty (n := "tuple") rfl (z23 Z) (by decide +kernel)) a_nil))) a_nil)))))
theorem f_is_list (Z : FX K mg) : FnD PP w K mg base 1 ((fun K => He.ga K "is_list") K) m_is_list := by
  obtain ⟨fd, F⟩ := Z.df 19 (d := d_is_list) rfl rfl
  exact fn_ok0 (ps := ["value"]) F ⟨rfl, rfl, rfl, by decide +kernel, rfl, by decide +kernel, by decide +kernel⟩ (fun _ _ _ _ _ _ us hl => match us, hl with | [_], _ => rfl) (c_is_list Z)
theorem k_is_list (Z : FX K mg) : PySem.W.keepIn K (.ref ((fun K => He.ga K "is_list") K)) = true := Z.keep 19 (d := d_is_list) rfl
noncomputable def b_are_numbers : DS := retS (andV (callM m_is_list (consA (vM 1) (nilA))) (argM (allD) (consA (lcM false (seqI (vM 1)) (nameG 2) (yesM) (methM [("Modulo", m_Field_is_number)] "is_number" (vM 0) (consA (vM 2) (nilA))) [2]) (nilA))))
noncomputable def m_are_numbers : DF := bodyM 2 [] 3 b_are_numbers
theorem c_are_numbers (Z : FX K mg) {f : Addr} : BodyD PP w K mg base ["field", "value", "number"] "are_numbers" (defScope s_are_numbers) f 4 (defBody s_are_numbers) b_are_numbers := by
  intro cdv A outer s H E hr
  have nd : (["field", "value", "number"] : List Str).Nodup := by decide +kernel
  have tk : Takes (cxOf (L2.CX PP w) PP w K mg base ["field", "value", "number"] "are_numbers" (defScope s_are_numbers) f cdv A outer s H E) (fun c d _ H' => E c d H') := takes_of rfl rfl rfl rfl
  have hp := passes_of (X := cxOf (L2.CX PP w) PP w K mg base ["field", "value", "number"] "are_numbers" (defScope s_are_numbers) f cdv A outer s H E) rfl
  have hu := hr.rm.units
  have hu1 : _ + 1 < cLine := Nat.lt_of_le_of_lt (Nat.add_le_add_left (by decide : 1 ≤ 64) _) hu
  exact (s_one (s_ret (e_and (e_call tk (f_is_list Z) (hr.mono (Nat.le_of_ble_eq_true rfl) : Rm 1 _) rfl (z40 Z) (k_is_list Z) (a_cons (ev 1) a_nil)) (e_one (e_callB (cr_all rfl) v_all rfl (z28 Z) (by decide +kernel) (a_cons (e_lc false rfl nd (i_seq (ev 1)) (own := ([("number", 2)] : List (Str × Nat))) (show BlkOk ["field", "value", "number"] (defScope s_are_numbers) _ _ from ⟨rfl, by decide +kernel, by decide +kernel, by decide +kernel, by decide +kernel⟩) (fun _ _ _ _ _ => (gw_name nd rfl (by first | exact .inl rfl | exact .inr rfl) (by decide))) (fun _ _ _ _ _ => ts_nil) (fun _ _ _ _ _ => (e_meth takes_blk (.cons ⟨(z10 Z), _, 4, (z41 Z), f_Field_is_number_at_Modulo Z, (hr.mono (Nat.le_of_ble_eq_true rfl) : Rm 4 _)⟩ .nil) (ev 0) (a_cons (ev 2) a_nil)))) a_nil))))))
theorem f_are_numbers (Z : FX K mg) : FnD PP w K mg base 5 ((fun K => He.ga K "are_numbers") K) m_are_numbers := by
  obtain ⟨fd, F⟩ := Z.df 20 (d := d_are_numbers) rfl rfl
  exact fn_ok0 (ps := ["field", "value"]) F ⟨rfl, rfl, rfl, by decide +kernel, rfl, by decide +kernel, by decide +kernel⟩ (fun _ _ _ _ _ _ us hl => match us, hl with | [_, _], _ => rfl) (c_are_numbers Z)
theorem k_are_numbers (Z : FX K mg) : PySem.W.keepIn K (.ref ((fun K => He.ga K "are_numbers") K)) = true := Z.keep 20 (d := d_are_numbers) rfl
noncomputable def b_are_rows : DS := seqS (ifS (orT (notT (truM (callM m_is_list (consA (vM 1) (nilA))))) (blM (binM neD (argM (lenD) (consA (vM 1) (nilA))) (vM 2)))) (retS (cM (.bl false))) (skipS)) (retS (argM (allD) (consA (lcM false (seqI (vM 1)) (nameG 3) (yesM) (andV (callM m_are_numbers (consA (vM 0) (consA (vM 3) (nilA)))) ((binM eqD (argM (lenD) (consA (vM 3) (nilA))) (vM 2)))) [3]) (nilA))))
noncomputable def m_are_rows : DF := bodyM 3 [] 4 b_are_rows
theorem c_are_rows (Z : FX K mg) {f : Addr} : BodyD PP w K mg base ["field", "value", "many", "row"] "are_rows" (defScope s_are_rows) f 5 (defBody s_are_rows) b_are_rows := by
  intro cdv A outer s H E hr
  have nd : (["field", "value", "many", "row"] : List Str).Nodup := by decide +kernel
  have tk : Takes (cxOf (L2.CX PP w) PP w K mg base ["field", "value", "many", "row"] "are_rows" (defScope s_are_rows) f cdv A outer s H E) (fun c d _ H' => E c d H') := takes_of rfl rfl rfl rfl
  have hp := passes_of (X := cxOf (L2.CX PP w) PP w K mg base ["field", "value", "many", "row"] "are_rows" (defScope s_are_rows) f cdv A outer s H E) rfl
  have hu := hr.rm.units
  have hu1 : _ + 1 < cLine := Nat.lt_of_le_of_lt (Nat.add_le_add_left (by decide : 1 ≤ 64) _) hu
  exact (s_cons (s_if (PW.pt (w_or (t_not (t_truth (e_call tk (f_is_list Z) (hr.mono (Nat.le_of_ble_eq_true rfl) : Rm 1 _) rfl (z40 Z) (k_is_list Z) (a_cons (ev 1) a_nil)))) (w_or1 (t_ne hu (e_callB call_len v_len rfl (z36 Z) (by decide +kernel) (a_cons (ev 1) a_nil)) (ev 2))))) (s_one (s_ret e_bl)) s_nil)
    (s_one (s_ret (e_callB (cr_all rfl) v_all rfl (z28 Z) (by decide +kernel) (a_cons (e_lc false rfl nd (i_seq (ev 1)) (own := ([("row", 3)] : List (Str × Nat))) (show BlkOk ["field", "value", "many", "row"] (defScope s_are_rows) _ _ from ⟨rfl, by decide +kernel, by decide +kernel, by decide +kernel, by decide +kernel⟩) (fun _ _ _ _ _ => (gw_name nd rfl (by first | exact .inl rfl | exact .inr rfl) (by decide))) (fun _ _ _ _ _ => ts_nil) (fun _ _ _ _ _ => (e_and (e_call takes_blk (f_are_numbers Z) (hr.mono (Nat.le_of_ble_eq_true rfl) : Rm 5 _) rfl (z42 Z) (k_are_numbers Z) (a_cons (ev 0) (a_cons (ev 3) a_nil))) (e_one (e_eq hu (e_callB call_len v_len rfl (z36 Z) (by decide +kernel) (a_cons (ev 3) a_nil)) (ev 2)))))) a_nil)))))
theorem f_are_rows (Z : FX K mg) : FnD PP w K mg base 6 ((fun K => He.ga K "are_rows") K) m_are_rows := by
  obtain ⟨fd, F⟩ := Z.df 21 (d := d_are_rows) rfl rfl
  exact fn_ok0 (ps := ["field", "value", "many"]) F ⟨rfl, rfl, rfl, by decide +kernel, rfl, by decide +kernel, by decide +kernel⟩ (fun _ _ _ _ _ _ us hl => match us, hl with | [_, _, _], _ => rfl) (c_are_rows Z)
theorem k_are_rows (Z : FX K mg) : PySem.W.keepIn K (.ref ((fun K => He.ga K "are_rows") K)) = true := Z.keep 21 (d := d_are_rows) rfl
noncomputable def b_are_tables : DS := seqS (ifS (orT (notT (truM (argM (isiD it0) (consA (vM 2) (consA (cM (.ty "dict")) (nilA)))))) (blM (binM neD (argM lenX (consA (vM 2) (nilA))) (argM lenX (consA (vM 1) (nilA)))))) (retS (cM (.bl false))) (skipS)) (retS (argM (allD) (consA (lcM false (seqI (vM 1)) (nameG 4) (yesM) (andV ((binM (inD false) (vM 4) (vM 2))) (callM m_are_rows (consA (vM 0) (consA (binM idxD (vM 2) (vM 4)) (consA (vM 3) (nilA)))))) [4]) (nilA))))
noncomputable def m_are_tables : DF := bodyM 4 [] 5 b_are_tables
theorem c_are_tables (Z : FX K mg) {f : Addr} : BodyD PP w K mg base ["field", "letters", "value", "many", "letter"] "are_tables" (defScope s_are_tables) f 6 (defBody s_are_tables) b_are_tables := by
  intro cdv A outer s H E hr
  have nd : (["field", "letters", "value", "many", "letter"] : List Str).Nodup := by decide +kernel
  have tk : Takes (cxOf (L2.CX PP w) PP w K mg base ["field", "letters", "value", "many", "letter"] "are_tables" (defScope s_are_tables) f cdv A outer s H E) (fun c d _ H' => E c d H') := takes_of rfl rfl rfl rfl
  have hp := passes_of (X := cxOf (L2.CX PP w) PP w K mg base ["field", "letters", "value", "many", "letter"] "are_tables" (defScope s_are_tables) f cdv A outer s H E) rfl
  have hu := hr.rm.units
  have hu1 : _ + 1 < cLine := Nat.lt_of_le_of_lt (Nat.add_le_add_left (by decide : 1 ≤ 64) _) hu
  exact (s_cons (s_if (PW.pt (w_or (t_not (t_truth (e_callB call_isi (v_isi (z_isi Z)) rfl (z19 Z) (by decide +kernel) (a_cons (ev 2) (a_cons (e_ty (n := "dict") rfl (z43 Z) (by decide +kernel)) a_nil))))) (w_or1 (t_ne hu (e_callB call_lenX v_lenX rfl (z36 Z) (by decide +kernel) (a_cons (ev 2) a_nil)) (e_callB call_lenX v_lenX rfl (z36 Z) (by decide +kernel) (a_cons (ev 1) a_nil)))))) (s_one (s_ret e_bl)) s_nil)
    (s_one (s_ret (e_callB (cr_all rfl) v_all rfl (z28 Z) (by decide +kernel) (a_cons (e_lc false rfl nd (i_seq (ev 1)) (own := ([("letter", 4)] : List (Str × Nat))) (show BlkOk ["field", "letters", "value", "many", "letter"] (defScope s_are_tables) _ _ from ⟨rfl, by decide +kernel, by decide +kernel, by decide +kernel, by decide +kernel⟩) (fun _ _ _ _ _ => (gw_name nd rfl (by first | exact .inl rfl | exact .inr rfl) (by decide))) (fun _ _ _ _ _ => ts_nil) (fun _ _ _ _ _ => (e_and (e_in hu1 (ev 4) (ev 2)) (e_one (e_call takes_blk (f_are_rows Z) (hr.mono (Nat.le_of_ble_eq_true rfl) : Rm 6 _) rfl (z44 Z) (k_are_rows Z) (a_cons (ev 0) (a_cons (e_idx hu1 (ev 2) (ev 4)) (a_cons (ev 3) a_nil)))))))) a_nil)))))
theorem f_are_tables (Z : FX K mg) : FnD PP w K mg base 7 ((fun K => He.ga K "are_tables") K) m_are_tables := by
  obtain ⟨fd, F⟩ := Z.df 22 (d := d_are_tables) rfl rfl
  exact fn_ok0 (ps := ["field", "letters", "value", "many"]) F ⟨rfl, rfl, rfl, by decide +kernel, rfl, by decide +kernel, by decide +kernel⟩ (fun _ _ _ _ _ _ us hl => match us, hl with | [_, _, _, _], _ => rfl) (c_are_tables Z)
theorem k_are_tables (Z : FX K mg) : PySem.W.keepIn K (.ref ((fun K => He.ga K "are_tables") K)) = true := Z.keep 22 (d := d_are_tables) rfl
noncomputable def b_wrong_part : DS := seqS (ifS (notT (truM (argM (isiD it0) (consA (vM 0) (consA (cM (.glo "Field")) (nilA)))))) (retS (cM (.str "field"))) (skipS)) (seqS (ifS (notT (truM (callM m_are_letters (consA (vM 1) (nilA))))) (retS (cM (.str "letters"))) (skipS)) (seqS (ifS (notT (truM (callM m_are_numbers (consA (vM 0) (consA (vM 2) (nilA)))))) (retS (cM (.str "start"))) (skipS)) (seqS (ifS (orT (notT (truM (callM m_are_numbers (consA (vM 0) (consA (vM 4) (nilA)))))) (blM (binM neD (argM (lenD) (consA (vM 4) (nilA))) (argM (lenD) (consA (vM 2) (nilA)))))) (retS (cM (.str "ends"))) (skipS)) (retS (ifM (truM (callM m_are_tables (consA (vM 0) (consA (vM 1) (consA (vM 3) (consA (argM (lenD) (consA (vM 2) (nilA))) (nilA))))))) (cM .non) (cM (.str "tables")))))))
noncomputable def m_wrong_part : DF := bodyM 5 [] 5 b_wrong_part
theorem c_wrong_part (Z : FX K mg) {f : Addr} : BodyD PP w K mg base ["field", "letters", "start", "tables", "ends"] "wrong_part" (defScope s_wrong_part) f 7 (defBody s_wrong_part) b_wrong_part := by
  intro cdv A outer s H E hr
  have nd : (["field", "letters", "start", "tables", "ends"] : List Str).Nodup := by decide +kernel
  have tk : Takes (cxOf (L2.CX PP w) PP w K mg base ["field", "letters", "start", "tables", "ends"] "wrong_part" (defScope s_wrong_part) f cdv A outer s H E) (fun c d _ H' => E c d H') := takes_of rfl rfl rfl rfl
  have hp := passes_of (X := cxOf (L2.CX PP w) PP w K mg base ["field", "letters", "start", "tables", "ends"] "wrong_part" (defScope s_wrong_part) f cdv A outer s H E) rfl
  have hu := hr.rm.units
  have hu1 : _ + 1 < cLine := Nat.lt_of_le_of_lt (Nat.add_le_add_left (by decide : 1 ≤ 64) _) hu
  exact (s_cons (s_if (t_not (t_truth (e_callB call_isi (v_isi (z_isi Z)) rfl (z19 Z) (by decide +kernel) (a_cons (ev 0) (a_cons (e_glo rfl (z45 Z)) a_nil))))) (s_one (s_ret e_str)) s_nil)
    (s_cons (s_if (t_not (t_truth (e_call tk (f_are_letters Z) (hr.mono (Nat.le_of_ble_eq_true rfl) : Rm 1 _) rfl (z46 Z) (k_are_letters Z) (a_cons (ev 1) a_nil)))) (s_one (s_ret e_str)) s_nil)
    (s_cons (s_if (t_not (t_truth (e_call tk (f_are_numbers Z) (hr.mono (Nat.le_of_ble_eq_true rfl) : Rm 5 _) rfl (z42 Z) (k_are_numbers Z) (a_cons (ev 0) (a_cons (ev 2) a_nil))))) (s_one (s_ret e_str)) s_nil)
    (s_cons (s_if (PW.pt (w_or (t_not (t_truth (e_call tk (f_are_numbers Z) (hr.mono (Nat.le_of_ble_eq_true rfl) : Rm 5 _) rfl (z42 Z) (k_are_numbers Z) (a_cons (ev 0) (a_cons (ev 4) a_nil))))) (w_or1 (t_ne hu (e_callB call_len v_len rfl (z36 Z) (by decide +kernel) (a_cons (ev 4) a_nil)) (e_callB call_len v_len rfl (z36 Z) (by decide +kernel) (a_cons (ev 2) a_nil)))))) (s_one (s_ret e_str)) s_nil)
    (s_one (s_ret (e_if (t_truth (e_call tk (f_are_tables Z) (hr.mono (Nat.le_of_ble_eq_true rfl) : Rm 7 _) rfl (z47 Z) (k_are_tables Z) (a_cons (ev 0) (a_cons (ev 1) (a_cons (ev 3) (a_cons (e_callB call_len v_len rfl (z36 Z) (by decide +kernel) (a_cons (ev 2) a_nil)) a_nil)))))) e_non e_str)))))))
theorem f_wrong_part (Z : FX K mg) : FnD PP w K mg base 8 ((fun K => He.ga K "wrong_part") K) m_wrong_part := by
  obtain ⟨fd, F⟩ := Z.df 23 (d := d_wrong_part) rfl rfl
  exact fn_ok0 (ps := ["field", "letters", "start", "tables", "ends"]) F ⟨rfl, rfl, rfl, by decide +kernel, rfl, by decide +kernel, by decide +kernel⟩ (fun _ _ _ _ _ _ us hl => match us, hl with | [_, _, _, _, _], _ => rfl) (c_wrong_part Z)
theorem k_wrong_part (Z : FX K mg) : PySem.W.keepIn K (.ref ((fun K => He.ga K "wrong_part") K)) = true := Z.keep 23 (d := d_wrong_part) rfl
noncomputable def b_Machine___init__ : DS := seqS (setS 6 (callM m_wrong_part (consA (vM 1) (consA (vM 2) (consA (vM 3) (consA (vM 4) (consA (vM 5) (nilA)))))))) (seqS (ifS (blM (binM isNotNoneD (vM 6) (cM .non))) (raiseS "InvalidMachine" "part" (consA (vM 6) (nilA))) (skipS)) (seqS (exprS (callM m_need_states (consA (argM (lenD) (consA (vM 3) (nilA))) (nilA)))) (seqS (fldS ["Machine", "Modulo"] "own_field" (vM 0) (vM 1)) (seqS (fldS ["Machine", "Modulo"] "own_letters" (vM 0) (vM 2)) (seqS (fldS ["Machine", "Modulo"] "own_start" (vM 0) (argM (tupleD) (consA (vM 3) (nilA)))) (seqS (fldS ["Machine", "Modulo"] "own_size" (vM 0) (argM (lenD) (consA (attrM [("Machine", .fld), ("Modulo", .fld)] "own_start" (vM 0)) (nilA)))) (seqS (fldS ["Machine", "Modulo"] "own_ends" (vM 0) (argM (tupleD) (consA (vM 5) (nilA)))) (seqS (fldS ["Machine", "Modulo"] "own_tables" (vM 0) (callM m_kept_tables (consA (vM 2) (consA (vM 4) (nilA))))) (fldS ["Machine", "Modulo"] "own_columns" (vM 0) (dcM (seqI (vM 2)) (nameG 7) (yesM) (vM 7) (callM m_columns_of (consA (binM idxD (attrM [("Machine", .fld), ("Modulo", .fld)] "own_tables" (vM 0)) (vM 7)) (nilA))) [7]))))))))))
noncomputable def m_Machine___init__ : DF := bodyM 6 [] 8 b_Machine___init__
theorem c_Machine___init__ (Z : FX K mg) {f : Addr} : BodyD PP w K mg base ["self", "field", "letters", "start", "tables", "ends", "part", "letter"] "Machine.__init__" (defScope s_Machine___init__) f 8 (defBody s_Machine___init__) b_Machine___init__ := by
  intro cdv A outer s H E hr
  have nd : (["self", "field", "letters", "start", "tables", "ends", "part", "letter"] : List Str).Nodup := by decide +kernel
  have tk : Takes (cxOf (L2.CX PP w) PP w K mg base ["self", "field", "letters", "start", "tables", "ends", "part", "letter"] "Machine.__init__" (defScope s_Machine___init__) f cdv A outer s H E) (fun c d _ H' => E c d H') := takes_of rfl rfl rfl rfl
  have hp := passes_of (X := cxOf (L2.CX PP w) PP w K mg base ["self", "field", "letters", "start", "tables", "ends", "part", "letter"] "Machine.__init__" (defScope s_Machine___init__) f cdv A outer s H E) rfl
  have hu := hr.rm.units
  have hu1 : _ + 1 < cLine := Nat.lt_of_le_of_lt (Nat.add_le_add_left (by decide : 1 ≤ 64) _) hu
  exact (s_cons (s_set nd rfl (by first | exact .inl rfl | exact .inr rfl) (e_call tk (f_wrong_part Z) (hr.mono (Nat.le_of_ble_eq_true rfl) : Rm 8 _) rfl (z48 Z) (k_wrong_part Z) (a_cons (ev 1) (a_cons (ev 2) (a_cons (ev 3) (a_cons (ev 4) (a_cons (ev 5) a_nil)))))))
    (s_cons (s_if (t_notN (ev 6) e_non) (s_one (raise_row1 (x_InvalidMachine Z) fun fd h => s_raise1 rfl tk ⟨((z1 Z)).1, ((z1 Z)).2.1, ((z1 Z)).2.2⟩ h.1 ((hr.mono (Nat.le_of_ble_eq_true rfl) : Rm 2 _)).rm h.2 rfl (z49 Z) (a_cons (ev 6) a_nil))) s_nil)
    (s_cons (s_expr (e_call tk (f_need_states Z) (hr.mono (Nat.le_of_ble_eq_true rfl) : Rm 3 _) rfl (z50 Z) (k_need_states Z) (a_cons (e_callB call_len v_len rfl (z36 Z) (by decide +kernel) (a_cons (ev 3) a_nil)) a_nil)))
    (s_cons (s_fld (List.forall_mem_cons.2 ⟨⟨(z12 Z), (z52 Z)⟩, (List.forall_mem_cons.2 ⟨⟨(z10 Z), (z51 Z)⟩, (List.forall_mem_nil _)⟩)⟩) (ev 0) (ev 1))
    (s_cons (s_fld (List.forall_mem_cons.2 ⟨⟨(z12 Z), (z54 Z)⟩, (List.forall_mem_cons.2 ⟨⟨(z10 Z), (z53 Z)⟩, (List.forall_mem_nil _)⟩)⟩) (ev 0) (ev 2))
    (s_cons (s_fld (List.forall_mem_cons.2 ⟨⟨(z12 Z), (z56 Z)⟩, (List.forall_mem_cons.2 ⟨⟨(z10 Z), (z55 Z)⟩, (List.forall_mem_nil _)⟩)⟩) (ev 0) (e_callTy call_tuple_of v_tuple rfl (z23 Z) (by decide +kernel) (a_cons (ev 3) a_nil)))
    (s_cons (s_fld (List.forall_mem_cons.2 ⟨⟨(z12 Z), (z58 Z)⟩, (List.forall_mem_cons.2 ⟨⟨(z10 Z), (z57 Z)⟩, (List.forall_mem_nil _)⟩)⟩) (ev 0) (e_callB call_len v_len rfl (z36 Z) (by decide +kernel) (a_cons (e_attr (.fld (z12 Z) (z56 Z) (.fld (z10 Z) (z55 Z) .nil)) (ev 0)) a_nil)))
    (s_cons (s_fld (List.forall_mem_cons.2 ⟨⟨(z12 Z), (z60 Z)⟩, (List.forall_mem_cons.2 ⟨⟨(z10 Z), (z59 Z)⟩, (List.forall_mem_nil _)⟩)⟩) (ev 0) (e_callTy call_tuple_of v_tuple rfl (z23 Z) (by decide +kernel) (a_cons (ev 5) a_nil)))
    (s_cons (s_fld (List.forall_mem_cons.2 ⟨⟨(z12 Z), (z63 Z)⟩, (List.forall_mem_cons.2 ⟨⟨(z10 Z), (z62 Z)⟩, (List.forall_mem_nil _)⟩)⟩) (ev 0) (e_call tk (f_kept_tables Z) (hr.mono (Nat.le_of_ble_eq_true rfl) : Rm 1 _) rfl (z61 Z) (k_kept_tables Z) (a_cons (ev 2) (a_cons (ev 4) a_nil))))
    (s_one (s_fld (List.forall_mem_cons.2 ⟨⟨(z12 Z), (z66 Z)⟩, (List.forall_mem_cons.2 ⟨⟨(z10 Z), (z65 Z)⟩, (List.forall_mem_nil _)⟩)⟩) (ev 0) (e_dc rfl nd (i_seq (ev 2)) (own := ([("letter", 7)] : List (Str × Nat))) (show BlkOk ["self", "field", "letters", "start", "tables", "ends", "part", "letter"] (defScope s_Machine___init__) _ _ from ⟨rfl, by decide +kernel, by decide +kernel, by decide +kernel, by decide +kernel⟩) (fun _ _ _ _ _ => (gw_name nd rfl (by first | exact .inl rfl | exact .inr rfl) (by decide))) (fun _ _ _ _ _ => ts_nil) (fun _ _ _ _ _ => (ev 7)) (fun _ _ _ _ _ => (e_call takes_blk (f_columns_of Z) (hr.mono (Nat.le_of_ble_eq_true rfl) : Rm 1 _) rfl (z64 Z) (k_columns_of Z) (a_cons (e_idx hu1 (e_attr (.fld (z12 Z) (z63 Z) (.fld (z10 Z) (z62 Z) .nil)) (ev 0)) (ev 7)) a_nil)))))))))))))))
theorem f_Machine___init__ (Z : FX K mg) : FnD PP w K mg base 9 ((fun K => He.ma K (He.ga K "Machine") "__init__") K) m_Machine___init__ := by
  obtain ⟨fd, F⟩ := Z.df 24 (d := d_Machine___init__) rfl rfl
  exact fn_ok0 (ps := ["self", "field", "letters", "start", "tables", "ends"]) F ⟨rfl, rfl, rfl, by decide +kernel, rfl, by decide +kernel, by decide +kernel⟩ (fun _ _ _ _ _ _ us hl => match us, hl with | [_, _, _, _, _, _], _ => rfl) (c_Machine___init__ Z)
theorem f_Machine___init___at_Machine (Z : FX K mg) : FnD PP w K mg base 9 (He.ma K (He.ga K "Machine") "__init__") m_Machine___init__ := f_Machine___init__ Z
noncomputable def b_Machine_ended : DS := retS (methM [("Modulo", m_Field_dot)] "dot" (attrM [("Machine", .fld), ("Modulo", .fld)] "own_field" (vM 0)) (consA (vM 1) (consA (attrM [("Machine", .fld), ("Modulo", .fld)] "own_ends" (vM 0)) (nilA))))
noncomputable def m_Machine_ended : DF := bodyM 2 [] 2 b_Machine_ended
theorem c_Machine_ended (Z : FX K mg) {f : Addr} : BodyD PP w K mg base ["self", "state"] "Machine.ended" (defScope s_Machine_ended) f 2 (defBody s_Machine_ended) b_Machine_ended := by
  intro cdv A outer s H E hr
  have nd : (["self", "state"] : List Str).Nodup := by decide +kernel
  have tk : Takes (cxOf (L2.CX PP w) PP w K mg base ["self", "state"] "Machine.ended" (defScope s_Machine_ended) f cdv A outer s H E) (fun c d _ H' => E c d H') := takes_of rfl rfl rfl rfl
  have hp := passes_of (X := cxOf (L2.CX PP w) PP w K mg base ["self", "state"] "Machine.ended" (defScope s_Machine_ended) f cdv A outer s H E) rfl
  have hu := hr.rm.units
  have hu1 : _ + 1 < cLine := Nat.lt_of_le_of_lt (Nat.add_le_add_left (by decide : 1 ≤ 64) _) hu
  exact (s_one (s_ret (e_meth tk (.cons ⟨(z10 Z), _, 2, (z67 Z), f_Field_dot_at_Modulo Z, (hr.mono (Nat.le_of_ble_eq_true rfl) : Rm 2 _)⟩ .nil) (e_attr (.fld (z12 Z) (z52 Z) (.fld (z10 Z) (z51 Z) .nil)) (ev 0)) (a_cons (ev 1) (a_cons (e_attr (.fld (z12 Z) (z60 Z) (.fld (z10 Z) (z59 Z) .nil)) (ev 0)) a_nil)))))
theorem f_Machine_ended (Z : FX K mg) : FnD PP w K mg base 3 ((fun K => He.ma K (He.ga K "Machine") "ended") K) m_Machine_ended := by
  obtain ⟨fd, F⟩ := Z.df 25 (d := d_Machine_ended) rfl rfl
  exact fn_ok0 (ps := ["self", "state"]) F ⟨rfl, rfl, rfl, by decide +kernel, rfl, by decide +kernel, by decide +kernel⟩ (fun _ _ _ _ _ _ us hl => match us, hl with | [_, _], _ => rfl) (c_Machine_ended Z)
theorem f_Machine_ended_at_Machine (Z : FX K mg) : FnD PP w K mg base 3 (He.ma K (He.ga K "Machine") "ended") m_Machine_ended := f_Machine_ended Z
noncomputable def b_Machine_stepped : DS := retS (argM (tupleD) (consA (lcM false (seqI (binM idxD (attrM [("Machine", .fld), ("Modulo", .fld)] "own_columns" (vM 0)) (vM 2))) (nameG 3) (yesM) (methM [("Modulo", m_Field_dot)] "dot" (attrM [("Machine", .fld), ("Modulo", .fld)] "own_field" (vM 0)) (consA (vM 1) (consA (vM 3) (nilA)))) [3]) (nilA)))
noncomputable def m_Machine_stepped : DF := bodyM 3 [] 4 b_Machine_stepped
theorem c_Machine_stepped (Z : FX K mg) {f : Addr} : BodyD PP w K mg base ["self", "state", "letter", "column"] "Machine.stepped" (defScope s_Machine_stepped) f 2 (defBody s_Machine_stepped) b_Machine_stepped := by
  intro cdv A outer s H E hr
  have nd : (["self", "state", "letter", "column"] : List Str).Nodup := by decide +kernel
  have tk : Takes (cxOf (L2.CX PP w) PP w K mg base ["self", "state", "letter", "column"] "Machine.stepped" (defScope s_Machine_stepped) f cdv A outer s H E) (fun c d _ H' => E c d H') := takes_of rfl rfl rfl rfl
  have hp := passes_of (X := cxOf (L2.CX PP w) PP w K mg base ["self", "state", "letter", "column"] "Machine.stepped" (defScope s_Machine_stepped) f cdv A outer s H E) rfl
  have hu := hr.rm.units
  have hu1 : _ + 1 < cLine := Nat.lt_of_le_of_lt (Nat.add_le_add_left (by decide : 1 ≤ 64) _) hu
  exact (s_one (s_ret (e_callTy call_tuple_of v_tuple rfl (z23 Z) (by decide +kernel) (a_cons (e_lc false rfl nd (i_seq (e_idx hu1 (e_attr (.fld (z12 Z) (z66 Z) (.fld (z10 Z) (z65 Z) .nil)) (ev 0)) (ev 2))) (own := ([("column", 3)] : List (Str × Nat))) (show BlkOk ["self", "state", "letter", "column"] (defScope s_Machine_stepped) _ _ from ⟨rfl, by decide +kernel, by decide +kernel, by decide +kernel, by decide +kernel⟩) (fun _ _ _ _ _ => (gw_name nd rfl (by first | exact .inl rfl | exact .inr rfl) (by decide))) (fun _ _ _ _ _ => ts_nil) (fun _ _ _ _ _ => (e_meth takes_blk (.cons ⟨(z10 Z), _, 2, (z67 Z), f_Field_dot_at_Modulo Z, (hr.mono (Nat.le_of_ble_eq_true rfl) : Rm 2 _)⟩ .nil) (e_attr (.fld (z12 Z) (z52 Z) (.fld (z10 Z) (z51 Z) .nil)) (ev 0)) (a_cons (ev 1) (a_cons (ev 3) a_nil))))) a_nil))))
theorem f_Machine_stepped (Z : FX K mg) : FnD PP w K mg base 3 ((fun K => He.ma K (He.ga K "Machine") "stepped") K) m_Machine_stepped := by
  obtain ⟨fd, F⟩ := Z.df 26 (d := d_Machine_stepped) rfl rfl
  exact fn_ok0 (ps := ["self", "state", "letter"]) F ⟨rfl, rfl, rfl, by decide +kernel, rfl, by decide +kernel, by decide +kernel⟩ (fun _ _ _ _ _ _ us hl => match us, hl with | [_, _, _], _ => rfl) (c_Machine_stepped Z)
theorem f_Machine_stepped_at_Machine (Z : FX K mg) : FnD PP w K mg base 3 (He.ma K (He.ga K "Machine") "stepped") m_Machine_stepped := f_Machine_stepped Z
noncomputable def b_Machine_run : DS := seqS (forS (seqI (vM 2)) (nameG 3) (setS 1 (methM [("Machine", m_Machine_stepped)] "stepped" (vM 0) (consA (vM 1) (consA (vM 3) (nilA)))))) (retS (vM 1))
noncomputable def m_Machine_run : DF := bodyM 3 [] 4 b_Machine_run
theorem c_Machine_run (Z : FX K mg) {f : Addr} : BodyD PP w K mg base ["self", "state", "word", "letter"] "Machine.run" (defScope s_Machine_run) f 3 (defBody s_Machine_run) b_Machine_run := by
  intro cdv A outer s H E hr
  have nd : (["self", "state", "word", "letter"] : List Str).Nodup := by decide +kernel
  have tk : Takes (cxOf (L2.CX PP w) PP w K mg base ["self", "state", "word", "letter"] "Machine.run" (defScope s_Machine_run) f cdv A outer s H E) (fun c d _ H' => E c d H') := takes_of rfl rfl rfl rfl
  have hp := passes_of (X := cxOf (L2.CX PP w) PP w K mg base ["self", "state", "word", "letter"] "Machine.run" (defScope s_Machine_run) f cdv A outer s H E) rfl
  have hu := hr.rm.units
  have hu1 : _ + 1 < cLine := Nat.lt_of_le_of_lt (Nat.add_le_add_left (by decide : 1 ≤ 64) _) hu
  exact (s_cons (s_for hp rfl (i_seq (ev 2)) (g_name nd rfl (by first | exact .inl rfl | exact .inr rfl)) (s_one (s_set nd rfl (by first | exact .inl rfl | exact .inr rfl) (e_meth tk (.cons ⟨(z12 Z), _, 3, (z68 Z), f_Machine_stepped_at_Machine Z, (hr.mono (Nat.le_of_ble_eq_true rfl) : Rm 3 _)⟩ .nil) (ev 0) (a_cons (ev 1) (a_cons (ev 3) a_nil))))))
    (s_one (s_ret (ev 1))))
theorem f_Machine_run (Z : FX K mg) : FnD PP w K mg base 4 ((fun K => He.ma K (He.ga K "Machine") "run") K) m_Machine_run := by
  obtain ⟨fd, F⟩ := Z.df 27 (d := d_Machine_run) rfl rfl
  exact fn_ok0 (ps := ["self", "state", "word"]) F ⟨rfl, rfl, rfl, by decide +kernel, rfl, by decide +kernel, by decide +kernel⟩ (fun _ _ _ _ _ _ us hl => match us, hl with | [_, _, _], _ => rfl) (c_Machine_run Z)
theorem f_Machine_run_at_Machine (Z : FX K mg) : FnD PP w K mg base 4 (He.ma K (He.ga K "Machine") "run") m_Machine_run := f_Machine_run Z
noncomputable def b_is_word : DS := seqS (ifS (orT (notT (truM (argM (isiD it0) (consA (vM 1) (consA (cM (.ty "str")) (nilA)))))) (blM (binM gtI (argM (lenD) (consA (vM 1) (nilA))) (vM 2)))) (retS (cM (.bl false))) (skipS)) (retS (argM (allD) (consA (lcM false (seqI (vM 1)) (nameG 3) (yesM) ((binM (inD false) (vM 3) (vM 0))) [3]) (nilA))))
noncomputable def m_is_word : DF := bodyM 3 [.int 160] 4 b_is_word
theorem c_is_word (Z : FX K mg) {f : Addr} : BodyD PP w K mg base ["letters", "value", "most", "letter"] "is_word" (defScope s_is_word) f 0 (defBody s_is_word) b_is_word := by
  intro cdv A outer s H E hr
  have nd : (["letters", "value", "most", "letter"] : List Str).Nodup := by decide +kernel
  have tk : Takes (cxOf (L2.CX PP w) PP w K mg base ["letters", "value", "most", "letter"] "is_word" (defScope s_is_word) f cdv A outer s H E) (fun c d _ H' => E c d H') := takes_of rfl rfl rfl rfl
  have hp := passes_of (X := cxOf (L2.CX PP w) PP w K mg base ["letters", "value", "most", "letter"] "is_word" (defScope s_is_word) f cdv A outer s H E) rfl
  have hu := hr.rm.units
  have hu1 : _ + 1 < cLine := Nat.lt_of_le_of_lt (Nat.add_le_add_left (by decide : 1 ≤ 64) _) hu
  exact (s_cons (s_if (PW.pt (w_or (t_not (t_truth (e_callB call_isi (v_isi (z_isi Z)) rfl (z19 Z) (by decide +kernel) (a_cons (ev 1) (a_cons (e_ty (n := "str") rfl (z35 Z) (by decide +kernel)) a_nil))))) (w_or1 (t_gt (e_callB call_len v_len rfl (z36 Z) (by decide +kernel) (a_cons (ev 1) a_nil)) (ev 2))))) (s_one (s_ret e_bl)) s_nil)
    (s_one (s_ret (e_callB (cr_all rfl) v_all rfl (z28 Z) (by decide +kernel) (a_cons (e_lc false rfl nd (i_seq (ev 1)) (own := ([("letter", 3)] : List (Str × Nat))) (show BlkOk ["letters", "value", "most", "letter"] (defScope s_is_word) _ _ from ⟨rfl, by decide +kernel, by decide +kernel, by decide +kernel, by decide +kernel⟩) (fun _ _ _ _ _ => (gw_name nd rfl (by first | exact .inl rfl | exact .inr rfl) (by decide))) (fun _ _ _ _ _ => ts_nil) (fun _ _ _ _ _ => (e_in hu1 (ev 3) (ev 0)))) a_nil)))))
theorem f_is_word (Z : FX K mg) : FnD PP w K mg base 1 ((fun K => He.ga K "is_word") K) m_is_word := by
  obtain ⟨fd, F⟩ := Z.df 28 (d := d_is_word) rfl rfl
  exact fn_ok (ps := ["letters", "value", "most"]) (dd := [.int 160]) F ⟨rfl, rfl, rfl, by decide +kernel, rfl, by decide +kernel, by decide +kernel⟩ (fun _ => .cons (.int 160) (.nil)) (fun j hj => match j, hj with
    | 0, _ => F.binds1 2 0 (fun h => nomatch h) rfl (fun _ _ _ _ _ _ _ us its h1 h2 => match us, h1, its, h2 with | [_, _], _, [_], _ => ⟨_, rfl, rfl⟩)
    | 1, _ => F.binds1 3 1 (fun h => nomatch h) rfl (fun _ _ _ _ _ _ _ us its h1 h2 => match us, h1, its, h2 with | [_, _, _], _, [_], _ => ⟨_, rfl, rfl⟩)
    | j + 2, h => absurd h (by show ¬ (j + 2 ≤ 1); omega)) (c_is_word Z)
theorem k_is_word (Z : FX K mg) : PySem.W.keepIn K (.ref ((fun K => He.ga K "is_word") K)) = true := Z.keep 28 (d := d_is_word) rfl
noncomputable def b_need_word : DS := ifS (notT (truM (callM m_is_word (consA (vM 0) (consA (vM 1) (consA (vM 2) (nilA))))))) (raiseS "InvalidWord" "value" (consA (vM 1) (nilA))) (skipS)
noncomputable def m_need_word : DF := bodyM 3 [.int 160] 3 b_need_word
theorem c_need_word (Z : FX K mg) {f : Addr} : BodyD PP w K mg base ["letters", "value", "most"] "need_word" (defScope s_need_word) f 2 (defBody s_need_word) b_need_word := by
  intro cdv A outer s H E hr
  have nd : (["letters", "value", "most"] : List Str).Nodup := by decide +kernel
  have tk : Takes (cxOf (L2.CX PP w) PP w K mg base ["letters", "value", "most"] "need_word" (defScope s_need_word) f cdv A outer s H E) (fun c d _ H' => E c d H') := takes_of rfl rfl rfl rfl
  have hp := passes_of (X := cxOf (L2.CX PP w) PP w K mg base ["letters", "value", "most"] "need_word" (defScope s_need_word) f cdv A outer s H E) rfl
  have hu := hr.rm.units
  have hu1 : _ + 1 < cLine := Nat.lt_of_le_of_lt (Nat.add_le_add_left (by decide : 1 ≤ 64) _) hu
  exact (s_one (s_if (t_not (t_truth (e_call tk (f_is_word Z) (hr.mono (Nat.le_of_ble_eq_true rfl) : Rm 1 _) rfl (z69 Z) (k_is_word Z) (a_cons (ev 0) (a_cons (ev 1) (a_cons (ev 2) a_nil)))))) (s_one (raise_row1 (x_InvalidWord Z) fun fd h => s_raise1 rfl tk ⟨((z5 Z)).1, ((z5 Z)).2.1, ((z5 Z)).2.2⟩ h.1 ((hr.mono (Nat.le_of_ble_eq_true rfl) : Rm 2 _)).rm h.2 rfl (z70 Z) (a_cons (ev 1) a_nil))) s_nil))
theorem f_need_word (Z : FX K mg) : FnD PP w K mg base 3 ((fun K => He.ga K "need_word") K) m_need_word := by
  obtain ⟨fd, F⟩ := Z.df 29 (d := d_need_word) rfl rfl
  exact fn_ok (ps := ["letters", "value", "most"]) (dd := [.int 160]) F ⟨rfl, rfl, rfl, by decide +kernel, rfl, by decide +kernel, by decide +kernel⟩ (fun _ => .cons (.int 160) (.nil)) (fun j hj => match j, hj with
    | 0, _ => F.binds1 2 0 (fun h => nomatch h) rfl (fun _ _ _ _ _ _ _ us its h1 h2 => match us, h1, its, h2 with | [_, _], _, [_], _ => ⟨_, rfl, rfl⟩)
    | 1, _ => F.binds1 3 1 (fun h => nomatch h) rfl (fun _ _ _ _ _ _ _ us its h1 h2 => match us, h1, its, h2 with | [_, _, _], _, [_], _ => ⟨_, rfl, rfl⟩)
    | j + 2, h => absurd h (by show ¬ (j + 2 ≤ 1); omega)) (c_need_word Z)
theorem k_need_word (Z : FX K mg) : PySem.W.keepIn K (.ref ((fun K => He.ga K "need_word") K)) = true := Z.keep 29 (d := d_need_word) rfl
noncomputable def b_Machine_state_after : DS := seqS (exprS (callM m_need_word (consA (attrM [("Machine", .fld), ("Modulo", .fld)] "own_letters" (vM 0)) (consA (vM 1) (nilA))))) (retS (methM [("Machine", m_Machine_run)] "run" (vM 0) (consA (attrM [("Machine", .fld), ("Modulo", .fld)] "own_start" (vM 0)) (consA (vM 1) (nilA)))))
noncomputable def m_Machine_state_after : DF := bodyM 2 [] 2 b_Machine_state_after
theorem c_Machine_state_after (Z : FX K mg) {f : Addr} : BodyD PP w K mg base ["self", "word"] "Machine.state_after" (defScope s_Machine_state_after) f 4 (defBody s_Machine_state_after) b_Machine_state_after := by
  intro cdv A outer s H E hr
  have nd : (["self", "word"] : List Str).Nodup := by decide +kernel
  have tk : Takes (cxOf (L2.CX PP w) PP w K mg base ["self", "word"] "Machine.state_after" (defScope s_Machine_state_after) f cdv A outer s H E) (fun c d _ H' => E c d H') := takes_of rfl rfl rfl rfl
  have hp := passes_of (X := cxOf (L2.CX PP w) PP w K mg base ["self", "word"] "Machine.state_after" (defScope s_Machine_state_after) f cdv A outer s H E) rfl
  have hu := hr.rm.units
  have hu1 : _ + 1 < cLine := Nat.lt_of_le_of_lt (Nat.add_le_add_left (by decide : 1 ≤ 64) _) hu
  exact (s_cons (s_expr (e_call tk (f_need_word Z) (hr.mono (Nat.le_of_ble_eq_true rfl) : Rm 3 _) rfl (z71 Z) (k_need_word Z) (a_cons (e_attr (.fld (z12 Z) (z54 Z) (.fld (z10 Z) (z53 Z) .nil)) (ev 0)) (a_cons (ev 1) a_nil))))
    (s_one (s_ret (e_meth tk (.cons ⟨(z12 Z), _, 4, (z72 Z), f_Machine_run_at_Machine Z, (hr.mono (Nat.le_of_ble_eq_true rfl) : Rm 4 _)⟩ .nil) (ev 0) (a_cons (e_attr (.fld (z12 Z) (z56 Z) (.fld (z10 Z) (z55 Z) .nil)) (ev 0)) (a_cons (ev 1) a_nil))))))
theorem f_Machine_state_after (Z : FX K mg) : FnD PP w K mg base 5 ((fun K => He.ma K (He.ga K "Machine") "state_after") K) m_Machine_state_after := by
  obtain ⟨fd, F⟩ := Z.df 30 (d := d_Machine_state_after) rfl rfl
  exact fn_ok0 (ps := ["self", "word"]) F ⟨rfl, rfl, rfl, by decide +kernel, rfl, by decide +kernel, by decide +kernel⟩ (fun _ _ _ _ _ _ us hl => match us, hl with | [_, _], _ => rfl) (c_Machine_state_after Z)
theorem f_Machine_state_after_at_Machine (Z : FX K mg) : FnD PP w K mg base 5 (He.ma K (He.ga K "Machine") "state_after") m_Machine_state_after := f_Machine_state_after Z
noncomputable def b_Machine_value_of : DS := retS (methM [("Machine", m_Machine_ended)] "ended" (vM 0) (consA (methM [("Machine", m_Machine_state_after)] "state_after" (vM 0) (consA (vM 1) (nilA))) (nilA)))
noncomputable def m_Machine_value_of : DF := bodyM 2 [] 2 b_Machine_value_of
theorem c_Machine_value_of (Z : FX K mg) {f : Addr} : BodyD PP w K mg base ["self", "word"] "Machine.value_of" (defScope s_Machine_value_of) f 5 (defBody s_Machine_value_of) b_Machine_value_of := by
  intro cdv A outer s H E hr
  have nd : (["self", "word"] : List Str).Nodup := by decide +kernel
  have tk : Takes (cxOf (L2.CX PP w) PP w K mg base ["self", "word"] "Machine.value_of" (defScope s_Machine_value_of) f cdv A outer s H E) (fun c d _ H' => E c d H') := takes_of rfl rfl rfl rfl
  have hp := passes_of (X := cxOf (L2.CX PP w) PP w K mg base ["self", "word"] "Machine.value_of" (defScope s_Machine_value_of) f cdv A outer s H E) rfl
  have hu := hr.rm.units
  have hu1 : _ + 1 < cLine := Nat.lt_of_le_of_lt (Nat.add_le_add_left (by decide : 1 ≤ 64) _) hu
  exact (s_one (s_ret (e_meth tk (.cons ⟨(z12 Z), _, 3, (z73 Z), f_Machine_ended_at_Machine Z, (hr.mono (Nat.le_of_ble_eq_true rfl) : Rm 3 _)⟩ .nil) (ev 0) (a_cons (e_meth tk (.cons ⟨(z12 Z), _, 5, (z74 Z), f_Machine_state_after_at_Machine Z, (hr.mono (Nat.le_of_ble_eq_true rfl) : Rm 5 _)⟩ .nil) (ev 0) (a_cons (ev 1) a_nil)) a_nil))))
theorem f_Machine_value_of (Z : FX K mg) : FnD PP w K mg base 6 ((fun K => He.ma K (He.ga K "Machine") "value_of") K) m_Machine_value_of := by
  obtain ⟨fd, F⟩ := Z.df 31 (d := d_Machine_value_of) rfl rfl
  exact fn_ok0 (ps := ["self", "word"]) F ⟨rfl, rfl, rfl, by decide +kernel, rfl, by decide +kernel, by decide +kernel⟩ (fun _ _ _ _ _ _ us hl => match us, hl with | [_, _], _ => rfl) (c_Machine_value_of Z)
theorem f_Machine_value_of_at_Machine (Z : FX K mg) : FnD PP w K mg base 6 (He.ma K (He.ga K "Machine") "value_of") m_Machine_value_of := f_Machine_value_of Z
noncomputable def b_power : DS := seqS (setS 3 (cM (.int 1))) (seqS (whileS (blM (binM gtI (vM 1) (cM (.int 0)))) (seqS (ifS (blM (binM eqD (binM modD (vM 1) (cM (.int 2))) (cM (.int 1)))) (setS 3 (binM modD (binM mulD (vM 3) (vM 0)) (vM 2))) (skipS)) (seqS (setS 0 (binM modD (binM mulD (vM 0) (vM 0)) (vM 2))) (setS 1 (binM divD (vM 1) (cM (.int 2))))))) (retS (vM 3)))
noncomputable def m_power : DF := bodyM 3 [] 4 b_power
theorem c_power (Z : FX K mg) {f : Addr} : BodyD PP w K mg base ["number", "times", "modulus", "found"] "power" (defScope s_power) f 0 (defBody s_power) b_power := by
  intro cdv A outer s H E hr
  have nd : (["number", "times", "modulus", "found"] : List Str).Nodup := by decide +kernel
  have tk : Takes (cxOf (L2.CX PP w) PP w K mg base ["number", "times", "modulus", "found"] "power" (defScope s_power) f cdv A outer s H E) (fun c d _ H' => E c d H') := takes_of rfl rfl rfl rfl
  have hp := passes_of (X := cxOf (L2.CX PP w) PP w K mg base ["number", "times", "modulus", "found"] "power" (defScope s_power) f cdv A outer s H E) rfl
  have hu := hr.rm.units
  have hu1 : _ + 1 < cLine := Nat.lt_of_le_of_lt (Nat.add_le_add_left (by decide : 1 ≤ 64) _) hu
  exact (s_cons (s_set nd rfl (by first | exact .inl rfl | exact .inr rfl) e_int)
    (s_cons (s_while hp (t_gt (ev 1) e_int) (s_cons (s_if (t_eq hu (e_mod (ev 1) e_int) e_int) (s_one (s_set nd rfl (by first | exact .inl rfl | exact .inr rfl) (e_mod (e_mul (ev 3) (ev 0)) (ev 2)))) s_nil)
    (s_cons (s_set nd rfl (by first | exact .inl rfl | exact .inr rfl) (e_mod (e_mul (ev 0) (ev 0)) (ev 2)))
    (s_one (s_set nd rfl (by first | exact .inl rfl | exact .inr rfl) (e_div (ev 1) e_int))))))
    (s_one (s_ret (ev 3)))))
theorem f_power (Z : FX K mg) : FnD PP w K mg base 1 ((fun K => He.ga K "power") K) m_power := by
  obtain ⟨fd, F⟩ := Z.df 32 (d := d_power) rfl rfl
  exact fn_ok0 (ps := ["number", "times", "modulus"]) F ⟨rfl, rfl, rfl, by decide +kernel, rfl, by decide +kernel, by decide +kernel⟩ (fun _ _ _ _ _ _ us hl => match us, hl with | [_, _, _], _ => rfl) (c_power Z)
theorem k_power (Z : FX K mg) : PySem.W.keepIn K (.ref ((fun K => He.ga K "power") K)) = true := Z.keep 32 (d := d_power) rfl
noncomputable def b_is_witness : DS := seqS (par2S 4 5 (consA (binM subD (vM 1) (cM (.int 1))) (consA (cM (.int 0)) (nilA)))) (seqS (whileS (blM (binM eqD (binM modD (vM 4) (cM (.int 2))) (cM (.int 0)))) (par2S 4 5 (consA (binM divD (vM 4) (cM (.int 2))) (consA (binM addD (vM 5) (cM (.int 1))) (nilA))))) (seqS (setS 2 (callM m_power (consA (vM 0) (consA (vM 4) (consA (vM 1) (nilA)))))) (seqS (ifS (orT (blM (binM eqD (vM 2) (cM (.int 1)))) (blM (binM eqD (vM 2) (binM subD (vM 1) (cM (.int 1)))))) (retS (cM (.bl false))) (skipS)) (seqS (forS (argI rangeD1 (consA (binM subD (vM 5) (cM (.int 1))) (nilA))) (nameG 3) (seqS (setS 2 (binM modD (binM mulD (vM 2) (vM 2)) (vM 1))) (ifS (blM (binM eqD (vM 2) (binM subD (vM 1) (cM (.int 1))))) (retS (cM (.bl false))) (skipS)))) (retS (cM (.bl true)))))))
noncomputable def m_is_witness : DF := bodyM 2 [] 6 b_is_witness
theorem c_is_witness (Z : FX K mg) {f : Addr} : BodyD PP w K mg base ["number", "value", "found", "turn", "odd", "halves"] "is_witness" (defScope s_is_witness) f 1 (defBody s_is_witness) b_is_witness := by
  intro cdv A outer s H E hr
  have nd : (["number", "value", "found", "turn", "odd", "halves"] : List Str).Nodup := by decide +kernel
  have tk : Takes (cxOf (L2.CX PP w) PP w K mg base ["number", "value", "found", "turn", "odd", "halves"] "is_witness" (defScope s_is_witness) f cdv A outer s H E) (fun c d _ H' => E c d H') := takes_of rfl rfl rfl rfl
  have hp := passes_of (X := cxOf (L2.CX PP w) PP w K mg base ["number", "value", "found", "turn", "odd", "halves"] "is_witness" (defScope s_is_witness) f cdv A outer s H E) rfl
  have hu := hr.rm.units
  have hu1 : _ + 1 < cLine := Nat.lt_of_le_of_lt (Nat.add_le_add_left (by decide : 1 ≤ 64) _) hu
  exact (s_cons (s_par2 rfl nd rfl rfl (by decide) rfl rfl (a_cons (e_sub (ev 1) e_int) (a_cons e_int a_nil)))
    (s_cons (s_while hp (t_eq hu (e_mod (ev 4) e_int) e_int) (s_one (s_par2 rfl nd rfl rfl (by decide) rfl rfl (a_cons (e_div (ev 4) e_int) (a_cons (e_add (ev 5) e_int) a_nil)))))
    (s_cons (s_set nd rfl (by first | exact .inl rfl | exact .inr rfl) (e_call tk (f_power Z) (hr.mono (Nat.le_of_ble_eq_true rfl) : Rm 1 _) rfl (z75 Z) (k_power Z) (a_cons (ev 0) (a_cons (ev 4) (a_cons (ev 1) a_nil)))))
    (s_cons (s_if (PW.pt (w_or (t_eq hu (ev 2) e_int) (w_or1 (t_eq hu (ev 2) (e_sub (ev 1) e_int))))) (s_one (s_ret e_bl)) s_nil)
    (s_cons (s_for hp rfl (i_range1 rfl (z24 Z) (a_cons (e_sub (ev 5) e_int) a_nil)) (g_name nd rfl (by first | exact .inl rfl | exact .inr rfl)) (s_cons (s_set nd rfl (by first | exact .inl rfl | exact .inr rfl) (e_mod (e_mul (ev 2) (ev 2)) (ev 1)))
    (s_one (s_if (t_eq hu (ev 2) (e_sub (ev 1) e_int)) (s_one (s_ret e_bl)) s_nil))))
    (s_one (s_ret e_bl)))))))
theorem f_is_witness (Z : FX K mg) : FnD PP w K mg base 2 ((fun K => He.ga K "is_witness") K) m_is_witness := by
  obtain ⟨fd, F⟩ := Z.df 33 (d := d_is_witness) rfl rfl
  exact fn_ok0 (ps := ["number", "value"]) F ⟨rfl, rfl, rfl, by decide +kernel, rfl, by decide +kernel, by decide +kernel⟩ (fun _ _ _ _ _ _ us hl => match us, hl with | [_, _], _ => rfl) (c_is_witness Z)
theorem k_is_witness (Z : FX K mg) : PySem.W.keepIn K (.ref ((fun K => He.ga K "is_witness") K)) = true := Z.keep 33 (d := d_is_witness) rfl
noncomputable def b_is_prime : DS := seqS (ifS (notT (truM (callM m_is_between (consA (vM 0) (consA (cM (.int 2)) (consA (cM (.int 1000000000)) (nilA))))))) (retS (cM (.bl false))) (skipS)) (seqS (forS (seqI (cM (.tup [.int 2, .int 3, .int 5, .int 7, .int 11, .int 13, .int 17, .int 19, .int 23, .int 29, .int 31, .int 37]))) (nameG 1) (ifS (blM (binM eqD (binM modD (vM 0) (vM 1)) (cM (.int 0)))) (retS ((binM eqD (vM 0) (vM 1)))) (skipS))) (retS (notV (argM (anyD) (consA (lcM false (seqI (cM (.tup [.int 2, .int 3, .int 5, .int 7]))) (nameG 2) (yesM) (callM m_is_witness (consA (vM 2) (consA (vM 0) (nilA)))) [2]) (nilA))))))
noncomputable def m_is_prime : DF := bodyM 1 [] 3 b_is_prime
theorem c_is_prime (Z : FX K mg) {f : Addr} : BodyD PP w K mg base ["value", "prime", "number"] "is_prime" (defScope s_is_prime) f 2 (defBody s_is_prime) b_is_prime := by
  intro cdv A outer s H E hr
  have nd : (["value", "prime", "number"] : List Str).Nodup := by decide +kernel
  have tk : Takes (cxOf (L2.CX PP w) PP w K mg base ["value", "prime", "number"] "is_prime" (defScope s_is_prime) f cdv A outer s H E) (fun c d _ H' => E c d H') := takes_of rfl rfl rfl rfl
  have hp := passes_of (X := cxOf (L2.CX PP w) PP w K mg base ["value", "prime", "number"] "is_prime" (defScope s_is_prime) f cdv A outer s H E) rfl
  have hu := hr.rm.units
  have hu1 : _ + 1 < cLine := Nat.lt_of_le_of_lt (Nat.add_le_add_left (by decide : 1 ≤ 64) _) hu
  exact (s_cons (s_if (t_not (t_truth (e_call tk (f_is_between Z) (hr.mono (Nat.le_of_ble_eq_true rfl) : Rm 2 _) rfl (z22 Z) (k_is_between Z) (a_cons (ev 0) (a_cons e_int (a_cons (e_gint rfl (z76 Z)) a_nil)))))) (s_one (s_ret e_bl)) s_nil)
    (s_cons (s_for hp rfl (i_seq (e_gtup rfl (z77 Z) (z78 Z) (fun _ => .cons (.int 2) (.cons (.int 3) (.cons (.int 5) (.cons (.int 7) (.cons (.int 11) (.cons (.int 13) (.cons (.int 17) (.cons (.int 19) (.cons (.int 23) (.cons (.int 29) (.cons (.int 31) (.cons (.int 37) (.nil))))))))))))))) (g_name nd rfl (by first | exact .inl rfl | exact .inr rfl)) (s_one (s_if (t_eq hu (e_mod (ev 0) (ev 1)) e_int) (s_one (s_ret (e_eq hu (ev 0) (ev 1)))) s_nil)))
    (s_one (s_ret (e_not (e_callB (cr_any rfl) v_any rfl (z82 Z) (by decide +kernel) (a_cons (e_lc false rfl nd (i_seq (e_gtup rfl (z79 Z) (z80 Z) (fun _ => .cons (.int 2) (.cons (.int 3) (.cons (.int 5) (.cons (.int 7) (.nil))))))) (own := ([("number", 2)] : List (Str × Nat))) (show BlkOk ["value", "prime", "number"] (defScope s_is_prime) _ _ from ⟨rfl, by decide +kernel, by decide +kernel, by decide +kernel, by decide +kernel⟩) (fun _ _ _ _ _ => (gw_name nd rfl (by first | exact .inl rfl | exact .inr rfl) (by decide))) (fun _ _ _ _ _ => ts_nil) (fun _ _ _ _ _ => (e_call takes_blk (f_is_witness Z) (hr.mono (Nat.le_of_ble_eq_true rfl) : Rm 2 _) rfl (z81 Z) (k_is_witness Z) (a_cons (ev 2) (a_cons (ev 0) a_nil))))) a_nil)))))))
theorem f_is_prime (Z : FX K mg) : FnD PP w K mg base 3 ((fun K => He.ga K "is_prime") K) m_is_prime := by
  obtain ⟨fd, F⟩ := Z.df 34 (d := d_is_prime) rfl rfl
  exact fn_ok0 (ps := ["value"]) F ⟨rfl, rfl, rfl, by decide +kernel, rfl, by decide +kernel, by decide +kernel⟩ (fun _ _ _ _ _ _ us hl => match us, hl with | [_], _ => rfl) (c_is_prime Z)
theorem k_is_prime (Z : FX K mg) : PySem.W.keepIn K (.ref ((fun K => He.ga K "is_prime") K)) = true := Z.keep 34 (d := d_is_prime) rfl
noncomputable def b_Modulo___init__ : DS := seqS (ifS (notT (truM (callM m_is_prime (consA (vM 1) (nilA))))) (raiseS "InvalidPrime" "value" (consA (vM 1) (nilA))) (skipS)) (seqS (superS [("Modulo", m_Field___init__)] (consA (vM 1) (nilA))) (skipS))
noncomputable def m_Modulo___init__ : DF := bodyM 2 [] 3 b_Modulo___init__
theorem f_Modulo___init__ (Z : FX K mg) : FnD PP w K mg base 4 ((fun K => He.ma K (He.ga K "Modulo") "__init__") K) m_Modulo___init__ := by
  obtain ⟨cc, cda, F⟩ := Z.dfS (P := PP) 35 (d := d_Modulo___init__) (C := "Modulo") rfl rfl rfl
  refine fn_sup (N := ["self", "prime", "__class__"]) (ps := ["self", "prime"]) (b := b_Modulo___init__) F ⟨rfl, rfl, rfl, by decide +kernel, rfl, by decide +kernel, by decide +kernel, by decide +kernel, by decide +kernel⟩ (fun _ _ _ _ _ us hl => match us, hl with | [_, _], _ => rfl) fun A outer s H E hr => ?_
  have nd : (["self", "prime", "__class__"] : List Str).Nodup := by decide +kernel
  have tk : Takes (cxS PP w K mg base ["self", "prime", "__class__"] d_Modulo___init__.name d_Modulo___init__.qual d_Modulo___init__.params d_Modulo___init__.body d_Modulo___init__.scope (d_Modulo___init__.ad K) cc cda A outer s H E) (fun c d _ H' => E c d H') := takes_of rfl rfl rfl rfl
  have hp := passes_of (X := cxS PP w K mg base ["self", "prime", "__class__"] d_Modulo___init__.name d_Modulo___init__.qual d_Modulo___init__.params d_Modulo___init__.body d_Modulo___init__.scope (d_Modulo___init__.ad K) cc cda A outer s H E) rfl
  have hu := hr.rm.units
  have hu1 : _ + 1 < cLine := Nat.lt_of_le_of_lt (Nat.add_le_add_left (by decide : 1 ≤ 64) _) hu
  have SX := sup_x (w := w) (mg := mg) (base := base) (N := ["self", "prime", "__class__"]) (A := A) (outer := outer) (s := s) (H := H) (E := E) (me := "self") F rfl rfl rfl rfl rfl rfl (z86 Z) (by kernel_rfl)
  exact (q_cons (s_if (t_not (t_truth (e_call tk (f_is_prime Z) (hr.mono (Nat.le_of_ble_eq_true rfl) : Rm 3 _) rfl (z83 Z) (k_is_prime Z) (a_cons (ev 1) a_nil)))) (s_one (raise_row1 (x_InvalidPrime Z) fun fd h => s_raise1 rfl tk ⟨((z3 Z)).1, ((z3 Z)).2.1, ((z3 Z)).2.2⟩ h.1 ((hr.mono (Nat.le_of_ble_eq_true rfl) : Rm 2 _)).rm h.2 rfl (z84 Z) (a_cons (ev 1) a_nil))) s_nil)
    (q_super tk SX (.cons (Z.supF 85 (g := fun K => He.ma K (He.ga K "Field") "__init__") rfl (f_Field___init__ Z) (hr.mono (Nat.le_of_ble_eq_true rfl) : Rm 1 _)) .nil) (a_cons (ev 1) a_nil) (q_of s_nil)))
theorem f_Modulo___init___at_Modulo (Z : FX K mg) : FnD PP w K mg base 4 (He.ma K (He.ga K "Modulo") "__init__") m_Modulo___init__ := f_Modulo___init__ Z
noncomputable def b__law_draw : DS := seqS (ifS (blM (binM gtI (binM idxD (vM 0) (cM (.str "left"))) (cM (.int 0)))) (seqS (setS 6 (binM modD (argM (intD) (consA (binM idxD (vM 0) (cM (.str "left"))) (nilA))) (vM 1))) (seqS (subS (vM 0) (cM (.str "left")) (binM divD (binM idxD (vM 0) (cM (.str "left"))) (vM 1))) (retS (vM 6)))) (skipS)) (seqS (setS 2 (binM idxD (vM 0) (cM (.str "begun")))) (seqS (subS (vM 0) (cM (.str "begun")) (binM addD (vM 2) (cM (.int 1)))) (seqS (setS 3 (binM addD (binM mulD (cM (.int 53)) (vM 2)) (cM (.int 17)))) (seqS (ifS (blM (binM neD (binM idxD (vM 0) (cM (.str "cells"))) (argM (lstD false) (nilA)))) (setS 3 (binM idxD (binM idxD (vM 0) (cM (.str "cells"))) (binM modD (argM (intD) (consA (vM 2) (nilA))) (argM (lenD) (consA (binM idxD (vM 0) (cM (.str "cells"))) (nilA)))))) (skipS)) (seqS (ifS (andT (blM (binM ltI (vM 2) (argM (lenD) (consA (binM idxD (vM 0) (cM (.str "cells"))) (nilA))))) (blM (binM geI (argM (absD) (consA (vM 3) (nilA))) (binM powD (cM (.int 10)) (cM (.int 18)))))) (seqS (subS (vM 0) (cM (.str "left")) (binM divD (binM subD (argM (absD) (consA (vM 3) (nilA))) (binM powD (cM (.int 10)) (cM (.int 18)))) (vM 1))) (retS (binM modD (argM (intD) (consA (binM subD (argM (absD) (consA (vM 3) (nilA))) (binM powD (cM (.int 10)) (cM (.int 18)))) (nilA))) (vM 1)))) (skipS)) (seqS (setS 4 (binM mulD (binM modD (argM (intD) (consA (vM 3) (nilA))) (cM (.int 4294967197))) (cM (.int 48673)))) (seqS (setS 5 (binM modD (argM (intD) (consA (binM addD (binM addD (vM 4) (binM mulD (vM 2) (binM addD (binM mulD (cM (.int 40009)) (vM 2)) (cM (.int 1511))))) (cM (.int 331))) (nilA))) (cM (.int 4294967189)))) (seqS (setS 5 (binM modD (argM (intD) (consA (binM addD (binM addD (binM addD (binM mulD (vM 5) (vM 5)) (binM mulD (cM (.int 75629)) (vM 5))) (binM mulD (cM (.int 19)) (vM 2))) (cM (.int 7))) (nilA))) (cM (.int 4294967161)))) (retS (binM modD (argM (intD) (consA (binM divD (binM modD (argM (intD) (consA (binM mulD (vM 5) (binM addD (vM 5) (cM (.int 52361)))) (nilA))) (cM (.int 4294967143))) (cM (.int 64))) (nilA))) (vM 1)))))))))))
noncomputable def m__law_draw : DF := bodyM 2 [] 7 b__law_draw
theorem c__law_draw (Z : FX K mg) {f : Addr} : BodyD PP w K mg base ["_law_pen_here", "_law_many", "_law_place", "_law_cell", "_law_mixed", "_law_drawn", "_law_digit"] "_law_draw" (defScope s__law_draw) f 0 (defBody s__law_draw) b__law_draw := by
  intro cdv A outer s H E hr
  have nd : (["_law_pen_here", "_law_many", "_law_place", "_law_cell", "_law_mixed", "_law_drawn", "_law_digit"] : List Str).Nodup := by decide +kernel
  have tk : Takes (cxOf (L2.CX PP w) PP w K mg base ["_law_pen_here", "_law_many", "_law_place", "_law_cell", "_law_mixed", "_law_drawn", "_law_digit"] "_law_draw" (defScope s__law_draw) f cdv A outer s H E) (fun c d _ H' => E c d H') := takes_of rfl rfl rfl rfl
  have hp := passes_of (X := cxOf (L2.CX PP w) PP w K mg base ["_law_pen_here", "_law_many", "_law_place", "_law_cell", "_law_mixed", "_law_drawn", "_law_digit"] "_law_draw" (defScope s__law_draw) f cdv A outer s H E) rfl
  have hu := hr.rm.units
  have hu1 : _ + 1 < cLine := Nat.lt_of_le_of_lt (Nat.add_le_add_left (by decide : 1 ≤ 64) _) hu
  exact (s_cons (s_if (t_gt (e_idx hu1 (ev 0) e_str) e_int) (s_cons (s_set nd rfl (by first | exact .inl rfl | exact .inr rfl) (e_mod (e_callTy call_int1 v_int rfl (z18 Z) (by decide +kernel) (a_cons (e_idx hu1 (ev 0) e_str) a_nil)) (ev 1)))
    (s_cons (s_sub hu1 (ev 0) e_str (e_div (e_idx hu1 (ev 0) e_str) (ev 1)))
    (s_one (s_ret (ev 6))))) s_nil)
    (s_cons (s_set nd rfl (by first | exact .inl rfl | exact .inr rfl) (e_idx hu1 (ev 0) e_str))
    (s_cons (s_sub hu1 (ev 0) e_str (e_add (ev 2) e_int))
    (s_cons (s_set nd rfl (by first | exact .inl rfl | exact .inr rfl) (e_add (e_mul e_int (ev 2)) e_int))
    (s_cons (s_if (t_ne hu (e_idx hu1 (ev 0) e_str) (e_lst false a_nil)) (s_one (s_set nd rfl (by first | exact .inl rfl | exact .inr rfl) (e_idx hu1 (e_idx hu1 (ev 0) e_str) (e_mod (e_callTy call_int1 v_int rfl (z18 Z) (by decide +kernel) (a_cons (ev 2) a_nil)) (e_callB call_len v_len rfl (z36 Z) (by decide +kernel) (a_cons (e_idx hu1 (ev 0) e_str) a_nil)))))) s_nil)
    (s_cons (s_if (PW.pt (w_and (t_lt (ev 2) (e_callB call_len v_len rfl (z36 Z) (by decide +kernel) (a_cons (e_idx hu1 (ev 0) e_str) a_nil))) (w_and1 (t_ge (e_callB call_abs v_abs rfl (z27 Z) (by decide +kernel) (a_cons (ev 3) a_nil)) (e_pow e_int e_int))))) (s_cons (s_sub hu1 (ev 0) e_str (e_div (e_sub (e_callB call_abs v_abs rfl (z27 Z) (by decide +kernel) (a_cons (ev 3) a_nil)) (e_pow e_int e_int)) (ev 1)))
    (s_one (s_ret (e_mod (e_callTy call_int1 v_int rfl (z18 Z) (by decide +kernel) (a_cons (e_sub (e_callB call_abs v_abs rfl (z27 Z) (by decide +kernel) (a_cons (ev 3) a_nil)) (e_pow e_int e_int)) a_nil)) (ev 1))))) s_nil)
    (s_cons (s_set nd rfl (by first | exact .inl rfl | exact .inr rfl) (e_mul (e_mod (e_callTy call_int1 v_int rfl (z18 Z) (by decide +kernel) (a_cons (ev 3) a_nil)) e_int) e_int))
    (s_cons (s_set nd rfl (by first | exact .inl rfl | exact .inr rfl) (e_mod (e_callTy call_int1 v_int rfl (z18 Z) (by decide +kernel) (a_cons (e_add (e_add (ev 4) (e_mul (ev 2) (e_add (e_mul e_int (ev 2)) e_int))) e_int) a_nil)) e_int))
    (s_cons (s_set nd rfl (by first | exact .inl rfl | exact .inr rfl) (e_mod (e_callTy call_int1 v_int rfl (z18 Z) (by decide +kernel) (a_cons (e_add (e_add (e_add (e_mul (ev 5) (ev 5)) (e_mul e_int (ev 5))) (e_mul e_int (ev 2))) e_int) a_nil)) e_int))
    (s_one (s_ret (e_mod (e_callTy call_int1 v_int rfl (z18 Z) (by decide +kernel) (a_cons (e_div (e_mod (e_callTy call_int1 v_int rfl (z18 Z) (by decide +kernel) (a_cons (e_mul (ev 5) (e_add (ev 5) e_int)) a_nil)) e_int) e_int) a_nil)) (ev 1)))))))))))))
theorem f__law_draw (Z : FX K mg) : FnD PP w K mg base 1 ((fun K => He.ga K "_law_draw") K) m__law_draw := by
  obtain ⟨fd, F⟩ := Z.df 36 (d := d__law_draw) rfl rfl
  exact fn_ok0 (ps := ["_law_pen_here", "_law_many"]) F ⟨rfl, rfl, rfl, by decide +kernel, rfl, by decide +kernel, by decide +kernel⟩ (fun _ _ _ _ _ _ us hl => match us, hl with | [_, _], _ => rfl) (c__law_draw Z)
theorem k__law_draw (Z : FX K mg) : PySem.W.keepIn K (.ref ((fun K => He.ga K "_law_draw") K)) = true := Z.keep 36 (d := d__law_draw) rfl
noncomputable def b__law_shuffled : DS := seqS (par2S 2 3 (consA (argM (listD true) (consA (vM 1) (nilA))) (consA (argM (lstD true) (nilA)) (nilA)))) (seqS (whileS (blM (binM neD (vM 2) (argM (lstD false) (nilA)))) (exprS (bmD isLstD appD (vM 3) (consA (bmD isLstD popD (vM 2) (consA (callM m__law_draw (consA (vM 0) (consA (argM (lenD) (consA (vM 2) (nilA))) (nilA)))) (nilA))) (nilA))))) (retS (vM 3)))
noncomputable def m__law_shuffled : DF := bodyM 2 [] 4 b__law_shuffled
theorem c__law_shuffled (Z : FX K mg) {f : Addr} : BodyD PP w K mg base ["_law_pen_here", "_law_items", "_law_rest", "_law_found"] "_law_shuffled" (defScope s__law_shuffled) f 1 (defBody s__law_shuffled) b__law_shuffled := by
  intro cdv A outer s H E hr
  have nd : (["_law_pen_here", "_law_items", "_law_rest", "_law_found"] : List Str).Nodup := by decide +kernel
  have tk : Takes (cxOf (L2.CX PP w) PP w K mg base ["_law_pen_here", "_law_items", "_law_rest", "_law_found"] "_law_shuffled" (defScope s__law_shuffled) f cdv A outer s H E) (fun c d _ H' => E c d H') := takes_of rfl rfl rfl rfl
  have hp := passes_of (X := cxOf (L2.CX PP w) PP w K mg base ["_law_pen_here", "_law_items", "_law_rest", "_law_found"] "_law_shuffled" (defScope s__law_shuffled) f cdv A outer s H E) rfl
  have hu := hr.rm.units
  have hu1 : _ + 1 < cLine := Nat.lt_of_le_of_lt (Nat.add_le_add_left (by decide : 1 ≤ 64) _) hu
  exact (s_cons (s_par2 rfl nd rfl rfl (by decide) rfl rfl (a_cons (e_callTy call_list_of v_list rfl (z39 Z) (by decide +kernel) (a_cons (ev 1) a_nil)) (a_cons (e_lst true a_nil) a_nil)))
    (s_cons (s_while hp (t_ne hu (ev 2) (e_lst false a_nil)) (s_one (s_expr (e_bm PySem.F.plainAttrs_list PySem.F.slot_list_append PySem.F.type_list_append mt_append ty_lst v_app (ev 3) (a_cons (e_bm PySem.F.plainAttrs_list PySem.F.slot_list_pop PySem.F.type_list_pop mt_popAt ty_lst v_pop (ev 2) (a_cons (e_call tk (f__law_draw Z) (hr.mono (Nat.le_of_ble_eq_true rfl) : Rm 1 _) rfl (z87 Z) (k__law_draw Z) (a_cons (ev 0) (a_cons (e_callB call_len v_len rfl (z36 Z) (by decide +kernel) (a_cons (ev 2) a_nil)) a_nil))) a_nil)) a_nil)))))
    (s_one (s_ret (ev 3)))))
theorem f__law_shuffled (Z : FX K mg) : FnD PP w K mg base 2 ((fun K => He.ga K "_law_shuffled") K) m__law_shuffled := by
  obtain ⟨fd, F⟩ := Z.df 37 (d := d__law_shuffled) rfl rfl
  exact fn_ok0 (ps := ["_law_pen_here", "_law_items"]) F ⟨rfl, rfl, rfl, by decide +kernel, rfl, by decide +kernel, by decide +kernel⟩ (fun _ _ _ _ _ _ us hl => match us, hl with | [_, _], _ => rfl) (c__law_shuffled Z)
theorem k__law_shuffled (Z : FX K mg) : PySem.W.keepIn K (.ref ((fun K => He.ga K "_law_shuffled") K)) = true := Z.keep 37 (d := d__law_shuffled) rfl
noncomputable def b__law_letters : DS := seqS (setS 2 (argM sortedD (consA (sliM false (callM m__law_shuffled (consA (vM 0) (consA (listRgM false (cM (.int 26))) (nilA)))) (pureM none) (optM (binM addD (cM (.int 1)) (callM m__law_draw (consA (vM 0) (consA (vM 1) (nilA))))))) (nilA)))) (retS (bmD isStrD joinD (cM (.str "")) (consA (lcM false (seqI (vM 2)) (nameG 3) (yesM) (binM idxD (cM (.str "abcdefghijklmnopqrstuvwxyz")) (vM 3)) [3]) (nilA))))
noncomputable def m__law_letters : DF := bodyM 2 [] 4 b__law_letters
theorem c__law_letters (Z : FX K mg) {f : Addr} : BodyD PP w K mg base ["_law_pen_here", "_law_most", "_law_places", "_law_place"] "_law_letters" (defScope s__law_letters) f 2 (defBody s__law_letters) b__law_letters := by
  intro cdv A outer s H E hr
  have nd : (["_law_pen_here", "_law_most", "_law_places", "_law_place"] : List Str).Nodup := by decide +kernel
  have tk : Takes (cxOf (L2.CX PP w) PP w K mg base ["_law_pen_here", "_law_most", "_law_places", "_law_place"] "_law_letters" (defScope s__law_letters) f cdv A outer s H E) (fun c d _ H' => E c d H') := takes_of rfl rfl rfl rfl
  have hp := passes_of (X := cxOf (L2.CX PP w) PP w K mg base ["_law_pen_here", "_law_most", "_law_places", "_law_place"] "_law_letters" (defScope s__law_letters) f cdv A outer s H E) rfl
  have hu := hr.rm.units
  have hu1 : _ + 1 < cLine := Nat.lt_of_le_of_lt (Nat.add_le_add_left (by decide : 1 ≤ 64) _) hu
  exact (s_cons (s_set nd rfl (by first | exact .inl rfl | exact .inr rfl) (e_callB (cr_sortedAll rfl) v_sorted rfl (z89 Z) (by decide +kernel) (a_cons (e_sli false (e_call tk (f__law_shuffled Z) (hr.mono (Nat.le_of_ble_eq_true rfl) : Rm 2 _) rfl (z88 Z) (k__law_shuffled Z) (a_cons (ev 0) (a_cons (e_listRg false rfl rfl (z39 Z) rfl (z24 Z) e_int) a_nil))) o_none (o_some (e_add e_int (e_call tk (f__law_draw Z) (hr.mono (Nat.le_of_ble_eq_true rfl) : Rm 1 _) rfl (z87 Z) (k__law_draw Z) (a_cons (ev 0) (a_cons (ev 1) a_nil)))))) a_nil)))
    (s_one (s_ret (e_bm PySem.F.plainAttrs_str PySem.F.slot_str_join PySem.F.type_str_join mt_join ty_str v_join e_str (a_cons (e_lc false rfl nd (i_seq (ev 2)) (own := ([("_law_place", 3)] : List (Str × Nat))) (show BlkOk ["_law_pen_here", "_law_most", "_law_places", "_law_place"] (defScope s__law_letters) _ _ from ⟨rfl, by decide +kernel, by decide +kernel, by decide +kernel, by decide +kernel⟩) (fun _ _ _ _ _ => (gw_name nd rfl (by first | exact .inl rfl | exact .inr rfl) (by decide))) (fun _ _ _ _ _ => ts_nil) (fun _ _ _ _ _ => (e_idx hu1 e_str (ev 3)))) a_nil)))))
theorem f__law_letters (Z : FX K mg) : FnD PP w K mg base 3 ((fun K => He.ga K "_law_letters") K) m__law_letters := by
  obtain ⟨fd, F⟩ := Z.df 38 (d := d__law_letters) rfl rfl
  exact fn_ok0 (ps := ["_law_pen_here", "_law_most"]) F ⟨rfl, rfl, rfl, by decide +kernel, rfl, by decide +kernel, by decide +kernel⟩ (fun _ _ _ _ _ _ us hl => match us, hl with | [_, _], _ => rfl) (c__law_letters Z)
theorem k__law_letters (Z : FX K mg) : PySem.W.keepIn K (.ref ((fun K => He.ga K "_law_letters") K)) = true := Z.keep 38 (d := d__law_letters) rfl
noncomputable def b__law_pick : DS := retS (binM idxD (vM 1) (callM m__law_draw (consA (vM 0) (consA (argM (lenD) (consA (vM 1) (nilA))) (nilA)))))
noncomputable def m__law_pick : DF := bodyM 2 [] 2 b__law_pick
theorem c__law_pick (Z : FX K mg) {f : Addr} : BodyD PP w K mg base ["_law_pen_here", "_law_options"] "_law_pick" (defScope s__law_pick) f 1 (defBody s__law_pick) b__law_pick := by
  intro cdv A outer s H E hr
  have nd : (["_law_pen_here", "_law_options"] : List Str).Nodup := by decide +kernel
  have tk : Takes (cxOf (L2.CX PP w) PP w K mg base ["_law_pen_here", "_law_options"] "_law_pick" (defScope s__law_pick) f cdv A outer s H E) (fun c d _ H' => E c d H') := takes_of rfl rfl rfl rfl
  have hp := passes_of (X := cxOf (L2.CX PP w) PP w K mg base ["_law_pen_here", "_law_options"] "_law_pick" (defScope s__law_pick) f cdv A outer s H E) rfl
  have hu := hr.rm.units
  have hu1 : _ + 1 < cLine := Nat.lt_of_le_of_lt (Nat.add_le_add_left (by decide : 1 ≤ 64) _) hu
  exact (s_one (s_ret (e_idx hu1 (ev 1) (e_call tk (f__law_draw Z) (hr.mono (Nat.le_of_ble_eq_true rfl) : Rm 1 _) rfl (z87 Z) (k__law_draw Z) (a_cons (ev 0) (a_cons (e_callB call_len v_len rfl (z36 Z) (by decide +kernel) (a_cons (ev 1) a_nil)) a_nil))))))
theorem f__law_pick (Z : FX K mg) : FnD PP w K mg base 2 ((fun K => He.ga K "_law_pick") K) m__law_pick := by
  obtain ⟨fd, F⟩ := Z.df 39 (d := d__law_pick) rfl rfl
  exact fn_ok0 (ps := ["_law_pen_here", "_law_options"]) F ⟨rfl, rfl, rfl, by decide +kernel, rfl, by decide +kernel, by decide +kernel⟩ (fun _ _ _ _ _ _ us hl => match us, hl with | [_, _], _ => rfl) (c__law_pick Z)
theorem k__law_pick (Z : FX K mg) : PySem.W.keepIn K (.ref ((fun K => He.ga K "_law_pick") K)) = true := Z.keep 39 (d := d__law_pick) rfl
noncomputable def b__law_word : DS := retS (bmD isStrD joinD (cM (.str "")) (consA (lcM false (argI rangeD1 (consA (callM m__law_draw (consA (vM 0) (consA (binM addD (vM 2) (cM (.int 1))) (nilA)))) (nilA))) (nameG 3) (yesM) (callM m__law_pick (consA (vM 0) (consA (vM 1) (nilA)))) [3]) (nilA)))
noncomputable def m__law_word : DF := bodyM 3 [] 4 b__law_word
theorem c__law_word (Z : FX K mg) {f : Addr} : BodyD PP w K mg base ["_law_pen_here", "_law_letters_here", "_law_most", "_law_k"] "_law_word" (defScope s__law_word) f 2 (defBody s__law_word) b__law_word := by
  intro cdv A outer s H E hr
  have nd : (["_law_pen_here", "_law_letters_here", "_law_most", "_law_k"] : List Str).Nodup := by decide +kernel
  have tk : Takes (cxOf (L2.CX PP w) PP w K mg base ["_law_pen_here", "_law_letters_here", "_law_most", "_law_k"] "_law_word" (defScope s__law_word) f cdv A outer s H E) (fun c d _ H' => E c d H') := takes_of rfl rfl rfl rfl
  have hp := passes_of (X := cxOf (L2.CX PP w) PP w K mg base ["_law_pen_here", "_law_letters_here", "_law_most", "_law_k"] "_law_word" (defScope s__law_word) f cdv A outer s H E) rfl
  have hu := hr.rm.units
  have hu1 : _ + 1 < cLine := Nat.lt_of_le_of_lt (Nat.add_le_add_left (by decide : 1 ≤ 64) _) hu
  exact (s_one (s_ret (e_bm PySem.F.plainAttrs_str PySem.F.slot_str_join PySem.F.type_str_join mt_join ty_str v_join e_str (a_cons (e_lc false rfl nd (i_range1 rfl (z24 Z) (a_cons (e_call tk (f__law_draw Z) (hr.mono (Nat.le_of_ble_eq_true rfl) : Rm 1 _) rfl (z87 Z) (k__law_draw Z) (a_cons (ev 0) (a_cons (e_add (ev 2) e_int) a_nil))) a_nil)) (own := ([("_law_k", 3)] : List (Str × Nat))) (show BlkOk ["_law_pen_here", "_law_letters_here", "_law_most", "_law_k"] (defScope s__law_word) _ _ from ⟨rfl, by decide +kernel, by decide +kernel, by decide +kernel, by decide +kernel⟩) (fun _ _ _ _ _ => (gw_name nd rfl (by first | exact .inl rfl | exact .inr rfl) (by decide))) (fun _ _ _ _ _ => ts_nil) (fun _ _ _ _ _ => (e_call takes_blk (f__law_pick Z) (hr.mono (Nat.le_of_ble_eq_true rfl) : Rm 2 _) rfl (z90 Z) (k__law_pick Z) (a_cons (ev 0) (a_cons (ev 1) a_nil))))) a_nil))))
theorem f__law_word (Z : FX K mg) : FnD PP w K mg base 3 ((fun K => He.ga K "_law_word") K) m__law_word := by
  obtain ⟨fd, F⟩ := Z.df 40 (d := d__law_word) rfl rfl
  exact fn_ok0 (ps := ["_law_pen_here", "_law_letters_here", "_law_most"]) F ⟨rfl, rfl, rfl, by decide +kernel, rfl, by decide +kernel, by decide +kernel⟩ (fun _ _ _ _ _ _ us hl => match us, hl with | [_, _, _], _ => rfl) (c__law_word Z)
theorem k__law_word (Z : FX K mg) : PySem.W.keepIn K (.ref ((fun K => He.ga K "_law_word") K)) = true := Z.keep 40 (d := d__law_word) rfl
noncomputable def b__law_long_word : DS := seqS (setS 2 (callM m__law_word (consA (vM 0) (consA (vM 1) (consA (cM (.int 8)) (nilA)))))) (retS (callM m__law_pick (consA (vM 0) (consA (argM (lstD false) (consA (vM 2) (consA (vM 2) (consA (vM 2) (consA (binM mulX (binM addD (vM 2) (binM idxD (vM 1) (cM (.int 0)))) (cM (.int 17))) (consA (binM mulX (binM idxD (vM 1) (unM negD (cM (.int 1)))) (cM (.int 160))) (consA (binM mulX (vM 1) (cM (.int 40))) (nilA)))))))) (nilA)))))
noncomputable def m__law_long_word : DF := bodyM 2 [] 3 b__law_long_word
theorem c__law_long_word (Z : FX K mg) {f : Addr} : BodyD PP w K mg base ["_law_pen_here", "_law_letters_here", "_law_word_here"] "_law_long_word" (defScope s__law_long_word) f 3 (defBody s__law_long_word) b__law_long_word := by
  intro cdv A outer s H E hr
  have nd : (["_law_pen_here", "_law_letters_here", "_law_word_here"] : List Str).Nodup := by decide +kernel
  have tk : Takes (cxOf (L2.CX PP w) PP w K mg base ["_law_pen_here", "_law_letters_here", "_law_word_here"] "_law_long_word" (defScope s__law_long_word) f cdv A outer s H E) (fun c d _ H' => E c d H') := takes_of rfl rfl rfl rfl
  have hp := passes_of (X := cxOf (L2.CX PP w) PP w K mg base ["_law_pen_here", "_law_letters_here", "_law_word_here"] "_law_long_word" (defScope s__law_long_word) f cdv A outer s H E) rfl
  have hu := hr.rm.units
  have hu1 : _ + 1 < cLine := Nat.lt_of_le_of_lt (Nat.add_le_add_left (by decide : 1 ≤ 64) _) hu
  exact (s_cons (s_set nd rfl (by first | exact .inl rfl | exact .inr rfl) (e_call tk (f__law_word Z) (hr.mono (Nat.le_of_ble_eq_true rfl) : Rm 3 _) rfl (z91 Z) (k__law_word Z) (a_cons (ev 0) (a_cons (ev 1) (a_cons e_int a_nil)))))
    (s_one (s_ret (e_call tk (f__law_pick Z) (hr.mono (Nat.le_of_ble_eq_true rfl) : Rm 2 _) rfl (z90 Z) (k__law_pick Z) (a_cons (ev 0) (a_cons (e_lst false (a_cons (ev 2) (a_cons (ev 2) (a_cons (ev 2) (a_cons (e_mulX (e_add (ev 2) (e_idx hu1 (ev 1) e_int)) e_int) (a_cons (e_mulX (e_idx hu1 (ev 1) (e_neg e_int)) e_int) (a_cons (e_mulX (ev 1) e_int) a_nil))))))) a_nil))))))
theorem f__law_long_word (Z : FX K mg) : FnD PP w K mg base 4 ((fun K => He.ga K "_law_long_word") K) m__law_long_word := by
  obtain ⟨fd, F⟩ := Z.df 41 (d := d__law_long_word) rfl rfl
  exact fn_ok0 (ps := ["_law_pen_here", "_law_letters_here"]) F ⟨rfl, rfl, rfl, by decide +kernel, rfl, by decide +kernel, by decide +kernel⟩ (fun _ _ _ _ _ _ us hl => match us, hl with | [_, _], _ => rfl) (c__law_long_word Z)
theorem k__law_long_word (Z : FX K mg) : PySem.W.keepIn K (.ref ((fun K => He.ga K "_law_long_word") K)) = true := Z.keep 41 (d := d__law_long_word) rfl
noncomputable def b__law_made : DS := retS (makeM false "Machine" m_Machine___init__ (consA (makeM false "Modulo" m_Modulo___init__ (consA (vM 1) (nilA))) (consA (vM 2) (consA (binM idxD (vM 0) (cM (.int 0))) (consA (binM idxD (vM 0) (cM (.int 1))) (consA (binM idxD (vM 0) (cM (.int 2))) (nilA)))))))
noncomputable def m__law_made : DF := bodyM 3 [] 3 b__law_made
theorem c__law_made (Z : FX K mg) {f : Addr} : BodyD PP w K mg base ["_law_plain_here", "_law_prime_here", "_law_letters_here"] "_law_made" (defScope s__law_made) f 10 (defBody s__law_made) b__law_made := by
  intro cdv A outer s H E hr
  have nd : (["_law_plain_here", "_law_prime_here", "_law_letters_here"] : List Str).Nodup := by decide +kernel
  have tk : Takes (cxOf (L2.CX PP w) PP w K mg base ["_law_plain_here", "_law_prime_here", "_law_letters_here"] "_law_made" (defScope s__law_made) f cdv A outer s H E) (fun c d _ H' => E c d H') := takes_of rfl rfl rfl rfl
  have hp := passes_of (X := cxOf (L2.CX PP w) PP w K mg base ["_law_plain_here", "_law_prime_here", "_law_letters_here"] "_law_made" (defScope s__law_made) f cdv A outer s H E) rfl
  have hu := hr.rm.units
  have hu1 : _ + 1 < cLine := Nat.lt_of_le_of_lt (Nat.add_le_add_left (by decide : 1 ≤ 64) _) hu
  exact (s_one (s_ret (e_make false tk (z94 Z) (f_Machine___init___at_Machine Z) (hr.mono (Nat.le_of_ble_eq_true rfl) : Rm 10 _) rfl (z95 Z) (a_cons (e_make false tk (z92 Z) (f_Modulo___init___at_Modulo Z) (hr.mono (Nat.le_of_ble_eq_true rfl) : Rm 5 _) rfl (z93 Z) (a_cons (ev 1) a_nil)) (a_cons (ev 2) (a_cons (e_idx hu1 (ev 0) e_int) (a_cons (e_idx hu1 (ev 0) e_int) (a_cons (e_idx hu1 (ev 0) e_int) a_nil))))))))
theorem f__law_made (Z : FX K mg) : FnD PP w K mg base 11 ((fun K => He.ga K "_law_made") K) m__law_made := by
  obtain ⟨fd, F⟩ := Z.df 42 (d := d__law_made) rfl rfl
  exact fn_ok0 (ps := ["_law_plain_here", "_law_prime_here", "_law_letters_here"]) F ⟨rfl, rfl, rfl, by decide +kernel, rfl, by decide +kernel, by decide +kernel⟩ (fun _ _ _ _ _ _ us hl => match us, hl with | [_, _, _], _ => rfl) (c__law_made Z)
theorem k__law_made (Z : FX K mg) : PySem.W.keepIn K (.ref ((fun K => He.ga K "_law_made") K)) = true := Z.keep 42 (d := d__law_made) rfl
noncomputable def b__law_number : DS := retS (callM m__law_pick (consA (vM 0) (consA (argM (lstD false) (consA (cM (.int 0)) (consA (cM (.int 0)) (consA (cM (.int 1)) (consA (binM subD (argM (intD) (consA (vM 1) (nilA))) (cM (.int 1))) (consA (callM m__law_draw (consA (vM 0) (consA (vM 1) (nilA)))) (nilA))))))) (nilA))))
noncomputable def m__law_number : DF := bodyM 2 [] 2 b__law_number
theorem c__law_number (Z : FX K mg) {f : Addr} : BodyD PP w K mg base ["_law_pen_here", "_law_prime_here"] "_law_number" (defScope s__law_number) f 2 (defBody s__law_number) b__law_number := by
  intro cdv A outer s H E hr
  have nd : (["_law_pen_here", "_law_prime_here"] : List Str).Nodup := by decide +kernel
  have tk : Takes (cxOf (L2.CX PP w) PP w K mg base ["_law_pen_here", "_law_prime_here"] "_law_number" (defScope s__law_number) f cdv A outer s H E) (fun c d _ H' => E c d H') := takes_of rfl rfl rfl rfl
  have hp := passes_of (X := cxOf (L2.CX PP w) PP w K mg base ["_law_pen_here", "_law_prime_here"] "_law_number" (defScope s__law_number) f cdv A outer s H E) rfl
  have hu := hr.rm.units
  have hu1 : _ + 1 < cLine := Nat.lt_of_le_of_lt (Nat.add_le_add_left (by decide : 1 ≤ 64) _) hu
  exact (s_one (s_ret (e_call tk (f__law_pick Z) (hr.mono (Nat.le_of_ble_eq_true rfl) : Rm 2 _) rfl (z90 Z) (k__law_pick Z) (a_cons (ev 0) (a_cons (e_lst false (a_cons e_int (a_cons e_int (a_cons e_int (a_cons (e_sub (e_callTy call_int1 v_int rfl (z18 Z) (by decide +kernel) (a_cons (ev 1) a_nil)) e_int) (a_cons (e_call tk (f__law_draw Z) (hr.mono (Nat.le_of_ble_eq_true rfl) : Rm 1 _) rfl (z87 Z) (k__law_draw Z) (a_cons (ev 0) (a_cons (ev 1) a_nil))) a_nil)))))) a_nil)))))
theorem f__law_number (Z : FX K mg) : FnD PP w K mg base 3 ((fun K => He.ga K "_law_number") K) m__law_number := by
  obtain ⟨fd, F⟩ := Z.df 43 (d := d__law_number) rfl rfl
  exact fn_ok0 (ps := ["_law_pen_here", "_law_prime_here"]) F ⟨rfl, rfl, rfl, by decide +kernel, rfl, by decide +kernel, by decide +kernel⟩ (fun _ _ _ _ _ _ us hl => match us, hl with | [_, _], _ => rfl) (c__law_number Z)
theorem k__law_number (Z : FX K mg) : PySem.W.keepIn K (.ref ((fun K => He.ga K "_law_number") K)) = true := Z.keep 43 (d := d__law_number) rfl
noncomputable def b__law_odd_word : DS := seqS (setS 2 (argM (lstD false) (consA (cM .non) (consA (cM (.bl true)) (consA (cM (.int 3)) (consA (cM (.str "A")) (consA (cM (.str " ")) (consA (binM mulX (binM idxD (vM 1) (cM (.int 0))) (cM (.int 161))) (consA (argM (lstD false) (consA (binM idxD (vM 1) (cM (.int 0))) (nilA))) (consA (argM tupD (nilA)) (consA (disp0M) (consA (binM addD (binM idxD (vM 1) (cM (.int 0))) (cM (.str "1"))) (consA (cM (.str "-")) (consA (argM (lstD false) (consA (cM (.str "")) (consA (cM (.str "")) (nilA)))) (nilA))))))))))))))) (seqS (setS 3 (lcM false (seqI (cM (.str "abcdefghijklmnopqrstuvwxyz"))) (nameG 4) (blM (binM (inD true) (vM 4) (vM 1))) (vM 4) [4])) (retS (callM m__law_pick (consA (vM 0) (consA (binM addD (vM 2) (argM (lstD false) (consA (binM idxD (vM 3) (cM (.int 0))) (consA (binM addD (binM idxD (vM 1) (unM negD (cM (.int 1)))) (binM idxD (vM 3) (unM negD (cM (.int 1))))) (consA (binM addD (binM idxD (vM 1) (cM (.int 0))) (cM (.str "\n"))) (nilA)))))) (nilA))))))
noncomputable def m__law_odd_word : DF := bodyM 2 [] 5 b__law_odd_word
theorem c__law_odd_word (Z : FX K mg) {f : Addr} : BodyD PP w K mg base ["_law_pen_here", "_law_letters_here", "_law_some", "_law_missing", "_law_sign"] "_law_odd_word" (defScope s__law_odd_word) f 2 (defBody s__law_odd_word) b__law_odd_word := by
  intro cdv A outer s H E hr
  have nd : (["_law_pen_here", "_law_letters_here", "_law_some", "_law_missing", "_law_sign"] : List Str).Nodup := by decide +kernel
  have tk : Takes (cxOf (L2.CX PP w) PP w K mg base ["_law_pen_here", "_law_letters_here", "_law_some", "_law_missing", "_law_sign"] "_law_odd_word" (defScope s__law_odd_word) f cdv A outer s H E) (fun c d _ H' => E c d H') := takes_of rfl rfl rfl rfl
  have hp := passes_of (X := cxOf (L2.CX PP w) PP w K mg base ["_law_pen_here", "_law_letters_here", "_law_some", "_law_missing", "_law_sign"] "_law_odd_word" (defScope s__law_odd_word) f cdv A outer s H E) rfl
  have hu := hr.rm.units
  have hu1 : _ + 1 < cLine := Nat.lt_of_le_of_lt (Nat.add_le_add_left (by decide : 1 ≤ 64) _) hu
  exact (s_cons (s_set nd rfl (by first | exact .inl rfl | exact .inr rfl) (e_lst false (a_cons e_non (a_cons e_bl (a_cons e_int (a_cons e_str (a_cons e_str (a_cons (e_mulX (e_idx hu1 (ev 1) e_int) e_int) (a_cons (e_lst false (a_cons (e_idx hu1 (ev 1) e_int) a_nil)) (a_cons (e_tup a_nil) (a_cons e_disp0 (a_cons (e_add (e_idx hu1 (ev 1) e_int) e_str) (a_cons e_str (a_cons (e_lst false (a_cons e_str (a_cons e_str a_nil))) a_nil))))))))))))))
    (s_cons (s_setLc false rfl nd rfl rfl rfl (i_seq e_str) (own := ([("_law_sign", 4)] : List (Str × Nat))) (show BlkOk ["_law_pen_here", "_law_letters_here", "_law_some", "_law_missing", "_law_sign"] (defScope s__law_odd_word) _ _ from ⟨rfl, by decide +kernel, by decide +kernel, by decide +kernel, by decide +kernel⟩) (fun _ _ _ _ _ => (gw_name nd rfl (by first | exact .inl rfl | exact .inr rfl) (by decide))) (fun _ _ _ _ _ => (ts_one (t_notIn hu1 (ev 4) (ev 1)))) (fun _ _ _ _ _ => (ev 4)))
    (s_one (s_ret (e_call tk (f__law_pick Z) (hr.mono (Nat.le_of_ble_eq_true rfl) : Rm 2 _) rfl (z90 Z) (k__law_pick Z) (a_cons (ev 0) (a_cons (e_add (ev 2) (e_lst false (a_cons (e_idx hu1 (ev 3) e_int) (a_cons (e_add (e_idx hu1 (ev 1) (e_neg e_int)) (e_idx hu1 (ev 3) (e_neg e_int))) (a_cons (e_add (e_idx hu1 (ev 1) e_int) e_str) a_nil))))) a_nil)))))))
theorem f__law_odd_word (Z : FX K mg) : FnD PP w K mg base 3 ((fun K => He.ga K "_law_odd_word") K) m__law_odd_word := by
  obtain ⟨fd, F⟩ := Z.df 44 (d := d__law_odd_word) rfl rfl
  exact fn_ok0 (ps := ["_law_pen_here", "_law_letters_here"]) F ⟨rfl, rfl, rfl, by decide +kernel, rfl, by decide +kernel, by decide +kernel⟩ (fun _ _ _ _ _ _ us hl => match us, hl with | [_, _], _ => rfl) (c__law_odd_word Z)
theorem k__law_odd_word (Z : FX K mg) : PySem.W.keepIn K (.ref ((fun K => He.ga K "_law_odd_word") K)) = true := Z.keep 44 (d := d__law_odd_word) rfl
noncomputable def b__law_pen : DS := retS (dispM [(cM (.str "cells"), argM (listD false) (consA (sliM false (vM 0) (pureM none) (optM (cM (.int 63)))) (nilA))), (cM (.str "begun"), cM (.int 0)), (cM (.str "left"), cM (.int 0))])
noncomputable def m__law_pen : DF := bodyM 1 [] 1 b__law_pen
theorem c__law_pen (Z : FX K mg) {f : Addr} : BodyD PP w K mg base ["_law_script"] "_law_pen" (defScope s__law_pen) f 0 (defBody s__law_pen) b__law_pen := by
  intro cdv A outer s H E hr
  have nd : (["_law_script"] : List Str).Nodup := by decide +kernel
  have tk : Takes (cxOf (L2.CX PP w) PP w K mg base ["_law_script"] "_law_pen" (defScope s__law_pen) f cdv A outer s H E) (fun c d _ H' => E c d H') := takes_of rfl rfl rfl rfl
  have hp := passes_of (X := cxOf (L2.CX PP w) PP w K mg base ["_law_script"] "_law_pen" (defScope s__law_pen) f cdv A outer s H E) rfl
  have hu := hr.rm.units
  have hu1 : _ + 1 < cLine := Nat.lt_of_le_of_lt (Nat.add_le_add_left (by decide : 1 ≤ 64) _) hu
  exact (s_one (s_ret (e_disp (pp_cons e_str (e_callTy call_list_of v_list rfl (z39 Z) (by decide +kernel) (a_cons (e_sli false (ev 0) o_none (o_some e_int)) a_nil)) (pp_cons e_str e_int (pp_cons e_str e_int pp_nil))))))
theorem f__law_pen (Z : FX K mg) : FnD PP w K mg base 1 ((fun K => He.ga K "_law_pen") K) m__law_pen := by
  obtain ⟨fd, F⟩ := Z.df 45 (d := d__law_pen) rfl rfl
  exact fn_ok0 (ps := ["_law_script"]) F ⟨rfl, rfl, rfl, by decide +kernel, rfl, by decide +kernel, by decide +kernel⟩ (fun _ _ _ _ _ _ us hl => match us, hl with | [_], _ => rfl) (c__law_pen Z)
theorem k__law_pen (Z : FX K mg) : PySem.W.keepIn K (.ref ((fun K => He.ga K "_law_pen") K)) = true := Z.keep 45 (d := d__law_pen) rfl
noncomputable def b__law_plain : DS := seqS (setS 4 (disp0M)) (seqS (forS (seqI (vM 2)) (nameG 5) (subS (vM 4) (vM 5) (lcM false (argI rangeD1 (consA (vM 3) (nilA))) (nameG 6) (yesM) (lcM false (argI rangeD1 (consA (vM 3) (nilA))) (nameG 7) (yesM) (callM m__law_number (consA (vM 0) (consA (vM 1) (nilA)))) [7]) [6]))) (retS (argM tupD (consA (lcM false (argI rangeD1 (consA (vM 3) (nilA))) (nameG 6) (yesM) (callM m__law_number (consA (vM 0) (consA (vM 1) (nilA)))) [6]) (consA (vM 4) (consA (lcM false (argI rangeD1 (consA (vM 3) (nilA))) (nameG 6) (yesM) (callM m__law_number (consA (vM 0) (consA (vM 1) (nilA)))) [6]) (nilA)))))))
noncomputable def m__law_plain : DF := bodyM 4 [] 8 b__law_plain
theorem c__law_plain (Z : FX K mg) {f : Addr} : BodyD PP w K mg base ["_law_pen_here", "_law_prime_here", "_law_letters_here", "_law_size", "_law_tables", "_law_letter", "_law_i", "_law_j"] "_law_plain" (defScope s__law_plain) f 3 (defBody s__law_plain) b__law_plain := by
  intro cdv A outer s H E hr
  have nd : (["_law_pen_here", "_law_prime_here", "_law_letters_here", "_law_size", "_law_tables", "_law_letter", "_law_i", "_law_j"] : List Str).Nodup := by decide +kernel
  have tk : Takes (cxOf (L2.CX PP w) PP w K mg base ["_law_pen_here", "_law_prime_here", "_law_letters_here", "_law_size", "_law_tables", "_law_letter", "_law_i", "_law_j"] "_law_plain" (defScope s__law_plain) f cdv A outer s H E) (fun c d _ H' => E c d H') := takes_of rfl rfl rfl rfl
  have hp := passes_of (X := cxOf (L2.CX PP w) PP w K mg base ["_law_pen_here", "_law_prime_here", "_law_letters_here", "_law_size", "_law_tables", "_law_letter", "_law_i", "_law_j"] "_law_plain" (defScope s__law_plain) f cdv A outer s H E) rfl
  have hu := hr.rm.units
  have hu1 : _ + 1 < cLine := Nat.lt_of_le_of_lt (Nat.add_le_add_left (by decide : 1 ≤ 64) _) hu
  exact (s_cons (s_set nd rfl (by first | exact .inl rfl | exact .inr rfl) e_disp0)
    (s_cons (s_for hp rfl (i_seq (ev 2)) (g_name nd rfl (by first | exact .inl rfl | exact .inr rfl)) (s_one (s_sub hu1 (ev 4) (ev 5) (e_lc false rfl nd (i_range1 rfl (z24 Z) (a_cons (ev 3) a_nil)) (own := ([("_law_i", 6)] : List (Str × Nat))) (show BlkOk ["_law_pen_here", "_law_prime_here", "_law_letters_here", "_law_size", "_law_tables", "_law_letter", "_law_i", "_law_j"] (defScope s__law_plain) _ _ from ⟨rfl, by decide +kernel, by decide +kernel, by decide +kernel, by decide +kernel⟩) (fun _ _ _ _ _ => (gw_name nd rfl (by first | exact .inl rfl | exact .inr rfl) (by decide))) (fun _ _ _ _ _ => ts_nil) (fun _ _ _ _ _ => (e_lc false rfl nd (i_range1 rfl (z24 Z) (a_cons (ev 3) a_nil)) (own := ([("_law_j", 7)] : List (Str × Nat))) (show BlkOk ["_law_pen_here", "_law_prime_here", "_law_letters_here", "_law_size", "_law_tables", "_law_letter", "_law_i", "_law_j"] _ _ _ from ⟨rfl, by decide +kernel, by decide +kernel, by repeat (first | exact List.forall_mem_nil _ | refine List.forall_mem_cons.2 ⟨fun h => by first | (cases h; done) | exact .inl rfl | exact .inr rfl, ?_⟩), by decide +kernel⟩) (fun _ _ _ _ _ => (gw_name nd rfl (by first | exact .inl rfl | exact .inr rfl) (by decide))) (fun _ _ _ _ _ => ts_nil) (fun _ _ _ _ _ => (e_call takes_blk (f__law_number Z) (hr.mono (Nat.le_of_ble_eq_true rfl) : Rm 3 _) rfl (z96 Z) (k__law_number Z) (a_cons (ev 0) (a_cons (ev 1) a_nil))))))))))
    (s_one (s_ret (e_tup (a_cons (e_lc false rfl nd (i_range1 rfl (z24 Z) (a_cons (ev 3) a_nil)) (own := ([("_law_i", 6)] : List (Str × Nat))) (show BlkOk ["_law_pen_here", "_law_prime_here", "_law_letters_here", "_law_size", "_law_tables", "_law_letter", "_law_i", "_law_j"] (defScope s__law_plain) _ _ from ⟨rfl, by decide +kernel, by decide +kernel, by decide +kernel, by decide +kernel⟩) (fun _ _ _ _ _ => (gw_name nd rfl (by first | exact .inl rfl | exact .inr rfl) (by decide))) (fun _ _ _ _ _ => ts_nil) (fun _ _ _ _ _ => (e_call takes_blk (f__law_number Z) (hr.mono (Nat.le_of_ble_eq_true rfl) : Rm 3 _) rfl (z96 Z) (k__law_number Z) (a_cons (ev 0) (a_cons (ev 1) a_nil))))) (a_cons (ev 4) (a_cons (e_lc false rfl nd (i_range1 rfl (z24 Z) (a_cons (ev 3) a_nil)) (own := ([("_law_i", 6)] : List (Str × Nat))) (show BlkOk ["_law_pen_here", "_law_prime_here", "_law_letters_here", "_law_size", "_law_tables", "_law_letter", "_law_i", "_law_j"] (defScope s__law_plain) _ _ from ⟨rfl, by decide +kernel, by decide +kernel, by decide +kernel, by decide +kernel⟩) (fun _ _ _ _ _ => (gw_name nd rfl (by first | exact .inl rfl | exact .inr rfl) (by decide))) (fun _ _ _ _ _ => ts_nil) (fun _ _ _ _ _ => (e_call takes_blk (f__law_number Z) (hr.mono (Nat.le_of_ble_eq_true rfl) : Rm 3 _) rfl (z96 Z) (k__law_number Z) (a_cons (ev 0) (a_cons (ev 1) a_nil))))) a_nil))))))))
theorem f__law_plain (Z : FX K mg) : FnD PP w K mg base 4 ((fun K => He.ga K "_law_plain") K) m__law_plain := by
  obtain ⟨fd, F⟩ := Z.df 46 (d := d__law_plain) rfl rfl
  exact fn_ok0 (ps := ["_law_pen_here", "_law_prime_here", "_law_letters_here", "_law_size"]) F ⟨rfl, rfl, rfl, by decide +kernel, rfl, by decide +kernel, by decide +kernel⟩ (fun _ _ _ _ _ _ us hl => match us, hl with | [_, _, _, _], _ => rfl) (c__law_plain Z)
theorem k__law_plain (Z : FX K mg) : PySem.W.keepIn K (.ref ((fun K => He.ga K "_law_plain") K)) = true := Z.keep 46 (d := d__law_plain) rfl
noncomputable def b__law_prime : DS := retS (callM m__law_pick (consA (vM 0) (consA (argM (lstD false) (consA (cM (.int 2)) (consA (cM (.int 2)) (consA (cM (.int 3)) (consA (cM (.int 3)) (consA (cM (.int 5)) (consA (cM (.int 7)) (consA (cM (.int 101)) (consA (cM (.int 1000003)) (nilA)))))))))) (nilA))))
noncomputable def m__law_prime : DF := bodyM 1 [] 1 b__law_prime
theorem c__law_prime (Z : FX K mg) {f : Addr} : BodyD PP w K mg base ["_law_pen_here"] "_law_prime" (defScope s__law_prime) f 2 (defBody s__law_prime) b__law_prime := by
  intro cdv A outer s H E hr
  have nd : (["_law_pen_here"] : List Str).Nodup := by decide +kernel
  have tk : Takes (cxOf (L2.CX PP w) PP w K mg base ["_law_pen_here"] "_law_prime" (defScope s__law_prime) f cdv A outer s H E) (fun c d _ H' => E c d H') := takes_of rfl rfl rfl rfl
  have hp := passes_of (X := cxOf (L2.CX PP w) PP w K mg base ["_law_pen_here"] "_law_prime" (defScope s__law_prime) f cdv A outer s H E) rfl
  have hu := hr.rm.units
  have hu1 : _ + 1 < cLine := Nat.lt_of_le_of_lt (Nat.add_le_add_left (by decide : 1 ≤ 64) _) hu
  exact (s_one (s_ret (e_call tk (f__law_pick Z) (hr.mono (Nat.le_of_ble_eq_true rfl) : Rm 2 _) rfl (z90 Z) (k__law_pick Z) (a_cons (ev 0) (a_cons (e_lst false (a_cons e_int (a_cons e_int (a_cons e_int (a_cons e_int (a_cons e_int (a_cons e_int (a_cons e_int (a_cons e_int a_nil))))))))) a_nil)))))
theorem f__law_prime (Z : FX K mg) : FnD PP w K mg base 3 ((fun K => He.ga K "_law_prime") K) m__law_prime := by
  obtain ⟨fd, F⟩ := Z.df 47 (d := d__law_prime) rfl rfl
  exact fn_ok0 (ps := ["_law_pen_here"]) F ⟨rfl, rfl, rfl, by decide +kernel, rfl, by decide +kernel, by decide +kernel⟩ (fun _ _ _ _ _ _ us hl => match us, hl with | [_], _ => rfl) (c__law_prime Z)
theorem k__law_prime (Z : FX K mg) : PySem.W.keepIn K (.ref ((fun K => He.ga K "_law_prime") K)) = true := Z.keep 47 (d := d__law_prime) rfl
noncomputable def b__law_refused (th : DE) : DS := seqS (tryAsS 1 "InvalidWord" (exprS (th)) [("InvalidMachine", false), ("InvalidPrime", false), ("InvalidWord", true), ("TooMany", false)] (fun a d fs => retS (argM tupD (consA (argM (reprX) (consA (exnM a d "value" (vM 1)) (nilA))) (consA (argM (isxD a d [("ValueError", true), ("LookupError", false), ("ArithmeticError", false), ("OverflowError", false), ("RuntimeError", false)]) (consA (vM 1) (consA (cM (.ty "ValueError")) (nilA)))) (nilA)))))) (retS (cM .non))
theorem df__law_refused (Z : FX K mg) : ∃ fd, FunD K "_law_refused" "_law_refused" (defArgs s__law_refused) (defBody s__law_refused) (defScope s__law_refused) [] [] ((fun K => He.ga K "_law_refused") K) fd ∧ Binds K fd ["_law_call"] [] := by
  obtain ⟨fd, F⟩ := Z.df 48 (d := d__law_refused) rfl rfl
  exact ⟨fd, F, F.bindsN (ps := ["_law_call"]) fun _ _ _ _ _ _ us hl => match us, hl with | [_], _ => rfl⟩
theorem l__law_refused (Z : FX K mg) : LamD PP w K mg base ["_law_call", "e"] "_law_refused" (defScope s__law_refused) ((fun K => He.ga K "_law_refused") K) 0 (defBody s__law_refused) "_law_call" b__law_refused := by
  intro cdv A outer s H th hr act
  have nd : (["_law_call", "e"] : List Str).Nodup := by decide +kernel
  have tk : Takes (cxOf C8.CX0 PP w K mg base ["_law_call", "e"] "_law_refused" (defScope s__law_refused) ((fun K => He.ga K "_law_refused") K) cdv A outer s H C8.E0).nox W0 := LamX.takes0
  have hu := hr.rm.units
  have hu1 : _ + 1 < cLine := Nat.lt_of_le_of_lt (Nat.add_le_add_left (by decide : 1 ≤ 64) _) hu
  exact (s_cons (s_tryAs rfl rfl nd rfl rfl ⟨rfl, by decide, .inl (z70 Z)⟩ tk (z97 Z) (fun W' pn xe tk' hp => (s_one (s_expr (act _ _ _ _ _ tk')))) (fun a oe d pn fs hz hf => (s_one (s_ret (e_tup (a_cons (e_callB (call_reprX (z100 Z) hr.gd hu) v_reprX rfl (z101 Z) (by decide +kernel) (a_cons (e_exn (xf_of (z98 Z)) (z6 Z) hz hf (ev 1)) a_nil)) (a_cons (e_callB (call_isX (z98 Z) hz hf) (v_isx (z99 Z)) rfl (z19 Z) (by decide +kernel) (a_cons (ev 1) (a_cons (e_ty (n := "ValueError") rfl (z0 Z) (by decide +kernel)) a_nil))) a_nil)))))))
    (s_one (s_ret e_non)))
noncomputable def b__law_state : DS := seqS (setS 3 (argM (listD false) (consA (binM idxD (vM 0) (cM (.int 0))) (nilA)))) (seqS (forS (seqI (vM 2)) (nameG 4) (seqS (setS 5 (binM idxD (binM idxD (vM 0) (cM (.int 1))) (vM 4))) (setS 3 (lcM false (argI rangeD1 (consA (argM (lenD) (consA (vM 3) (nilA))) (nilA))) (nameG 6) (yesM) (binM modD (argM (intD) (consA (argM (sumD) (consA (lcM false (argI rangeD1 (consA (argM (lenD) (consA (vM 3) (nilA))) (nilA))) (nameG 7) (yesM) (binM mulD (binM idxD (vM 3) (vM 7)) (binM idxD (binM idxD (vM 5) (vM 7)) (vM 6))) [7]) (nilA))) (nilA))) (vM 1)) [6])))) (retS (vM 3)))
noncomputable def m__law_state : DF := bodyM 3 [] 8 b__law_state
theorem c__law_state (Z : FX K mg) {f : Addr} : BodyD PP w K mg base ["_law_plain_here", "_law_prime_here", "_law_word_here", "_law_state_here", "_law_letter", "_law_table", "_law_j", "_law_i"] "_law_state" (defScope s__law_state) f 0 (defBody s__law_state) b__law_state := by
  intro cdv A outer s H E hr
  have nd : (["_law_plain_here", "_law_prime_here", "_law_word_here", "_law_state_here", "_law_letter", "_law_table", "_law_j", "_law_i"] : List Str).Nodup := by decide +kernel
  have tk : Takes (cxOf (L2.CX PP w) PP w K mg base ["_law_plain_here", "_law_prime_here", "_law_word_here", "_law_state_here", "_law_letter", "_law_table", "_law_j", "_law_i"] "_law_state" (defScope s__law_state) f cdv A outer s H E) (fun c d _ H' => E c d H') := takes_of rfl rfl rfl rfl
  have hp := passes_of (X := cxOf (L2.CX PP w) PP w K mg base ["_law_plain_here", "_law_prime_here", "_law_word_here", "_law_state_here", "_law_letter", "_law_table", "_law_j", "_law_i"] "_law_state" (defScope s__law_state) f cdv A outer s H E) rfl
  have hu := hr.rm.units
  have hu1 : _ + 1 < cLine := Nat.lt_of_le_of_lt (Nat.add_le_add_left (by decide : 1 ≤ 64) _) hu
  exact (s_cons (s_set nd rfl (by first | exact .inl rfl | exact .inr rfl) (e_callTy call_list_of v_list rfl (z39 Z) (by decide +kernel) (a_cons (e_idx hu1 (ev 0) e_int) a_nil)))
    (s_cons (s_for hp rfl (i_seq (ev 2)) (g_name nd rfl (by first | exact .inl rfl | exact .inr rfl)) (s_cons (s_set nd rfl (by first | exact .inl rfl | exact .inr rfl) (e_idx hu1 (e_idx hu1 (ev 0) e_int) (ev 4)))
    (s_one (s_set nd rfl (by first | exact .inl rfl | exact .inr rfl) (e_lc false rfl nd (i_range1 rfl (z24 Z) (a_cons (e_callB call_len v_len rfl (z36 Z) (by decide +kernel) (a_cons (ev 3) a_nil)) a_nil)) (own := ([("_law_j", 6)] : List (Str × Nat))) (show BlkOk ["_law_plain_here", "_law_prime_here", "_law_word_here", "_law_state_here", "_law_letter", "_law_table", "_law_j", "_law_i"] (defScope s__law_state) _ _ from ⟨rfl, by decide +kernel, by decide +kernel, by decide +kernel, by decide +kernel⟩) (fun _ _ _ _ _ => (gw_name nd rfl (by first | exact .inl rfl | exact .inr rfl) (by decide))) (fun _ _ _ _ _ => ts_nil) (fun _ _ _ _ _ => (e_mod (e_callTy call_int1 v_int rfl (z18 Z) (by decide +kernel) (a_cons (e_callB (cr_sum rfl) v_sum rfl (z102 Z) (by decide +kernel) (a_cons (e_lc false rfl nd (i_range1 rfl (z24 Z) (a_cons (e_callB call_len v_len rfl (z36 Z) (by decide +kernel) (a_cons (ev 3) a_nil)) a_nil)) (own := ([("_law_i", 7)] : List (Str × Nat))) (show BlkOk ["_law_plain_here", "_law_prime_here", "_law_word_here", "_law_state_here", "_law_letter", "_law_table", "_law_j", "_law_i"] _ _ _ from ⟨rfl, by decide +kernel, by decide +kernel, by repeat (first | exact List.forall_mem_nil _ | refine List.forall_mem_cons.2 ⟨fun h => by first | (cases h; done) | exact .inl rfl | exact .inr rfl, ?_⟩), by decide +kernel⟩) (fun _ _ _ _ _ => (gw_name nd rfl (by first | exact .inl rfl | exact .inr rfl) (by decide))) (fun _ _ _ _ _ => ts_nil) (fun _ _ _ _ _ => (e_mul (e_idx hu1 (ev 3) (ev 7)) (e_idx hu1 (e_idx hu1 (ev 5) (ev 7)) (ev 6))))) a_nil)) a_nil)) (ev 1))))))))
    (s_one (s_ret (ev 3)))))
theorem f__law_state (Z : FX K mg) : FnD PP w K mg base 1 ((fun K => He.ga K "_law_state") K) m__law_state := by
  obtain ⟨fd, F⟩ := Z.df 49 (d := d__law_state) rfl rfl
  exact fn_ok0 (ps := ["_law_plain_here", "_law_prime_here", "_law_word_here"]) F ⟨rfl, rfl, rfl, by decide +kernel, rfl, by decide +kernel, by decide +kernel⟩ (fun _ _ _ _ _ _ us hl => match us, hl with | [_, _, _], _ => rfl) (c__law_state Z)
theorem k__law_state (Z : FX K mg) : PySem.W.keepIn K (.ref ((fun K => He.ga K "_law_state") K)) = true := Z.keep 49 (d := d__law_state) rfl
noncomputable def b__law_value : DS := retS (binM modD (argM (intD) (consA (argM (sumD) (consA (lcM false (argI zipD (consA (callM m__law_state (consA (vM 0) (consA (vM 1) (consA (vM 2) (nilA))))) (consA (binM idxD (vM 0) (cM (.int 2))) (nilA)))) (tupG 2 (consG (nameG 3) (consG (nameG 4) (nilG)))) (yesM) (binM mulD (vM 3) (vM 4)) [3, 4]) (nilA))) (nilA))) (vM 1))
noncomputable def m__law_value : DF := bodyM 3 [] 5 b__law_value
theorem c__law_value (Z : FX K mg) {f : Addr} : BodyD PP w K mg base ["_law_plain_here", "_law_prime_here", "_law_word_here", "_law_one", "_law_two"] "_law_value" (defScope s__law_value) f 1 (defBody s__law_value) b__law_value := by
  intro cdv A outer s H E hr
  have nd : (["_law_plain_here", "_law_prime_here", "_law_word_here", "_law_one", "_law_two"] : List Str).Nodup := by decide +kernel
  have tk : Takes (cxOf (L2.CX PP w) PP w K mg base ["_law_plain_here", "_law_prime_here", "_law_word_here", "_law_one", "_law_two"] "_law_value" (defScope s__law_value) f cdv A outer s H E) (fun c d _ H' => E c d H') := takes_of rfl rfl rfl rfl
  have hp := passes_of (X := cxOf (L2.CX PP w) PP w K mg base ["_law_plain_here", "_law_prime_here", "_law_word_here", "_law_one", "_law_two"] "_law_value" (defScope s__law_value) f cdv A outer s H E) rfl
  have hu := hr.rm.units
  have hu1 : _ + 1 < cLine := Nat.lt_of_le_of_lt (Nat.add_le_add_left (by decide : 1 ≤ 64) _) hu
  exact (s_one (s_ret (e_mod (e_callTy call_int1 v_int rfl (z18 Z) (by decide +kernel) (a_cons (e_callB (cr_sum rfl) v_sum rfl (z102 Z) (by decide +kernel) (a_cons (e_lc false rfl nd (i_zip rfl (z14 Z) (a_cons (e_call tk (f__law_state Z) (hr.mono (Nat.le_of_ble_eq_true rfl) : Rm 1 _) rfl (z103 Z) (k__law_state Z) (a_cons (ev 0) (a_cons (ev 1) (a_cons (ev 2) a_nil)))) (a_cons (e_idx hu1 (ev 0) e_int) a_nil))) (own := ([("_law_one", 3), ("_law_two", 4)] : List (Str × Nat))) (show BlkOk ["_law_plain_here", "_law_prime_here", "_law_word_here", "_law_one", "_law_two"] (defScope s__law_value) _ _ from ⟨rfl, by decide +kernel, by decide +kernel, by decide +kernel, by decide +kernel⟩) (fun _ _ _ _ _ => (gw_tup rfl (gsw_cons (gw_name nd rfl (by first | exact .inl rfl | exact .inr rfl) (by decide)) (gsw_cons (gw_name nd rfl (by first | exact .inl rfl | exact .inr rfl) (by decide)) gsw_nil)))) (fun _ _ _ _ _ => ts_nil) (fun _ _ _ _ _ => (e_mul (ev 3) (ev 4)))) a_nil)) a_nil)) (ev 1))))
theorem f__law_value (Z : FX K mg) : FnD PP w K mg base 2 ((fun K => He.ga K "_law_value") K) m__law_value := by
  obtain ⟨fd, F⟩ := Z.df 50 (d := d__law_value) rfl rfl
  exact fn_ok0 (ps := ["_law_plain_here", "_law_prime_here", "_law_word_here"]) F ⟨rfl, rfl, rfl, by decide +kernel, rfl, by decide +kernel, by decide +kernel⟩ (fun _ _ _ _ _ _ us hl => match us, hl with | [_, _, _], _ => rfl) (c__law_value Z)
theorem k__law_value (Z : FX K mg) : PySem.W.keepIn K (.ref ((fun K => He.ga K "_law_value") K)) = true := Z.keep 50 (d := d__law_value) rfl
noncomputable def b_law : DS := seqS (setS 1 (callM m__law_pen (consA (vM 0) (nilA)))) (seqS (forS (argI rangeD1 (consA (binM addD (cM (.int 4)) (argM (min2D) (consA (cM (.int 4)) (consA (argM (lenD) (consA (vM 0) (nilA))) (nilA))))) (nilA))) (nameG 2) (seqS (asgS (argM tupD (consA (callM m__law_prime (consA (vM 1) (nilA))) (consA (callM m__law_letters (consA (vM 1) (consA (cM (.int 3)) (nilA)))) (nilA)))) (tupG 2 (consG (nameG 6) (consG (nameG 7) (nilG))))) (seqS (setS 3 (lcM false (argI rangeD1 (consA (cM (.int 2)) (nilA))) (nameG 9) (yesM) (callM m__law_plain (consA (vM 1) (consA (vM 6) (consA (vM 7) (consA (callM m__law_draw (consA (vM 1) (consA (cM (.int 5)) (nilA)))) (nilA)))))) [9])) (seqS (setS 4 (lcM false (seqI (vM 3)) (nameG 11) (yesM) (callM m__law_made (consA (vM 11) (consA (vM 6) (consA (vM 7) (nilA))))) [11])) (seqS (forS (argI rangeD1 (consA (cM (.int 4)) (nilA))) (nameG 5) (seqS (setS 8 (callM m__law_long_word (consA (vM 1) (consA (vM 7) (nilA))))) (forS (seqI (argM tupD (consA (cM (.int 0)) (consA (cM (.int 1)) (consA (cM (.int 0)) (nilA)))))) (nameG 9) (seqS (ifS (blM (binM neD (argM (reprX) (consA (methM [("Machine", m_Machine_value_of)] "value_of" (binM idxD (vM 4) (vM 9)) (consA (vM 8) (nilA))) (nilA))) (argM (reprX) (consA (callM m__law_value (consA (binM idxD (vM 3) (vM 9)) (consA (vM 6) (consA (vM 8) (nilA))))) (nilA))))) (retS (cM (.bl false))) (skipS)) (ifS (blM (binM neD (argM (reprX) (consA (methM [("Machine", m_Machine_state_after)] "state_after" (binM idxD (vM 4) (vM 9)) (consA (vM 8) (nilA))) (nilA))) (argM (reprX) (consA (argM (tupleD) (consA (callM m__law_state (consA (binM idxD (vM 3) (vM 9)) (consA (vM 6) (consA (vM 8) (nilA))))) (nilA))) (nilA))))) (retS (cM (.bl false))) (skipS)))))) (seqS (asgS (argM tupD (consA (callM m__law_odd_word (consA (vM 1) (consA (vM 7) (nilA)))) (consA (callM m__law_draw (consA (vM 1) (consA (cM (.int 2)) (nilA)))) (nilA)))) (tupG 2 (consG (nameG 10) (consG (nameG 9) (nilG))))) (seqS (ifS (blM (binM neD (lamM 0 "law" 1 b__law_refused (methM [("Machine", m_Machine_value_of)] "value_of" (binM idxD (vM 4) (vM 9)) (consA (vM 10) (nilA)))) (argM tupD (consA (argM (reprX) (consA (vM 10) (nilA))) (consA (cM (.bl true)) (nilA)))))) (retS (cM (.bl false))) (skipS)) (ifS (blM (binM neD (lamM 0 "law" 1 b__law_refused (methM [("Machine", m_Machine_state_after)] "state_after" (binM idxD (vM 4) (vM 9)) (consA (vM 10) (nilA)))) (argM tupD (consA (argM (reprX) (consA (vM 10) (nilA))) (consA (cM (.bl true)) (nilA)))))) (retS (cM (.bl false))) (skipS))))))))) (retS (cM (.bl true))))
noncomputable def m_law : DF := bodyM 1 [] 12 b_law
theorem c_law (Z : FX K mg) (TB : Tbs K mg base tl0) : BodyC PP w K mg base ["_law_script", "_law_pen_here", "_law_turn", "_law_plains", "_law_told", "_law_again", "_law_prime_here", "_law_letters_here", "_law_word_here", "_law_k", "_law_odd", "_law_plain_here"] "law" (defScope s_law) (He.ga K "law") 11 (defBody s_law) b_law (codeV K "law") := by
  intro A outer s H E hr
  have nd : (["_law_script", "_law_pen_here", "_law_turn", "_law_plains", "_law_told", "_law_again", "_law_prime_here", "_law_letters_here", "_law_word_here", "_law_k", "_law_odd", "_law_plain_here"] : List Str).Nodup := by decide +kernel
  have tk : Takes (cxOf (L2.CX PP w) PP w K mg base ["_law_script", "_law_pen_here", "_law_turn", "_law_plains", "_law_told", "_law_again", "_law_prime_here", "_law_letters_here", "_law_word_here", "_law_k", "_law_odd", "_law_plain_here"] "law" (defScope s_law) (He.ga K "law") (codeV K "law") A outer s H E) (fun c d _ H' => E c d H') := takes_of rfl rfl rfl rfl
  have hp := passes_of (X := cxOf (L2.CX PP w) PP w K mg base ["_law_script", "_law_pen_here", "_law_turn", "_law_plains", "_law_told", "_law_again", "_law_prime_here", "_law_letters_here", "_law_word_here", "_law_k", "_law_odd", "_law_plain_here"] "law" (defScope s_law) (He.ga K "law") (codeV K "law") A outer s H E) rfl
  have hu := hr.rm.units
  have hu1 : _ + 1 < cLine := Nat.lt_of_le_of_lt (Nat.add_le_add_left (by decide : 1 ≤ 64) _) hu
  exact (s_cons (s_set nd rfl (by first | exact .inl rfl | exact .inr rfl) (e_call tk (f__law_pen Z) (hr.mono (Nat.le_of_ble_eq_true rfl) : Rm 1 _) rfl (z104 Z) (k__law_pen Z) (a_cons (ev 0) a_nil)))
    (s_cons (s_for hp rfl (i_range1 rfl (z24 Z) (a_cons (e_add e_int (e_callB (call_min2 rfl) v_min2 rfl (z105 Z) (by decide +kernel) (a_cons e_int (a_cons (e_callB call_len v_len rfl (z36 Z) (by decide +kernel) (a_cons (ev 0) a_nil)) a_nil)))) a_nil)) (g_name nd rfl (by first | exact .inl rfl | exact .inr rfl)) (s_cons (s_asg (e_tup (a_cons (e_call tk (f__law_prime Z) (hr.mono (Nat.le_of_ble_eq_true rfl) : Rm 3 _) rfl (z107 Z) (k__law_prime Z) (a_cons (ev 1) a_nil)) (a_cons (e_call tk (f__law_letters Z) (hr.mono (Nat.le_of_ble_eq_true rfl) : Rm 3 _) rfl (z106 Z) (k__law_letters Z) (a_cons (ev 1) (a_cons e_int a_nil))) a_nil))) (g_tup rfl (gs_cons (g_name nd rfl (by first | exact .inl rfl | exact .inr rfl)) (gs_cons (g_name nd rfl (by first | exact .inl rfl | exact .inr rfl)) gs_nil))))
    (s_cons (s_setLc false rfl nd rfl rfl rfl (i_range1 rfl (z24 Z) (a_cons e_int a_nil)) (own := ([("_law_k", 9)] : List (Str × Nat))) (show BlkOk ["_law_script", "_law_pen_here", "_law_turn", "_law_plains", "_law_told", "_law_again", "_law_prime_here", "_law_letters_here", "_law_word_here", "_law_k", "_law_odd", "_law_plain_here"] (defScope s_law) _ _ from ⟨rfl, by decide +kernel, by decide +kernel, by decide +kernel, by decide +kernel⟩) (fun _ _ _ _ _ => (gw_name nd rfl (by first | exact .inl rfl | exact .inr rfl) (by decide))) (fun _ _ _ _ _ => ts_nil) (fun _ _ _ _ _ => (e_call takes_blk (f__law_plain Z) (hr.mono (Nat.le_of_ble_eq_true rfl) : Rm 4 _) rfl (z108 Z) (k__law_plain Z) (a_cons (ev 1) (a_cons (ev 6) (a_cons (ev 7) (a_cons (e_call takes_blk (f__law_draw Z) (hr.mono (Nat.le_of_ble_eq_true rfl) : Rm 1 _) rfl (z87 Z) (k__law_draw Z) (a_cons (ev 1) (a_cons e_int a_nil))) a_nil)))))))
    (s_cons (s_set nd rfl (by first | exact .inl rfl | exact .inr rfl) (e_lc false rfl nd (i_seq (ev 3)) (own := ([("_law_plain_here", 11)] : List (Str × Nat))) (show BlkOk ["_law_script", "_law_pen_here", "_law_turn", "_law_plains", "_law_told", "_law_again", "_law_prime_here", "_law_letters_here", "_law_word_here", "_law_k", "_law_odd", "_law_plain_here"] (defScope s_law) _ _ from ⟨rfl, by decide +kernel, by decide +kernel, by decide +kernel, by decide +kernel⟩) (fun _ _ _ _ _ => (gw_name nd rfl (by first | exact .inl rfl | exact .inr rfl) (by decide))) (fun _ _ _ _ _ => ts_nil) (fun _ _ _ _ _ => (e_call takes_blk (f__law_made Z) (hr.mono (Nat.le_of_ble_eq_true rfl) : Rm 11 _) rfl (z109 Z) (k__law_made Z) (a_cons (ev 11) (a_cons (ev 6) (a_cons (ev 7) a_nil)))))))
    (s_cons (s_for hp rfl (i_range1 rfl (z24 Z) (a_cons e_int a_nil)) (g_name nd rfl (by first | exact .inl rfl | exact .inr rfl)) (s_cons (s_set nd rfl (by first | exact .inl rfl | exact .inr rfl) (e_call tk (f__law_long_word Z) (hr.mono (Nat.le_of_ble_eq_true rfl) : Rm 4 _) rfl (z110 Z) (k__law_long_word Z) (a_cons (ev 1) (a_cons (ev 7) a_nil))))
    (s_one (s_for hp rfl (i_seq (e_tup (a_cons e_int (a_cons e_int (a_cons e_int a_nil))))) (g_name nd rfl (by first | exact .inl rfl | exact .inr rfl)) (s_cons (s_if (t_ne hu (e_callB (call_reprX (z100 Z) hr.gd hu) v_reprX rfl (z101 Z) (by decide +kernel) (a_cons (e_meth tk (.cons ⟨(z12 Z), _, 6, (z111 Z), f_Machine_value_of_at_Machine Z, (hr.mono (Nat.le_of_ble_eq_true rfl) : Rm 6 _)⟩ .nil) (e_idx hu1 (ev 4) (ev 9)) (a_cons (ev 8) a_nil)) a_nil)) (e_callB (call_reprX (z100 Z) hr.gd hu) v_reprX rfl (z101 Z) (by decide +kernel) (a_cons (e_call tk (f__law_value Z) (hr.mono (Nat.le_of_ble_eq_true rfl) : Rm 2 _) rfl (z112 Z) (k__law_value Z) (a_cons (e_idx hu1 (ev 3) (ev 9)) (a_cons (ev 6) (a_cons (ev 8) a_nil)))) a_nil))) (s_one (s_ret e_bl)) s_nil)
    (s_one (s_if (t_ne hu (e_callB (call_reprX (z100 Z) hr.gd hu) v_reprX rfl (z101 Z) (by decide +kernel) (a_cons (e_meth tk (.cons ⟨(z12 Z), _, 5, (z74 Z), f_Machine_state_after_at_Machine Z, (hr.mono (Nat.le_of_ble_eq_true rfl) : Rm 5 _)⟩ .nil) (e_idx hu1 (ev 4) (ev 9)) (a_cons (ev 8) a_nil)) a_nil)) (e_callB (call_reprX (z100 Z) hr.gd hu) v_reprX rfl (z101 Z) (by decide +kernel) (a_cons (e_callTy call_tuple_of v_tuple rfl (z23 Z) (by decide +kernel) (a_cons (e_call tk (f__law_state Z) (hr.mono (Nat.le_of_ble_eq_true rfl) : Rm 1 _) rfl (z103 Z) (k__law_state Z) (a_cons (e_idx hu1 (ev 3) (ev 9)) (a_cons (ev 6) (a_cons (ev 8) a_nil)))) a_nil)) a_nil))) (s_one (s_ret e_bl)) s_nil)))))))
    (s_cons (s_asg (e_tup (a_cons (e_call tk (f__law_odd_word Z) (hr.mono (Nat.le_of_ble_eq_true rfl) : Rm 3 _) rfl (z113 Z) (k__law_odd_word Z) (a_cons (ev 1) (a_cons (ev 7) a_nil))) (a_cons (e_call tk (f__law_draw Z) (hr.mono (Nat.le_of_ble_eq_true rfl) : Rm 1 _) rfl (z87 Z) (k__law_draw Z) (a_cons (ev 1) (a_cons e_int a_nil))) a_nil))) (g_tup rfl (gs_cons (g_name nd rfl (by first | exact .inl rfl | exact .inr rfl)) (gs_cons (g_name nd rfl (by first | exact .inl rfl | exact .inr rfl)) gs_nil))))
    (s_cons (s_if (t_ne hu (raise_row1 (df__law_refused Z) fun fd h => e_lam (k := 6) (i := 0) (y := "law") (a := "_law_call") (Ng := ["e"]) h.1 h.2 ⟨rfl, rfl, rfl, by decide +kernel, rfl, by decide +kernel, by decide +kernel⟩ (by first | exact Or.inl rfl | exact Or.inr (Or.inl rfl) | exact Or.inr (Or.inr rfl)) ((l__law_refused Z).mono (Nat.le_of_ble_eq_true rfl)) rfl (z114 Z) (TB "law" (by decide)).1 (TB "law" (by decide)).2 rfl (hr.mono (Nat.le_of_ble_eq_true rfl)) (LamX.lamS_by (show LamX.lamSB (defScope s_law) _ = true by decide +kernel)) rfl (fun _ _ _ _ _ => rfl) (fun f c A outer s H E hr => have hu := hr.rm.units; have hu1 := Nat.lt_of_le_of_lt (Nat.add_le_add_left (by decide : 1 ≤ 64) _) hu; (e_meth (takes_of rfl rfl rfl rfl) (.cons ⟨(z12 Z), _, 6, (z111 Z), f_Machine_value_of_at_Machine Z, (hr.mono (Nat.le_of_ble_eq_true rfl) : Rm 6 _)⟩ .nil) (e_idx hu1 (ev 4) (ev 9)) (a_cons (ev 10) a_nil)))) (e_tup (a_cons (e_callB (call_reprX (z100 Z) hr.gd hu) v_reprX rfl (z101 Z) (by decide +kernel) (a_cons (ev 10) a_nil)) (a_cons e_bl a_nil)))) (s_one (s_ret e_bl)) s_nil)
    (s_one (s_if (t_ne hu (raise_row1 (df__law_refused Z) fun fd h => e_lam (k := 5) (i := 0) (y := "law") (a := "_law_call") (Ng := ["e"]) h.1 h.2 ⟨rfl, rfl, rfl, by decide +kernel, rfl, by decide +kernel, by decide +kernel⟩ (by first | exact Or.inl rfl | exact Or.inr (Or.inl rfl) | exact Or.inr (Or.inr rfl)) ((l__law_refused Z).mono (Nat.le_of_ble_eq_true rfl)) rfl (z114 Z) (TB "law" (by decide)).1 (TB "law" (by decide)).2 rfl (hr.mono (Nat.le_of_ble_eq_true rfl)) (LamX.lamS_by (show LamX.lamSB (defScope s_law) _ = true by decide +kernel)) rfl (fun _ _ _ _ _ => rfl) (fun f c A outer s H E hr => have hu := hr.rm.units; have hu1 := Nat.lt_of_le_of_lt (Nat.add_le_add_left (by decide : 1 ≤ 64) _) hu; (e_meth (takes_of rfl rfl rfl rfl) (.cons ⟨(z12 Z), _, 5, (z74 Z), f_Machine_state_after_at_Machine Z, (hr.mono (Nat.le_of_ble_eq_true rfl) : Rm 5 _)⟩ .nil) (e_idx hu1 (ev 4) (ev 9)) (a_cons (ev 10) a_nil)))) (e_tup (a_cons (e_callB (call_reprX (z100 Z) hr.gd hu) v_reprX rfl (z101 Z) (by decide +kernel) (a_cons (ev 10) a_nil)) (a_cons e_bl a_nil)))) (s_one (s_ret e_bl)) s_nil)))))))))
    (s_one (s_ret e_bl))))
theorem f_law (Z : FX K mg) (TB : Tbs K mg base tl0) : FnD PP w K mg base 12 ((fun K => He.ga K "law") K) m_law := by
  obtain ⟨fd, F⟩ := Z.df 51 (d := d_law) rfl rfl
  exact fn_okC (y := "law") (ps := ["_law_script"]) F ⟨rfl, rfl, rfl, by decide +kernel, rfl, by decide +kernel, by decide +kernel⟩ (fun _ _ _ _ _ _ us hl => match us, hl with | [_], _ => rfl) (c_law Z TB)
theorem k_law (Z : FX K mg) : PySem.W.keepIn K (.ref ((fun K => He.ga K "law") K)) = true := Z.keep 51 (d := d_law) rfl
end
def lawLevel : Nat := 12
end G

set_option Elab.async false
/-! plain number theory: Fermat's little theorem -/
namespace Pl
/-- a prime, by division -/
def Pr (p : Nat) : Prop := 2 ≤ p ∧ ∀ d, d ∣ p → d = 1 ∨ d = p
theorem Pr.cop {p a : Nat} (h : Pr p) (ha : ¬ p ∣ a) : Nat.Coprime p a := by
  rcases h.2 (Nat.gcd p a) (Nat.gcd_dvd_left p a) with e | e
  · exact e
  · exact absurd (e ▸ Nat.gcd_dvd_right p a) ha
theorem Pr.euclid {p a b : Nat} (h : Pr p) (hd : p ∣ a * b) : p ∣ a ∨ p ∣ b := by
  by_cases ha : p ∣ a
  · exact .inl ha
  · exact .inr (Nat.Coprime.dvd_of_dvd_mul_left (h.cop ha) hd)
def choose : Nat → Nat → Nat
  | _, 0 => 1
  | 0, _ + 1 => 0
  | n + 1, k + 1 => choose n k + choose n (k + 1)
theorem choose_zero (n : Nat) : choose n 0 = 1 := by cases n <;> rfl
theorem choose_gt : ∀ n k : Nat, n < k → choose n k = 0
  | _, 0, h => by omega
  | 0, _ + 1, _ => rfl
  | n + 1, k + 1, h => by
    show choose n k + choose n (k + 1) = 0
    rw [choose_gt n k (by omega), choose_gt n (k + 1) (by omega)]
theorem choose_self : ∀ n : Nat, choose n n = 1
  | 0 => rfl
  | n + 1 => by
    show choose n n + choose n (n + 1) = 1
    rw [choose_self n, choose_gt n (n + 1) (by omega)]
theorem choose_mul : ∀ n k : Nat, (k + 1) * choose (n + 1) (k + 1) = (n + 1) * choose n k
  | 0, 0 => rfl
  | 0, k + 1 => by
    show (k + 2) * (choose 0 (k + 1) + choose 0 (k + 2)) = 1 * choose 0 (k + 1)
    rw [choose_gt 0 (k + 1) (by omega), choose_gt 0 (k + 2) (by omega)]
    omega
  | n + 1, 0 => by
    have h : 1 * choose (n + 1) 1 = (n + 1) * choose n 0 := choose_mul n 0
    show 1 * choose (n + 2) 1 = (n + 2) * choose (n + 1) 0
    have e : choose (n + 2) 1 = choose (n + 1) 0 + choose (n + 1) 1 := rfl
    rw [choose_zero] at *
    rw [e]
    omega
  | n + 1, k + 1 => by
    have h1 := choose_mul n (k + 1)
    have h0 := choose_mul n k
    have e1 : choose (n + 2) (k + 2) = choose (n + 1) (k + 1) + choose (n + 1) (k + 2) := rfl
    have e2 : choose (n + 1) (k + 1) = choose n k + choose n (k + 1) := rfl
    rw [e1, Nat.mul_add]
    have : (k + 1 + 1) * choose (n + 1) (k + 1) = (k + 1) * choose (n + 1) (k + 1) + choose (n + 1) (k + 1) := by
      rw [Nat.add_mul, Nat.one_mul]
    rw [this, h0, h1]
    have e3 : (n + 1 + 1) * choose (n + 1) (k + 1) = (n + 1) * choose (n + 1) (k + 1) + choose (n + 1) (k + 1) := by
      rw [Nat.add_mul, Nat.one_mul]
    rw [e3, e2, Nat.mul_add]
    omega
theorem Pr.dvd_choose {p k : Nat} (h : Pr p) (h0 : 0 < k) (hk : k < p) : p ∣ choose p k := by
  obtain ⟨n, rfl⟩ : ∃ n, p = n + 1 := ⟨p - 1, by have := h.1; omega⟩
  obtain ⟨j, rfl⟩ : ∃ j, k = j + 1 := ⟨k - 1, by omega⟩
  have e := choose_mul n j
  have d : (n + 1) ∣ (j + 1) * choose (n + 1) (j + 1) := ⟨choose n j, e⟩
  rcases h.euclid d with d | d
  · exact absurd (Nat.le_of_dvd (by omega) d) (by omega)
  · exact d
/-- the sum of f 0 .. f (n - 1) -/
def sumTo (f : Nat → Nat) : Nat → Nat
  | 0 => 0
  | n + 1 => sumTo f n + f n
theorem sumTo_add (f g : Nat → Nat) : ∀ n, sumTo (fun k => f k + g k) n = sumTo f n + sumTo g n
  | 0 => rfl
  | n + 1 => by
    show sumTo (fun k => f k + g k) n + (f n + g n) = sumTo f n + f n + (sumTo g n + g n)
    rw [sumTo_add f g n]
    omega
theorem sumTo_mul (c : Nat) (f : Nat → Nat) : ∀ n, sumTo (fun k => c * f k) n = c * sumTo f n
  | 0 => rfl
  | n + 1 => by
    show sumTo (fun k => c * f k) n + c * f n = c * (sumTo f n + f n)
    rw [sumTo_mul c f n, Nat.mul_add]
theorem sumTo_front (f : Nat → Nat) : ∀ n, sumTo f (n + 1) = f 0 + sumTo (fun k => f (k + 1)) n
  | 0 => by simp [sumTo]
  | n + 1 => by
    show sumTo f (n + 1) + f (n + 1) = f 0 + (sumTo (fun k => f (k + 1)) n + f (n + 1))
    rw [sumTo_front f n]
    omega
theorem sumTo_congr {f g : Nat → Nat} : ∀ {n : Nat}, (∀ k, k < n → f k = g k) → sumTo f n = sumTo g n
  | 0, _ => rfl
  | n + 1, h => by
    show sumTo f n + f n = sumTo g n + g n
    rw [sumTo_congr fun k hk => h k (by omega), h n (by omega)]
theorem sumTo_dvd {p : Nat} {f : Nat → Nat} : ∀ {n : Nat}, (∀ k, k < n → p ∣ f k) → p ∣ sumTo f n
  | 0, _ => Nat.dvd_zero p
  | n + 1, h => Nat.dvd_add (sumTo_dvd fun k hk => h k (by omega)) (h n (by omega))
theorem binom (a : Nat) : ∀ n, (a + 1) ^ n = sumTo (fun k => choose n k * a ^ k) (n + 1)
  | 0 => by simp [sumTo, choose]
  | n + 1 => by
    rw [Nat.pow_succ, binom a n, sumTo_front (fun k => choose (n + 1) k * a ^ k) (n + 1)]
    have e : sumTo (fun k => choose (n + 1) (k + 1) * a ^ (k + 1)) (n + 1) = sumTo (fun k => a * (choose n k * a ^ k) + choose n (k + 1) * a ^ (k + 1)) (n + 1) :=
      sumTo_congr fun k _ => by
        show (choose n k + choose n (k + 1)) * a ^ (k + 1) = _
        rw [Nat.add_mul, Nat.pow_succ]
        congr 1
        rw [Nat.mul_comm a, Nat.mul_assoc]
    rw [e, sumTo_add, sumTo_mul]
    have e2 : sumTo (fun k => choose n (k + 1) * a ^ (k + 1)) (n + 1) + choose n 0 * a ^ 0 = sumTo (fun k => choose n k * a ^ k) (n + 1) := by
      rw [sumTo_front (fun k => choose n k * a ^ k) n]
      show sumTo (fun k => choose n (k + 1) * a ^ (k + 1)) n + choose n (n + 1) * a ^ (n + 1) + _ = _
      rw [choose_gt n (n + 1) (by omega)]
      omega
    rw [choose_zero] at e2 ⊢
    rw [Nat.mul_add, Nat.mul_one, Nat.mul_comm _ a]
    omega
theorem Pr.frob {p : Nat} (h : Pr p) : ∀ a : Nat, a ^ p % p = a % p
  | 0 => by
    have := h.1
    rw [Nat.zero_pow (by omega)]
  | a + 1 => by
    have h2 := h.1
    rw [binom a p]
    obtain ⟨n, rfl⟩ : ∃ n, p = n + 1 := ⟨p - 1, by omega⟩
    show (sumTo (fun k => choose (n + 1) k * a ^ k) (n + 1) + choose (n + 1) (n + 1) * a ^ (n + 1)) % (n + 1) = _
    rw [sumTo_front, choose_zero, choose_self, Nat.one_mul, Nat.one_mul, Nat.pow_zero]
    have d : (n + 1) ∣ sumTo (fun k => choose (n + 1) (k + 1) * a ^ (k + 1)) n := sumTo_dvd fun k hk => Nat.dvd_trans (h.dvd_choose (by omega) (by omega)) (Nat.dvd_mul_right _ _)
    obtain ⟨q, hq⟩ := d
    rw [hq]
    have f := h.frob a
    rw [show 1 + (n + 1) * q + a ^ (n + 1) = a ^ (n + 1) + 1 + (n + 1) * q by omega, Nat.add_mul_mod_self_left, Nat.add_mod, f, ← Nat.add_mod]
theorem Pr.fermat {p a : Nat} (h : Pr p) (ha : ¬ p ∣ a) : a ^ (p - 1) % p = 1 := by
  have h2 := h.1
  have f := h.frob a
  obtain ⟨n, rfl⟩ : ∃ n, p = n + 1 := ⟨p - 1, by omega⟩
  show a ^ n % (n + 1) = 1
  rw [Nat.pow_succ] at f
  have h0 : 1 ≤ a ^ n := by
    by_cases z : a = 0
    · subst z
      exact absurd (Nat.dvd_zero _) ha
    · exact Nat.pow_pos (by omega)
  have d : (n + 1) ∣ (a ^ n - 1) * a := by
    rw [Nat.sub_mul, Nat.one_mul]
    exact Nat.dvd_of_mod_eq_zero (Nat.sub_mod_eq_zero_of_mod_eq f)
  rcases h.euclid d with d | d
  · obtain ⟨q, hq⟩ := d
    rw [show a ^ n = 1 + (n + 1) * q by omega, Nat.add_mul_mod_self_left]
    exact Nat.mod_eq_of_lt (by omega)
  · exact absurd d ha
/-- a prime by trial of all divisors up to its root -/
def noDiv (p : Nat) : Nat → Nat → Bool
  | 0, _ => true
  | n + 1, d => p % d != 0 && noDiv p n (d + 1)
theorem noDiv_spec {p : Nat} : ∀ {n d : Nat}, noDiv p n d = true → ∀ e, d ≤ e → e < d + n → p % e ≠ 0
  | 0, _, _, e, h1, h2 => by omega
  | n + 1, d, h, e, h1, h2 => by
    unfold noDiv at h
    rw [Bool.and_eq_true] at h
    by_cases z : e = d
    · subst z
      simpa using h.1
    · exact noDiv_spec h.2 e (by omega) (by omega)
theorem pr_of {p n : Nat} (h2 : 2 ≤ p) (hn : p < (n + 2) * (n + 2)) (h : noDiv p n 2 = true) : Pr p := by
  have key : ∀ d, d ∣ p → 2 ≤ d → d < n + 2 → False := fun d hd h1 h3 => noDiv_spec h d h1 (by omega) (Nat.mod_eq_zero_of_dvd hd)
  refine ⟨h2, fun d hd => ?_⟩
  obtain ⟨e, he⟩ := hd
  by_cases d0 : d = 0
  · subst d0
    omega
  by_cases e0 : e = 0
  · subst e0
    omega
  by_cases d1 : d = 1
  · exact .inl d1
  by_cases e1 : e = 1
  · subst e1
    exact .inr (by omega)
  exfalso
  by_cases hd : d < n + 2
  · exact key d ⟨e, he⟩ (by omega) hd
  · by_cases he' : e < n + 2
    · exact key e ⟨d, by rw [he, Nat.mul_comm]⟩ (by omega) he'
    · have : (n + 2) * (n + 2) ≤ d * e := Nat.mul_le_mul (by omega) (by omega)
      omega
theorem pr2 : Pr 2 := pr_of (n := 0) (by decide) (by decide) rfl
theorem pr3 : Pr 3 := pr_of (n := 0) (by decide) (by decide) rfl
theorem pr5 : Pr 5 := pr_of (n := 1) (by decide) (by decide) rfl
theorem pr7 : Pr 7 := pr_of (n := 1) (by decide) (by decide) rfl
theorem pr101 : Pr 101 := pr_of (n := 9) (by decide) (by decide) (by decide +kernel)
theorem prBig : Pr 1000003 := pr_of (n := 1000) (by decide) (by decide) (by decide +kernel)
end Pl

set_option Elab.async false
set_option linter.all false
/-! plain: remainders -/
namespace Pl
theorem mul_mod_l (a b m : Int) : (a % m * b) % m = (a * b) % m := by
  rw [Int.mul_emod, Int.emod_emod_of_dvd _ (Int.dvd_refl m), ← Int.mul_emod]
theorem mul_mod_r (a b m : Int) : (a * (b % m)) % m = (a * b) % m := by
  rw [Int.mul_comm, mul_mod_l, Int.mul_comm]
theorem pow_mod (a m : Int) : ∀ n : Nat, ((a % m) ^ n) % m = (a ^ n) % m
  | 0 => by rw [Int.pow_zero, Int.pow_zero]
  | n + 1 => by
    rw [Int.pow_succ, Int.pow_succ, Int.mul_emod, pow_mod a m n, Int.emod_emod_of_dvd _ (Int.dvd_refl m), ← Int.mul_emod]
theorem mulpow_mod (a b m : Int) (n : Nat) : (a * (b % m) ^ n) % m = (a * b ^ n) % m := by
  rw [Int.mul_emod, pow_mod, ← Int.mul_emod]
theorem sq_pow (x : Int) (u : Nat) : (x * x) ^ u = x ^ (2 * u) := by
  rw [Int.pow_mul, Int.pow_succ, Int.pow_succ, Int.pow_zero, Int.one_mul]
/-- one turn of the power loop -/
theorem pw_even {f x m : Int} {t : Nat} (ht : t % 2 = 0) : (f * (x * x % m) ^ (t / 2)) % m = (f * x ^ t) % m := by
  rw [mulpow_mod, sq_pow, show 2 * (t / 2) = t by omega]
theorem pw_odd {f x m : Int} {t : Nat} (ht : t % 2 = 1) : ((f * x % m) * (x * x % m) ^ (t / 2)) % m = (f * x ^ t) % m := by
  rw [mulpow_mod, sq_pow, mul_mod_l, Int.mul_assoc, show x * x ^ (2 * (t / 2)) = x ^ t from by
    rw [Int.mul_comm, ← Int.pow_succ, show (2 * (t / 2)).succ = t by omega]]
/-- Fermat, of integers -/
theorem Pr.fermatI {p : Nat} (h : Pr p) {b : Int} (h0 : 0 < b) (h1 : b < p) : (b ^ (p - 1)) % (p : Int) = 1 := by
  obtain ⟨n, rfl⟩ : ∃ n : Nat, b = (n : Int) := ⟨b.toNat, by omega⟩
  have hn : ¬ p ∣ n := fun d => by
    have := Nat.le_of_dvd (by omega) d
    omega
  have f := h.fermat hn
  have e : ((n ^ (p - 1) % p : Nat) : Int) = 1 := by rw [f]; rfl
  simpa using e
/-- the quotient modulo a prime -/
theorem Pr.quot {p : Nat} (h : Pr p) {a b : Int} (h0 : 0 < b) (h1 : b < p) (ha : 0 ≤ a) (ha1 : a < p) : ((a * (b ^ (p - 2) % (p : Int))) % (p : Int) * b) % (p : Int) = a := by
  have h2 := h.1
  rw [mul_mod_l, Int.mul_assoc, ← mul_mod_r, mul_mod_l, ← Int.pow_succ, show (p - 2).succ = p - 1 by omega, h.fermatI h0 h1, Int.mul_one]
  exact Int.emod_eq_of_lt ha ha1
end Pl

set_option Elab.async false
set_option linter.all false
/-! plain: fractions as rationals -/
namespace Pl
def dv (t b : Int) : Int := if 0 < b then (Int.gcd t b : Nat) else -((Int.gcd t b : Nat) : Int)
theorem gcd_pos' {t b : Int} (h : b ≠ 0) : 0 < Int.gcd t b := Nat.pos_of_ne_zero fun z => h (Int.gcd_eq_zero_iff.mp z).2
theorem dv_ne {t b : Int} (h : b ≠ 0) : dv t b ≠ 0 := by
  have := gcd_pos' (t := t) h
  unfold dv
  split <;> omega
theorem dv_t {t b : Int} : dv t b ∣ t := by
  unfold dv
  split
  · exact Int.gcd_dvd_left ..
  · exact Int.neg_dvd.mpr (Int.gcd_dvd_left ..)
theorem dv_b {t b : Int} : dv t b ∣ b := by
  unfold dv
  split
  · exact Int.gcd_dvd_right ..
  · exact Int.neg_dvd.mpr (Int.gcd_dvd_right ..)
theorem dv_abs {t b : Int} : (dv t b).natAbs = Int.gcd t b := by
  unfold dv
  split <;> simp
theorem dv_sign {t b : Int} (h : b ≠ 0) : 0 < b / dv t b := by
  obtain ⟨k, hk⟩ := dv_b (t := t) (b := b)
  have hd := dv_ne (t := t) h
  have e : b / dv t b = k := by
    conv => lhs; lhs; rw [hk]
    exact Int.mul_ediv_cancel_left _ hd
  rw [e]
  have hg := gcd_pos' (t := t) h
  by_cases hb : 0 < b
  · have : dv t b = (Int.gcd t b : Nat) := if_pos hb
    rw [this] at hk
    refine Int.pos_of_mul_pos_right (a := ((Int.gcd t b : Nat) : Int)) ?_ (by omega)
    omega
  · have : dv t b = -((Int.gcd t b : Nat) : Int) := if_neg hb
    rw [this] at hk
    refine Int.pos_of_mul_pos_right (a := ((Int.gcd t b : Nat) : Int)) ?_ (by omega)
    rw [Int.neg_mul] at hk
    omega
theorem dv_cop {t b : Int} (h : b ≠ 0) : Int.gcd (t / dv t b) (b / dv t b) = 1 := by
  have hg := gcd_pos' (t := t) h
  rw [Int.gcd_ediv dv_t dv_b, dv_abs]
  exact Nat.div_self hg
/-- a fraction's lowest terms -/
theorem rat_nf {t b : Int} (h : b ≠ 0) : (Rat.divInt t b).num = t / dv t b ∧ ((Rat.divInt t b).den : Int) = b / dv t b := by
  have hs := dv_sign (t := t) h
  have hc := dv_cop (t := t) h
  have hd := dv_ne (t := t) h
  have hm : ((b / dv t b).toNat : Int) = b / dv t b := by omega
  have hr : (t / dv t b).natAbs.Coprime (b / dv t b).toNat := by
    unfold Nat.Coprime
    rw [← hc]
    unfold Int.gcd
    congr 1
    omega
  have e : Rat.divInt t b = (⟨t / dv t b, (b / dv t b).toNat, by omega, hr⟩ : Rat) := by
    rw [Rat.mk_eq_divInt, hm, Rat.divInt_eq_divInt_iff h (by omega)]
    obtain ⟨k, hk⟩ := dv_b (t := t) (b := b)
    obtain ⟨l, hl⟩ := dv_t (t := t) (b := b)
    have e1 : b / dv t b = k := by
      conv => lhs; lhs; rw [hk]
      exact Int.mul_ediv_cancel_left _ hd
    have e2 : t / dv t b = l := by
      conv => lhs; lhs; rw [hl]
      exact Int.mul_ediv_cancel_left _ hd
    rw [e1, e2]
    conv => lhs; rw [hl]
    conv => rhs; rw [hk]
    rw [Int.mul_comm (dv t b) l, Int.mul_assoc]
  rw [e]
  exact ⟨rfl, hm⟩
theorem rat_one {q : Rat} : q.den = 1 ↔ ((q.den : Nat) : Int) = 1 := by omega
/-- one turn of the common divisor -/
theorem gcd_fmod (a b : Int) : Int.gcd b (a.fmod b) = Int.gcd a b := by
  have e : a.fmod b = a - a.fdiv b * b := by
    have := Int.mul_fdiv_add_fmod a b
    rw [Int.mul_comm] at this
    omega
  rw [e, Int.gcd_sub_mul_right_right, Int.gcd_comm]
theorem gcd_emod (a b : Int) : Int.gcd b (a % b) = Int.gcd a b := by
  have e : a % b = a - a / b * b := by
    have := Int.mul_ediv_add_emod a b
    rw [Int.mul_comm] at this
    omega
  rw [e, Int.gcd_sub_mul_right_right, Int.gcd_comm]
theorem fmod_lt {a b : Int} (hb : b < 0) : (a.fmod b).natAbs < b.natAbs := by
  rw [Int.fmod_eq_emod]
  have h0 := Int.emod_nonneg a (show b ≠ 0 by omega)
  have h1 := Int.emod_lt_of_neg a hb
  by_cases hd : b ∣ a
  · rw [if_pos (.inr hd), Int.emod_eq_zero_of_dvd hd]
    omega
  · rw [if_neg (by rintro (z | z); omega; exact hd z)]
    have : a % b ≠ 0 := fun z => hd (Int.dvd_of_emod_eq_zero z)
    omega
end Pl

set_option Elab.async false
set_option linter.all false
set_option maxRecDepth 100000
/-! Pl: what is wanted behind a computation on data; one rule a construct. -/
namespace Pl
open Mp
open PySem (Str sizeLine)
/-- what is wanted of an expression's end -/
def RP {T : Type} (Q : T → Sto → Prop) (E : Str → List (Str × D) → Sto → Prop) : Res T → Prop
  | .ok a s => Q a s
  | .exc C fs s => E C fs s
  | .bad => False
structure PQ where
  nx : En → Sto → Prop
  rt : D → Sto → Prop
  bk : En → Sto → Prop
  ct : En → Sto → Prop
  ex : Str → List (Str × D) → En → Sto → Prop
def FP (q : PQ) : Fl → Prop
  | .nx r s => q.nx r s
  | .rt d s => q.rt d s
  | .bk r s => q.bk r s
  | .ct r s => q.ct r s
  | .exc C fs r s => q.ex C fs r s
  | .bad => False
abbrev XT := Str → List (Str × D) → Sto → Prop
abbrev noX : XT := fun _ _ _ => False
section
variable {T U : Type} {Q Q' : T → Sto → Prop} {E E' : XT} {r : En} {s : Sto} {q q' : PQ}
theorem RP.mono {m : Res T} (h : RP Q E m) (hq : ∀ a s, Q a s → Q' a s) (he : ∀ C fs s, E C fs s → E' C fs s) : RP Q' E' m := by
  cases m with
  | ok a s => exact hq a s h
  | exc C fs s => exact he C fs s h
  | bad => exact h
theorem RP.imp {m : Res T} (h : RP Q noX m) (hq : ∀ a s, Q a s → Q' a s) : RP Q' E m := h.mono hq fun _ _ _ z => z.elim
theorem RP.of {m : Res T} {a : T} {s' : Sto} (h : m = .ok a s') (hq : Q a s') : RP Q E m := by
  rw [h]
  exact hq
theorem RP.ofx {m : Res T} {C : Str} {fs : List (Str × D)} {s' : Sto} (h : m = .exc C fs s') (hq : E C fs s') : RP Q E m := by
  rw [h]
  exact hq
theorem RP.ex {m : Res T} (h : RP Q noX m) : ∃ a s', m = .ok a s' ∧ Q a s' := by
  cases m with
  | ok a s => exact ⟨a, s, rfl, h⟩
  | exc C fs s => exact h.elim
  | bad => exact h.elim
theorem FP.mono {f : Fl} (h : FP q f) (h1 : ∀ r s, q.nx r s → q'.nx r s) (h2 : ∀ d s, q.rt d s → q'.rt d s) (h3 : ∀ r s, q.bk r s → q'.bk r s) (h4 : ∀ r s, q.ct r s → q'.ct r s) (h5 : ∀ C fs r s, q.ex C fs r s → q'.ex C fs r s) : FP q' f := by
  cases f with
  | nx r s => exact h1 _ _ h
  | rt d s => exact h2 _ _ h
  | bk r s => exact h3 _ _ h
  | ct r s => exact h4 _ _ h
  | exc C fs r s => exact h5 _ _ _ _ h
  | bad => exact h
theorem w_ok {a : T} (h : Q a s) : RP Q E (.ok a s) := h
theorem w_bind {m : DM T} {f : T → DM U} {Q : U → Sto → Prop} (h : RP (fun a s' => RP Q E (f a r s')) E (m r s)) : RP Q E (Mp.bindM m f r s) := by
  unfold Mp.bindM
  cases e : m r s <;> rw [e] at h <;> exact h
theorem w_pure {a : T} (h : Q a s) : RP Q E (pureM a r s) := h
theorem w_then {m : DM T} {f : T → DS} (h : RP (fun a s' => FP q (f a r s')) (fun C fs s' => q.ex C fs r s') (m r s)) : FP q (thenS m f r s) := by
  unfold thenS
  cases e : m r s <;> rw [e] at h <;> exact h
theorem w_seq {a b : DS} (h : FP ⟨fun r' s' => FP q (b r' s'), q.rt, q.bk, q.ct, q.ex⟩ (a r s)) : FP q (seqS a b r s) := by
  unfold seqS
  cases e : a r s <;> rw [e] at h <;> exact h
/-- with a word between two statements -/
theorem w_mid {a b : DS} (P : En → Sto → Prop) (h1 : FP ⟨P, q.rt, q.bk, q.ct, q.ex⟩ (a r s)) (h2 : ∀ r' s', P r' s' → FP q (b r' s')) : FP q (seqS a b r s) := w_seq (h1.mono h2 (fun _ _ h => h) (fun _ _ h => h) (fun _ _ h => h) fun _ _ _ _ h => h)
end
section
variable {Q : D → Sto → Prop} {E : XT} {r : En} {s : Sto} {q : PQ} {a b c : DE} {f : D → D → Sto → Res D}
theorem w_v {i : Nat} {d : D} (h : r[i]? = some (some d)) (hq : Q d s) : RP Q E (vM i r s) := by
  unfold vM
  rw [h]
  exact hq
theorem w_c {d : D} (hq : Q d s) : RP Q E (cM d r s) := hq
theorem w_bin (h : RP (fun x s1 => RP (fun y s2 => RP Q E (f x y s2)) E (b r s1)) E (a r s)) : RP Q E (binM f a b r s) := w_bind (h.mono (fun _ _ h => w_bind h) fun _ _ _ h => h)
theorem w_un {g : D → Sto → Res D} (h : RP (fun x s1 => RP Q E (g x s1)) E (a r s)) : RP Q E (unM g a r s) := w_bind h
theorem w_arg {m : DM (List D)} {g : List D → Sto → Res D} (h : RP (fun x s1 => RP Q E (g x s1)) E (m r s)) : RP Q E (argM g m r s) := w_bind h
theorem w_call {m : DM (List D)} {g : DF} (h : RP (fun x s1 => RP Q E (g x s1)) E (m r s)) : RP Q E (callM g m r s) := w_bind h
theorem w_nil {Q : List D → Sto → Prop} (h : Q [] s) : RP Q E (nilA r s) := h
theorem w_cons {Q : List D → Sto → Prop} {m : DM (List D)} (h : RP (fun x s1 => RP (fun l s2 => Q (x :: l) s2) E (m r s1)) E (a r s)) : RP Q E (consA a m r s) := w_bind (h.mono (fun _ _ h => w_bind h) fun _ _ _ h => h)
theorem w_star {Q : List D → Sto → Prop} (h : RP (fun x s1 => ∃ l, x = .tup l ∧ Q l s1) E (a r s)) : RP Q E (starA a r s) := w_bind (h.mono (fun x s ⟨l, e, h⟩ => by
  subst e
  exact h) fun _ _ _ h => h)
theorem w_tru {Q : Bool → Sto → Prop} (h : RP (fun x s1 => ∃ k, truD s1 x = some k ∧ Q k s1) E (a r s)) : RP Q E (truM a r s) := w_bind (h.mono (fun x s ⟨k, e, h⟩ => by
  rw [e]
  exact h) fun _ _ _ h => h)
theorem w_bl {Q : Bool → Sto → Prop} (h : RP (fun x s1 => ∃ k, x = .bl k ∧ Q k s1) E (a r s)) : RP Q E (blM a r s) := w_bind (h.mono (fun x s ⟨k, e, h⟩ => by
  subst e
  exact h) fun _ _ _ h => h)
theorem w_not (h : RP (fun k s1 => Q (.bl (!k)) s1) E (truM a r s)) : RP Q E (notV a r s) := w_bind h
theorem w_and (h : RP (fun x s1 => ∃ k, truD s1 x = some k ∧ (k = true → RP Q E (b r s1)) ∧ (k = false → Q x s1)) E (a r s)) : RP Q E (andV a b r s) := w_bind (h.mono (fun x s ⟨k, e, h1, h2⟩ => w_bind (w_tru (w_c ⟨k, e, by
  cases k
  · exact h2 rfl
  · exact h1 rfl⟩))) fun _ _ _ h => h)
theorem w_or (h : RP (fun x s1 => ∃ k, truD s1 x = some k ∧ (k = false → RP Q E (b r s1)) ∧ (k = true → Q x s1)) E (a r s)) : RP Q E (orV a b r s) := w_bind (h.mono (fun x s ⟨k, e, h1, h2⟩ => w_bind (w_tru (w_c ⟨k, e, by
  cases k
  · exact h1 rfl
  · exact h2 rfl⟩))) fun _ _ _ h => h)
theorem w_notT {Q : Bool → Sto → Prop} {c : DM Bool} (h : RP (fun k s1 => Q (!k) s1) E (c r s)) : RP Q E (notT c r s) := w_bind h
theorem w_andT {Q : Bool → Sto → Prop} {c d : DM Bool} (h : RP (fun k s1 => (k = true → RP Q E (d r s1)) ∧ (k = false → Q false s1)) E (c r s)) : RP Q E (andT c d r s) := w_bind (h.mono (fun k s h => by
  cases k
  · exact h.2 rfl
  · exact h.1 rfl) fun _ _ _ h => h)
theorem w_orT {Q : Bool → Sto → Prop} {c d : DM Bool} (h : RP (fun k s1 => (k = false → RP Q E (d r s1)) ∧ (k = true → Q true s1)) E (c r s)) : RP Q E (orT c d r s) := w_bind (h.mono (fun k s h => by
  cases k
  · exact h.1 rfl
  · exact h.2 rfl) fun _ _ _ h => h)
theorem w_ifM {c : DM Bool} (h : RP (fun k s1 => (k = true → RP Q E (a r s1)) ∧ (k = false → RP Q E (b r s1))) E (c r s)) : RP Q E (ifM c a b r s) := w_bind (h.mono (fun k s h => by
  cases k
  · exact h.2 rfl
  · exact h.1 rfl) fun _ _ _ h => h)
theorem w_chain {g : D → D → Sto → Res D} (h : RP (fun x s1 => RP (fun y s2 => RP (fun z s3 => ∃ k, z = .bl k ∧ (k = true → RP (fun u s4 => RP Q E (g y u s4)) E (c r s3)) ∧ (k = false → Q (.bl false) s3)) E (f x y s2)) E (b r s1)) E (a r s)) : RP Q E (chainM f g a b c r s) := w_bind (h.mono (fun x s1 h => w_bind (h.mono (fun y s2 h => by
  cases e : f x y s2 with
  | ok z s3 =>
    rw [e] at h
    obtain ⟨k, rfl, h1, h2⟩ := h
    cases k
    · exact h2 rfl
    · exact w_bind (m := c) (f := fun u => fun _ s => g y u s) (h1 rfl)
  | exc C fs s3 => rw [e] at h; exact h
  | bad => rw [e] at h; exact h) fun _ _ _ h => h)) fun _ _ _ h => h)
theorem w_attr {tb : List (Str × Ak)} {f : Str} (h : RP (fun x s1 => RP Q E (attrD tb f x s1)) E (a r s)) : RP Q E (attrM tb f a r s) := w_bind h
theorem w_meth {tb : List (Str × DF)} {m : Str} {l : DM (List D)} (h : RP (fun x s1 => ∃ C fs f, insOf s1 x = some (C, fs) ∧ fs.lookup m = none ∧ tb.lookup C = some f ∧ RP (fun ds s2 => RP Q E (f (x :: ds) s2)) E (l r s1)) E (a r s)) : RP Q E (methM tb m a l r s) := w_bind (h.mono (fun x s1 ⟨C, fs, f, e1, e2, e3, h⟩ => by
  rw [e1]
  dsimp only
  rw [e2]
  dsimp only
  rw [e3]
  exact w_bind h) fun _ _ _ h => h)
theorem w_super {tb : List (Str × DF)} {l : DM (List D)} (h : RP (fun x s1 => ∃ C fs f, insOf s1 x = some (C, fs) ∧ tb.lookup C = some f ∧ RP (fun ds s2 => RP Q E (f (x :: ds) s2)) E (l r s1)) E (vM 0 r s)) : RP Q E (superM tb l r s) := w_bind (h.mono (fun x s1 ⟨C, fs, f, e1, e3, h⟩ => by
  rw [e1]
  dsimp only
  rw [e3]
  exact w_bind h) fun _ _ _ h => h)
theorem w_superS {tb : List (Str × DF)} {l : DM (List D)} (h : RP (fun _ s' => q.nx r s') (fun C fs s' => q.ex C fs r s') (superM tb l r s)) : FP q (superS tb l r s) := w_then h
theorem w_make {k : Bool} {C : Str} {m : DF} {l : DM (List D)} (h : RP (fun ds s1 => RP (fun v s2 => v = .non ∧ RP Q E (freezeI k s1.length s2)) E (m (.cel s1.length :: ds) (s1 ++ [some (.ins C [])]))) E (l r s)) : RP Q E (makeM k C m l r s) := w_bind (h.mono (fun ds s1 h => by
  cases e : m (.cel s1.length :: ds) (s1 ++ [some (.ins C [])]) with
  | ok v s2 =>
    rw [e] at h
    obtain ⟨rfl, h⟩ := h
    exact h
  | exc C fs s3 => rw [e] at h; exact h
  | bad => rw [e] at h; exact h) fun _ _ _ h => h)
theorem w_freeze {n : Nat} {C : Str} {fs : List (Str × D)} (h : s[n]? = some (some (.ins C fs))) (hq : Q (.ins C fs) (s.set n none)) : RP Q E (freezeI false n s) := by
  unfold freezeI
  rw [if_neg (by decide), h]
  exact hq
theorem w_opt {Q : Option Int → Sto → Prop} (h : RP (fun x s1 => ∃ i, x = .int i ∧ Q (some i) s1) E (a r s)) : RP Q E (optM a r s) := w_bind (h.mono (fun x s ⟨i, e, h⟩ => by
  subst e
  exact h) fun _ _ _ h => h)
theorem w_sli {k : Bool} {l u : DM (Option Int)} (h : RP (fun x s1 => RP (fun lo s2 => RP (fun hi s3 => RP Q E (sliD k x lo hi s3)) E (u r s2)) E (l r s1)) E (a r s)) : RP Q E (sliM k a l u r s) := w_bind (h.mono (fun _ _ h => w_bind (h.mono (fun _ _ h => w_bind h) fun _ _ _ h => h)) fun _ _ _ h => h)
/-! dict displays -/
theorem w_pairs0 {Q : List (D × D) → Sto → Prop} (h : Q [] s) : RP Q E (pairsM [] r s) := h
theorem w_pairs1 {Q : List (D × D) → Sto → Prop} {l : List (DE × DE)} (h : RP (fun x s1 => RP (fun y s2 => RP (fun l s3 => Q ((x, y) :: l) s3) E (pairsM l r s2)) E (b r s1)) E (a r s)) : RP Q E (pairsM ((a, b) :: l) r s) := w_bind (h.mono (fun _ _ h => w_bind (h.mono (fun _ _ h => w_bind h) fun _ _ _ h => h)) fun _ _ _ h => h)
theorem w_disp {l : List (DE × DE)} (h : RP (fun ps s1 => ∃ kvs, keyed ps = some kvs ∧ kvs.length ≤ 15 ∧ Q (.cel s1.length) (s1 ++ [some (.dct (mergeA [] kvs))])) E (pairsM l r s)) : RP Q E (dispM l r s) := w_bind (h.mono (fun ps s1 ⟨kvs, e, hl, h⟩ => by
  rw [e]
  dsimp only
  rw [if_pos hl]
  exact h) fun _ _ _ h => h)
/-! statements -/
theorem w_skip (h : q.nx r s) : FP q (skipS r s) := h
theorem w_brk (h : q.bk r s) : FP q (brkS r s) := h
theorem w_cnt (h : q.ct r s) : FP q (cntS r s) := h
theorem w_set {i : Nat} (h : RP (fun d s' => q.nx (r.set i (some d)) s') (fun C fs s' => q.ex C fs r s') (a r s)) : FP q (setS i a r s) := w_then h
theorem w_expr (h : RP (fun _ s' => q.nx r s') (fun C fs s' => q.ex C fs r s') (a r s)) : FP q (exprS a r s) := w_then h
theorem w_ret (h : RP (fun d s' => q.rt d s') (fun C fs s' => q.ex C fs r s') (a r s)) : FP q (retS a r s) := w_then h
theorem w_retN (h : q.rt .non s) : FP q (retN r s) := h
theorem w_if {c : DM Bool} {x y : DS} (h : RP (fun k s1 => (k = true → FP q (x r s1)) ∧ (k = false → FP q (y r s1))) (fun C fs s' => q.ex C fs r s') (c r s)) : FP q (ifS c x y r s) := w_then (h.mono (fun k s h => by
  cases k
  · exact h.2 rfl
  · exact h.1 rfl) fun _ _ _ h => h)
theorem w_asg {g : DG} (h : RP (fun d s' => ∃ p, g d r s' = some p ∧ q.nx p.1 p.2) (fun C fs s' => q.ex C fs r s') (a r s)) : FP q (asgS a g r s) := w_then (h.mono (fun d s ⟨p, e, h⟩ => by
  rw [e]
  exact h) fun _ _ _ h => h)
theorem w_par2 {i j : Nat} {m : DM (List D)} (h : RP (fun ds s' => ∃ x y, ds = [x, y] ∧ q.nx ((r.set i (some x)).set j (some y)) s') (fun C fs s' => q.ex C fs r s') (m r s)) : FP q (par2S i j m r s) := w_then (h.mono (fun d s ⟨x, y, e, h⟩ => by
  subst e
  exact h) fun _ _ _ h => h)
theorem w_par3 {i j k : Nat} {m : DM (List D)} (h : RP (fun ds s' => ∃ x y z, ds = [x, y, z] ∧ q.nx (((r.set i (some x)).set j (some y)).set k (some z)) s') (fun C fs s' => q.ex C fs r s') (m r s)) : FP q (par3S i j k m r s) := w_then (h.mono (fun d s ⟨x, y, z, e, h⟩ => by
  subst e
  exact h) fun _ _ _ h => h)
theorem w_aug {i : Nat} (h : RP (fun d s' => q.nx (r.set i (some d)) s') (fun C fs s' => q.ex C fs r s') (binM f (vM i) a r s)) : FP q (augS i f a r s) := w_then h
theorem w_sub (h : RP (fun y s1 => RP (fun x s2 => RP (fun z s3 => ∃ s4, putI x z y s3 = some s4 ∧ q.nx r s4) (fun C fs s' => q.ex C fs r s') (b r s2)) (fun C fs s' => q.ex C fs r s') (a r s1)) (fun C fs s' => q.ex C fs r s') (c r s)) : FP q (subS a b c r s) := w_then (h.mono (fun _ _ h => w_then (h.mono (fun _ _ h => w_then (h.mono (fun z s3 ⟨s4, e, h⟩ => by
  rw [e]
  exact h) fun _ _ _ h => h)) fun _ _ _ h => h)) fun _ _ _ h => h)
theorem w_fld {tb : List Str} {f : Str} (h : RP (fun y s1 => RP (fun x s2 => ∃ n C fs, x = .cel n ∧ s2[n]? = some (some (.ins C fs)) ∧ C ∈ tb ∧ fs.length < 1000 ∧ q.nx r (s2.set n (some (.ins C (putD f y fs))))) (fun C fs s' => q.ex C fs r s') (a r s1)) (fun C fs s' => q.ex C fs r s') (b r s)) : FP q (fldS tb f a b r s) := w_then (h.mono (fun _ _ h => w_then (h.mono (fun x s2 ⟨n, C, fs, e, e1, h1, h2, h⟩ => by
  subst e
  dsimp only
  rw [e1]
  dsimp only
  rw [if_pos ⟨h1, h2⟩]
  exact h) fun _ _ _ h => h)) fun _ _ _ h => h)
theorem w_raise {C f : Str} {m : DM (List D)} (h : RP (fun ds s' => ∃ d, ds = [d] ∧ q.ex C [(f, d)] r s') (fun C fs s' => q.ex C fs r s') (m r s)) : FP q (raiseS C f m r s) := w_then (h.mono (fun d s ⟨x, e, h⟩ => by
  subst e
  exact h) fun _ _ _ h => h)
theorem w_raise0 {C : Str} (h : q.ex C [] r s) : FP q (raise0S C r s) := h
theorem w_noExc {f : Fl} (h : FP ⟨q.nx, q.rt, q.bk, q.ct, fun _ _ _ _ => False⟩ f) : FP q (noExc f) := by
  cases f with
  | exc C fs r s => exact h.elim
  | _ => exact h
theorem w_try {x y : DS} {tb : List (Str × Bool)} (h : FP ⟨q.nx, q.rt, q.bk, q.ct, fun C fs r' s' => ∃ k, tb.lookup C = some k ∧ (k = true → FP ⟨q.nx, q.rt, q.bk, q.ct, fun _ _ _ _ => False⟩ (y r' s')) ∧ (k = false → q.ex C fs r' s')⟩ (x r s)) : FP q (tryS x tb y r s) := by
  unfold tryS
  cases e : x r s with
  | exc C fs r' s' =>
    rw [e] at h
    obtain ⟨k, e1, h1, h2⟩ := h
    dsimp only
    rw [e1]
    cases k
    · exact h2 rfl
    · exact w_noExc (h1 rfl)
  | nx r s => rw [e] at h; exact h
  | rt d s => rw [e] at h; exact h
  | bk r s => rw [e] at h; exact h
  | ct r s => rw [e] at h; exact h
  | bad => rw [e] at h; exact h
/-! bodies -/
abbrev bodyQ (Q : D → Sto → Prop) (E : XT) : PQ := ⟨fun _ s' => Q .non s', Q, fun _ _ => False, fun _ _ => False, fun C fs _ s' => E C fs s'⟩
theorem w_bodyX {n : Nat} {b : DS} {ds : List D} (h : FP (bodyQ Q E) (b (ds.map some ++ List.replicate (n - ds.length) none) s)) : RP Q E (bodyX n b ds s) := by
  unfold bodyX
  cases e : b (ds.map some ++ List.replicate (n - ds.length) none) s <;> rw [e] at h <;> exact h
theorem w_body {k n : Nat} {dd : List D} {b : DS} {ds es : List D} {r : En} (h0 : argsD k dd ds = some es) (hr : es.map some ++ List.replicate (n - es.length) none = r) (h : FP (bodyQ Q E) (b r s)) : RP Q E (bodyM k dd n b ds s) := by
  unfold bodyM
  rw [h0]
  subst hr
  exact w_bodyX h
theorem w_bodyV {k n : Nat} {b : DS} {ds : List D} {r : En} (h0 : k ≤ ds.length) (h1 : ds.length ≤ 1000) (hr : (ds.take k ++ [D.tup (ds.drop k)]).map some ++ List.replicate (n - (ds.take k ++ [D.tup (ds.drop k)]).length) none = r) (h : FP (bodyQ Q E) (b r s)) : RP Q E (bodyV k n b ds s) := by
  unfold bodyV
  rw [if_pos ⟨h0, h1⟩]
  subst hr
  exact w_bodyX h
/-! loops -/
theorem w_for0 {m : DM Src} {g : DG} {b : DS} (h : RP (fun c s' => FP q (forF c g b c.its r s')) (fun C fs s' => q.ex C fs r s') (m r s)) : FP q (forS m g b r s) := w_then h
theorem forF_inv {c : Src} {g : DG} {b : DS} (I : Nat → En → Sto → Prop) (hc : ∀ i r s, I i r s → SrcOk c s) :
    ∀ (l : List D) (i : Nat) (r : En) (s : Sto), i ≤ c.its.length → c.its.drop i = l → I i r s → (∀ i d r s, c.its[i]? = some d → I i r s → ∃ p, g d r s = some p ∧ FP ⟨I (i + 1), q.rt, q.nx, I (i + 1), q.ex⟩ (b p.1 p.2)) → (∀ r s, I c.its.length r s → q.nx r s) → FP q (forF c g b l r s)
  | [], i, r, s, hle, hl, hi, hs, he => by
    have h1 : i = c.its.length := by
      have := congrArg List.length hl
      simp at this
      omega
    unfold forF
    rw [if_pos (hc i r s hi)]
    subst h1
    exact he r s hi
  | d :: l, i, r, s, hle, hl, hi, hs, he => by
    have hlt : i < c.its.length := by
      have := congrArg List.length hl
      simp at this
      omega
    have hd : c.its[i]? = some d := by
      have := congrArg (fun z => z[0]?) hl
      simpa using this
    obtain ⟨p, hp, hb⟩ := hs i d r s hd hi
    have hl' : c.its.drop (i + 1) = l := by
      rw [← List.tail_drop, hl]
      rfl
    unfold forF
    rw [if_pos (hc i r s hi), hp]
    dsimp only
    cases e : b p.1 p.2 with
    | nx r' s' => rw [e] at hb; exact forF_inv I hc l (i + 1) r' s' hlt hl' hb hs he
    | ct r' s' => rw [e] at hb; exact forF_inv I hc l (i + 1) r' s' hlt hl' hb hs he
    | bk r' s' => rw [e] at hb; exact hb
    | rt d s' => rw [e] at hb; exact hb
    | exc C fs r' s' => rw [e] at hb; exact hb
    | bad => rw [e] at hb; exact hb
/-- a for loop by what holds between two turns -/
theorem w_for {c : Src} {g : DG} {b : DS} (I : Nat → En → Sto → Prop) (hc : c.cel = none) (h0 : I 0 r s) (hs : ∀ i d r s, c.its[i]? = some d → I i r s → ∃ p, g d r s = some p ∧ FP ⟨I (i + 1), q.rt, q.nx, I (i + 1), q.ex⟩ (b p.1 p.2)) (he : ∀ r s, I c.its.length r s → q.nx r s) : FP q (forF c g b c.its r s) :=
  forF_inv I (fun _ _ _ _ => by unfold SrcOk; rw [hc]; trivial) c.its 0 r s (Nat.zero_le _) rfl h0 hs he
/-- .. over a cell that stays as it is -/
theorem w_forC {c : Src} {g : DG} {b : DS} (I : Nat → En → Sto → Prop) (hc : ∀ i r s, I i r s → SrcOk c s) (h0 : I 0 r s) (hs : ∀ i d r s, c.its[i]? = some d → I i r s → ∃ p, g d r s = some p ∧ FP ⟨I (i + 1), q.rt, q.nx, I (i + 1), q.ex⟩ (b p.1 p.2)) (he : ∀ r s, I c.its.length r s → q.nx r s) : FP q (forF c g b c.its r s) :=
  forF_inv I hc c.its 0 r s (Nat.zero_le _) rfl h0 hs he
/-- a while loop by what holds between two turns and a number that falls -/
theorem w_while {t : DM Bool} {b : DS} (I : Nat → En → Sto → Prop) (hs : ∀ n r s, I n r s → RP (fun k s1 => (k = true → FP ⟨fun r' s' => ∃ m, m < n ∧ I m r' s', q.rt, q.nx, fun r' s' => ∃ m, m < n ∧ I m r' s', q.ex⟩ (b r s1)) ∧ (k = false → q.nx r s1)) (fun C fs s' => q.ex C fs r s') (t r s)) :
    ∀ (n : Nat) (r : En) (s : Sto), I n r s → FP q (whileS t b r s) := by
  intro n
  induction n using Nat.strongRecOn with
  | ind n ih =>
    intro r s hi
    have h := hs n r s hi
    rw [whileS_eq]
    cases e : t r s with
    | ok k s1 =>
      rw [e] at h
      dsimp only
      cases k with
      | false => exact h.2 rfl
      | true =>
        have h1 := h.1 rfl
        rw [if_pos rfl]
        cases e2 : b r s1 with
        | nx r' s' =>
          rw [e2] at h1
          obtain ⟨m, hm, hi'⟩ := h1
          exact ih m hm r' s' hi'
        | ct r' s' =>
          rw [e2] at h1
          obtain ⟨m, hm, hi'⟩ := h1
          exact ih m hm r' s' hi'
        | bk r' s' => rw [e2] at h1; exact h1
        | rt d s' => rw [e2] at h1; exact h1
        | exc C fs r' s' => rw [e2] at h1; exact h1
        | bad => rw [e2] at h1; exact h1
    | exc C fs s1 => rw [e] at h; exact h
    | bad => rw [e] at h; exact h
theorem lcF_inv {c : Src} {g : DG} {tt : DM Bool} {te : DE} {Q : List D → Sto → Prop} (I : Nat → List D → Sto → Prop) (hc : ∀ i l s, I i l s → SrcOk c s)
    (hs : ∀ i d l s, c.its[i]? = some d → I i l s → ∃ p, g d r s = some p ∧ RP (fun k s1 => (k = true → RP (fun y s2 => l.length < sizeLine ∧ I (i + 1) (l ++ [y]) s2) noX (te p.1 s1)) ∧ (k = false → I (i + 1) l s1)) noX (tt p.1 p.2)) (he : ∀ l s, I c.its.length l s → Q l s) :
    ∀ (l : List D) (i : Nat) (acc : List D) (s : Sto), i ≤ c.its.length → c.its.drop i = l → I i acc s → RP Q E (lcF c g tt te r l acc s)
  | [], i, acc, s, hle, hl, hi => by
    have h1 : i = c.its.length := by
      have := congrArg List.length hl
      simp at this
      omega
    unfold lcF
    rw [if_pos (hc i acc s hi)]
    subst h1
    exact he acc s hi
  | d :: l, i, acc, s, hle, hl, hi => by
    have hlt : i < c.its.length := by
      have := congrArg List.length hl
      simp at this
      omega
    have hd : c.its[i]? = some d := by
      have := congrArg (fun z => z[0]?) hl
      simpa using this
    obtain ⟨p, hp, hb⟩ := hs i d acc s hd hi
    have hl' : c.its.drop (i + 1) = l := by
      rw [← List.tail_drop, hl]
      rfl
    unfold lcF
    rw [if_pos (hc i acc s hi), hp]
    dsimp only
    cases e : tt p.1 p.2 with
    | ok k s1 =>
      rw [e] at hb
      dsimp only
      cases k with
      | false => exact lcF_inv I hc hs he l (i + 1) acc s1 hlt hl' (hb.2 rfl)
      | true =>
        have h1 := hb.1 rfl
        rw [if_pos rfl]
        cases e2 : te p.1 s1 with
        | ok y s2 =>
          rw [e2] at h1
          dsimp only
          rw [if_pos h1.1]
          exact lcF_inv I hc hs he l (i + 1) (acc ++ [y]) s2 hlt hl' h1.2
        | exc C fs s2 => rw [e2] at h1; exact h1.elim
        | bad => rw [e2] at h1; exact h1.elim
    | exc C fs s1 => rw [e] at hb; exact hb.elim
    | bad => rw [e] at hb; exact hb.elim
theorem w_lc0 {k : Bool} {mi : DM Src} {g : DG} {tt : DM Bool} {te : DE} {vs : List Nat} (h : RP (fun c s' => RP (fun acc s2 => RP Q E (newL k acc s2)) noX (lcF c g tt te (wipeE r vs) c.its [] s')) E (mi r s)) : RP Q E (lcM k mi g tt te vs r s) := w_bind (h.mono (fun c s1 h => by
  cases e : lcF c g tt te (wipeE r vs) c.its [] s1 with
  | ok acc s2 => rw [e] at h; exact h
  | exc C fs s2 => rw [e] at h; exact h.elim
  | bad => rw [e] at h; exact h.elim) fun _ _ _ h => h)
theorem w_lc {c : Src} {g : DG} {tt : DM Bool} {te : DE} {Q : List D → Sto → Prop} (I : Nat → List D → Sto → Prop) (hc : c.cel = none) (h0 : I 0 [] s)
    (hs : ∀ i d l s, c.its[i]? = some d → I i l s → ∃ p, g d r s = some p ∧ RP (fun k s1 => (k = true → RP (fun y s2 => l.length < sizeLine ∧ I (i + 1) (l ++ [y]) s2) noX (te p.1 s1)) ∧ (k = false → I (i + 1) l s1)) noX (tt p.1 p.2)) (he : ∀ l s, I c.its.length l s → Q l s) : RP Q E (lcF c g tt te r c.its [] s) :=
  lcF_inv I (fun _ _ _ _ => by unfold SrcOk; rw [hc]; trivial) hs he c.its 0 [] s (Nat.zero_le _) rfl h0
/-- a comprehension without a test, whose elements leave the store -/
theorem w_lcP {c : Src} {g : DG} {te : DE} {Q : List D → Sto → Prop} (F : D → D) (hc : c.cel = none) (hl : c.its.length ≤ sizeLine) (hs : ∀ d, d ∈ c.its → ∃ p, g d r s = some (p, s) ∧ te p s = .ok (F d) s) (he : Q (c.its.map F) s) : RP Q E (lcF c g yesM te r c.its [] s) :=
  w_lc (fun i l s' => s' = s ∧ l = (c.its.take i).map F) hc ⟨rfl, by simp⟩ (fun i d l s' hd ⟨e1, e2⟩ => by
    subst e1
    obtain ⟨p, h1, h2⟩ := hs d (List.mem_of_getElem? hd)
    have hi := (List.getElem?_eq_some_iff.mp hd).1
    refine ⟨_, h1, fun _ => ?_, fun z => by cases z⟩
    refine RP.of h2 ⟨?_, rfl, ?_⟩
    · rw [e2, List.length_map, List.length_take]
      omega
    · rw [e2, List.take_add_one, hd]
      simp) (fun l s' ⟨e1, e2⟩ => by
    subst e1
    rw [e2, List.take_length]
    exact he)
end
section
variable {Q : Src → Sto → Prop} {E : XT} {r : En} {s : Sto} {a : DE}
theorem srcM_of {x : D} {c : Src} (h : srcD s x = some c) : srcM s x = .ok c s := by
  unfold srcM
  cases x with
  | dct m => cases h; rfl
  | cel n =>
    have h' : (match s[n]? with
      | some (some (.lst l)) => some (⟨l, some n⟩ : Src)
      | _ => none) = some c := h
    cases e : s[n]? with
    | none => rw [e] at h'; cases h'
    | some o =>
      rw [e] at h'
      cases o with
      | none => cases h'
      | some ct =>
        cases ct with
        | lst l =>
          cases h'
          simp only [lockD, srcD, e, okO]
        | _ => cases h'
  | _ =>
    simp only [lockD]
    rw [h]
    rfl
theorem w_seqI (h : RP (fun x s1 => ∃ c, srcD s1 x = some c ∧ Q c s1) E (a r s)) : RP Q E (seqI a r s) := w_bind (h.mono (fun x s ⟨c, e, h⟩ => by
  rw [srcM_of e]
  exact h) fun _ _ _ h => h)
/-- a dict in a cell is walked: locked -/
theorem w_seqIL (h : RP (fun x s1 => ∃ m s2, lockD s1 x = some (m, s2) ∧ Q ⟨m.map fun p => keyV p.1, none⟩ s2) E (a r s)) : RP Q E (seqI a r s) := w_bind (h.mono (fun x s ⟨m, s2, e, h⟩ => by
  unfold srcM
  rw [e]
  exact h) fun _ _ _ h => h)
theorem w_valuesI (h : RP (fun x s1 => ∃ m s2, lockD s1 x = some (m, s2) ∧ Q ⟨m.map fun p => p.2, none⟩ s2) E (a r s)) : RP Q E (valuesI a r s) := w_bind (h.mono (fun x s ⟨m, s2, e, h⟩ => by
  rw [e]
  exact h) fun _ _ _ h => h)
theorem w_itemsI (h : RP (fun x s1 => ∃ m s2, lockD s1 x = some (m, s2) ∧ Q ⟨m.map fun p => .tup [keyV p.1, p.2], none⟩ s2) E (a r s)) : RP Q E (itemsI a r s) := w_bind (h.mono (fun x s ⟨m, s2, e, h⟩ => by
  rw [e]
  exact h) fun _ _ _ h => h)
theorem w_argI {m : DM (List D)} {g : List D → Sto → Res Src} (h : RP (fun x s1 => RP Q E (g x s1)) E (m r s)) : RP Q E (argI g m r s) := w_bind h
theorem w_range1 {j : Int} (h1 : -(2 ^ 62) ≤ j) (h2 : j < 2 ^ 62) (h : Q ⟨intL 0 j.toNat, none⟩ s) : RP Q E (rangeD1 [.int j] s) := by
  unfold rangeD1
  dsimp only
  rw [if_pos ⟨h1, h2⟩]
  exact h
theorem w_range2 {i j : Int} (h1 : -(2 ^ 62) ≤ i) (h2 : i < 2 ^ 62) (h3 : -(2 ^ 62) ≤ j) (h4 : j < 2 ^ 62) (h : Q ⟨intL i (j - i).toNat, none⟩ s) : RP Q E (rangeD2 [.int i, .int j] s) := by
  unfold rangeD2
  dsimp only
  rw [if_pos ⟨h1, h2, h3, h4⟩]
  exact h
theorem intL_len {lo : Int} {n : Nat} : (intL lo n).length = n := by simp [intL]
theorem intL_get {lo : Int} {n i : Nat} {d : D} (h : (intL lo n)[i]? = some d) : i < n ∧ d = .int (lo + i) := by
  have hi := (List.getElem?_eq_some_iff.mp h).1
  rw [intL_len] at hi
  refine ⟨hi, ?_⟩
  unfold intL at h
  rw [List.getElem?_map, List.getElem?_range hi] at h
  simpa using h.symm
end
end Pl

set_option Elab.async false
set_option linter.all false
set_option maxRecDepth 100000
/-! Pl: operators on data. -/
namespace Pl
open Mp
open PySem (Str sizeLine)
section
variable {Q : D → Sto → Prop} {E : XT} {r : En} {s : Sto} {i j : Int} {x y : Str}
theorem o_addI (h : Q (.int (i + j)) s) : RP Q E (addD (.int i) (.int j) s) := h
theorem o_addS (hl : x.length + y.length ≤ sizeLine) (h : Q (.str (x ++ y)) s) : RP Q E (addD (.str x) (.str y) s) := by
  unfold addD
  dsimp only
  rw [if_pos hl]
  exact h
theorem o_addT {l m : List D} (hl : l.length + m.length ≤ sizeLine) (h : Q (.tup (l ++ m)) s) : RP Q E (addD (.tup l) (.tup m) s) := by
  unfold addD
  dsimp only
  rw [if_pos hl]
  exact h
theorem o_addL {l m : List D} (hl : l.length + m.length ≤ sizeLine) (h : Q (.lst (l ++ m)) s) : RP Q E (addD (.lst l) (.lst m) s) := by
  unfold addD
  dsimp only [lstX]
  rw [if_pos hl]
  exact h
theorem o_addI' (h : Q (.int (i + j)) s) : RP Q E (addI (.int i) (.int j) s) := h
theorem o_sub (h : Q (.int (i - j)) s) : RP Q E (subD (.int i) (.int j) s) := h
theorem log_lt' {n k : Nat} (h : n < 2 ^ k) (hk : 0 < k) : n.log2 < k := by
  by_cases z : n = 0
  · subst z
    have : Nat.log2 0 = 0 := by decide
    omega
  · exact (Nat.log2_lt z).mpr h
theorem mulC_of {a b : Nat} (hi : i.natAbs < 2 ^ a) (hj : j.natAbs < 2 ^ b) (ha : 0 < a) (hb : 0 < b) (h : a + b ≤ 1000000) : mulC i j = true := by
  unfold mulC
  refine decide_eq_true ?_
  have h1 := log_lt' hi ha
  have h2 := log_lt' hj hb
  omega
theorem o_mul (hc : mulC i j = true) (h : Q (.int (i * j)) s) : RP Q E (mulD (.int i) (.int j) s) := by
  unfold mulD
  dsimp only
  rw [if_pos hc]
  exact h
/-- of small ones -/
theorem o_mul64 (hi : i.natAbs < 18446744073709551616) (hj : j.natAbs < 18446744073709551616) (h : Q (.int (i * j)) s) : RP Q E (mulD (.int i) (.int j) s) := o_mul (mulC_of (a := 64) (b := 64) hi hj (by decide) (by decide) (by decide)) h
theorem o_mulI (hc : mulC i j = true) (h : Q (.int (i * j)) s) : RP Q E (mulI (.int i) (.int j) s) := by
  unfold mulI
  dsimp only
  rw [if_pos hc]
  exact h
theorem log_of {n b : Nat} (h : n < 2 ^ b) (hb : 0 < b) : n.log2 < b := log_lt' h hb
theorem o_div (h0 : 0 < j) (h1 : j.natAbs.log2 < 9000) (h : Q (.int (i / j)) s) : RP Q E (divD (.int i) (.int j) s) := by
  unfold divD
  dsimp only
  rw [if_pos ⟨h0, h1⟩]
  exact h
theorem o_div64 (h0 : 0 < j) (h1 : j < 18446744073709551616) (h : Q (.int (i / j)) s) : RP Q E (divD (.int i) (.int j) s) :=
  o_div h0 (Nat.lt_of_lt_of_le (log_of (b := 64) (by omega) (by decide)) (by decide)) h
theorem o_divN (h0 : j < 0) (h1 : j.natAbs.log2 < 9000) (h : Q (.int (i.fdiv j)) s) : RP Q E (divD (.int i) (.int j) s) := by
  unfold divD
  dsimp only
  rw [if_neg (by omega), if_pos ⟨h0, h1⟩]
  exact h
theorem o_mod (h0 : 0 < j) (h : Q (.int (i % j)) s) : RP Q E (modD (.int i) (.int j) s) := by
  unfold modD
  dsimp only
  rw [if_pos h0]
  exact h
theorem o_modN (h0 : j < 0) (h : Q (.int (i.fmod j)) s) : RP Q E (modD (.int i) (.int j) s) := by
  unfold modD
  dsimp only
  rw [if_neg (by omega), if_pos h0]
  exact h
theorem o_pow (h0 : 0 ≤ j) (h1 : j ≤ 1000000) (h2 : i.natAbs < 2 ^ 64) (h : Q (.int (i ^ j.toNat)) s) : RP Q E (powD (.int i) (.int j) s) := by
  unfold powD
  dsimp only
  rw [if_pos ⟨h0, h1, h2⟩]
  exact h
theorem o_powV {v : Int} (h0 : 0 ≤ j) (h1 : j ≤ 1000000) (h2 : i.natAbs < 2 ^ 64) (hv : i ^ j.toNat = v) (h : Q (.int v) s) : RP Q E (powD (.int i) (.int j) s) := o_pow h0 h1 h2 (by rw [hv]; exact h)
theorem o_max2 (h : Q (.int (if j > i then j else i)) s) : RP Q E (max2D [.int i, .int j] s) := h
theorem o_min2 (h : Q (.int (if j < i then j else i)) s) : RP Q E (min2D [.int i, .int j] s) := h
theorem o_neg (h : Q (.int (-i)) s) : RP Q E (negD (.int i) s) := h
theorem o_lt (h : Q (.bl (decide (i < j))) s) : RP Q E (ltI (.int i) (.int j) s) := h
theorem o_le (h : Q (.bl (decide (i ≤ j))) s) : RP Q E (leI (.int i) (.int j) s) := h
theorem o_gt (h : Q (.bl (decide (j < i))) s) : RP Q E (gtI (.int i) (.int j) s) := h
theorem o_ge (h : Q (.bl (decide (j ≤ i))) s) : RP Q E (geI (.int i) (.int j) s) := h
theorem o_eqI (h : Q (.bl (decide (i = j))) s) : RP Q E (eqD (.int i) (.int j) s) := h
theorem o_neI (h : Q (.bl (!decide (i = j))) s) : RP Q E (neD (.int i) (.int j) s) := h
theorem o_eqS (h : Q (.bl (decide (x = y))) s) : RP Q E (eqD (.str x) (.str y) s) := h
theorem o_neS (h : Q (.bl (!decide (x = y))) s) : RP Q E (neD (.str x) (.str y) s) := h
theorem o_abs (h : Q (.int (if i < 0 then -i else i)) s) : RP Q E (absD [.int i] s) := h
theorem o_int (h : Q (.int i) s) : RP Q E (Mp.intD [.int i] s) := h
theorem o_intB {b : Bool} (h : Q (.int (if b then 1 else 0)) s) : RP Q E (Mp.intD [.bl b] s) := h
theorem o_tup {l : List D} (hl : l.length ≤ sizeLine) (h : Q (.tup l) s) : RP Q E (tupD l s) := by
  unfold tupD
  rw [if_pos hl]
  exact h
theorem o_lst {l : List D} (hl : l.length ≤ sizeLine) (h : Q (.lst l) s) : RP Q E (lstD false l s) := by
  unfold lstD
  rw [if_pos hl]
  exact h
theorem o_lstC {l : List D} (hl : l.length ≤ sizeLine) (h : Q (.cel s.length) (s ++ [some (.lst l)])) : RP Q E (lstD true l s) := by
  unfold lstD
  rw [if_pos hl]
  exact h
theorem o_newL {l : List D} (h : Q (.lst l) s) : RP Q E (newL false l s) := h
theorem o_newLC {l : List D} (h : Q (.cel s.length) (s ++ [some (.lst l)])) : RP Q E (newL true l s) := h
theorem o_len {x : D} {l : List D} (hx : ∀ z, x ≠ .str z) (hs : seqOf s x = some l) (h : Q (.int (l.length : Nat)) s) : RP Q E (lenD [x] s) := by
  unfold lenD
  cases x with
  | str z => exact absurd rfl (hx z)
  | _ =>
    dsimp only
    rw [hs]
    exact h
theorem o_lenL {l : List D} (h : Q (.int (l.length : Nat)) s) : RP Q E (lenD [.lst l] s) := h
theorem o_lenT {l : List D} (h : Q (.int (l.length : Nat)) s) : RP Q E (lenD [.tup l] s) := h
theorem o_lenS (hl : x.length ≤ sizeLine) (h : Q (.int (x.length : Nat)) s) : RP Q E (lenD [.str x] s) := by
  unfold lenD
  dsimp only
  rw [if_pos hl]
  exact h
theorem o_list {x : D} {l : List D} (hs : seqOf s x = some l) (h : Q (.lst l) s) : RP Q E (listD false [x] s) := by
  unfold listD
  dsimp only
  rw [hs]
  exact h
theorem o_tuple {x : D} {l : List D} (hs : seqOf s x = some l) (h : Q (.tup l) s) : RP Q E (tupleD [x] s) := by
  unfold tupleD
  dsimp only
  rw [hs]
  exact h
theorem o_all {l : List Bool} {x : D} (hx : (lstOf s x).bind bools = some l) (h : Q (.bl (l.all id)) s) : RP Q E (allD [x] s) := by
  unfold allD
  dsimp only
  rw [hx]
  exact h
theorem o_any {l : List Bool} {x : D} (hx : (lstOf s x).bind bools = some l) (h : Q (.bl (l.any id)) s) : RP Q E (anyD [x] s) := by
  unfold anyD
  dsimp only
  rw [hx]
  exact h
theorem bools_map {T : Type} (f : T → Bool) : ∀ l : List T, bools (l.map fun x => .bl (f x)) = some (l.map f)
  | [] => rfl
  | x :: l => by
    show (bools (l.map fun x => .bl (f x))).map (fun m => f x :: m) = _
    rw [bools_map f l]
    rfl
theorem intsOf_map {T : Type} (f : T → Int) : ∀ l : List T, intsOf (l.map fun x => .int (f x)) = some (l.map f)
  | [] => rfl
  | x :: l => by
    show (intsOf (l.map fun x => .int (f x))).map (fun m => f x :: m) = _
    rw [intsOf_map f l]
    rfl
theorem o_isi {it : Isi} {x c : D} {t : Tg} {b : Bool} (h1 : tagD s x = some t) (h2 : isiT it t c = some b) (h : Q (.bl b) s) : RP Q E (isiD it [x, c] s) := by
  unfold isiD
  dsimp only
  rw [h1]
  dsimp only
  rw [h2]
  exact h
theorem o_idxD {n : Nat} {m : List (L2.Key × D)} {x y d : D} {k : L2.Key} (h1 : dctOf s x = some m) (h2 : keyD y = some k) (h3 : getK m k = some d) (h : Q d s) : RP Q E (idxD x y s) := by
  unfold idxD
  rw [h1]
  dsimp only
  rw [h2]
  dsimp only
  rw [h3]
  exact h
theorem o_fld {tb : List (Str × Ak)} {f C : Str} {x d : D} {fs : List (Str × D)} (h1 : insOf s x = some (C, fs)) (h2 : tb.lookup C = some .fld) (h3 : fs.lookup f = some d) (h : Q d s) : RP Q E (attrD tb f x s) := by
  unfold attrD
  rw [h1]
  dsimp only
  rw [h2]
  dsimp only
  rw [h3]
  exact h
theorem o_prop {tb : List (Str × Ak)} {f C : Str} {x : D} {fs : List (Str × D)} {m : DF} (h1 : insOf s x = some (C, fs)) (h2 : tb.lookup C = some (.prop m)) (h : RP Q E (m [x] s)) : RP Q E (attrD tb f x s) := by
  unfold attrD
  rw [h1]
  dsimp only
  rw [h2]
  exact h
/-- xs[i] of a frozen list, a tuple -/
theorem o_idxL {l : List D} {d : D} {k : Nat} (h0 : i = (k : Int)) (h1 : l[k]? = some d) (h : Q d s) : RP Q E (idxD (.lst l) (.int i) s) := by
  have hk := (List.getElem?_eq_some_iff.mp h1).1
  have e : L2.atI l i = some d := by
    subst h0
    unfold L2.atI L2.ixN
    rw [if_pos (by omega), if_pos (by omega)]
    simpa using h1
  show RP Q E (okO s (L2.atI l i))
  rw [e]
  exact h
theorem o_idxT {l : List D} {d : D} {k : Nat} (h0 : i = (k : Int)) (h1 : l[k]? = some d) (h : Q d s) : RP Q E (idxD (.tup l) (.int i) s) := o_idxL (l := l) h0 h1 h
theorem o_repr {x : D} {p : PySem.PyData} (h0 : toPy x = some p) (h1 : p.showable = true) (h2 : p.hasDict = false) (h3 : p.depth < 60) (h4 : p.shown.length ≤ sizeLine) (h : Q (.str p.shown) s) : RP Q E (reprD [x] s) := by
  unfold reprD
  dsimp only
  rw [h0]
  dsimp only
  rw [if_pos ⟨h1, h2, h3, h4⟩]
  exact h
theorem cut_take {l : List D} {k : Int} (hk : 0 ≤ k) : cutD l none (some k) = l.take k.toNat := by
  unfold cutD
  have e0 : _root_.HT.sIx l.length 0 none = 0 := rfl
  have e1 : _root_.HT.sIx l.length l.length (some k) = min k.toNat l.length := if_neg (by omega)
  rw [e0, e1, List.drop_zero, Nat.sub_zero]
  by_cases h : k.toNat ≤ l.length
  · rw [Nat.min_eq_left h]
  · rw [Nat.min_eq_right (by omega), List.take_length, List.take_of_length_le (by omega)]
end
end Pl

set_option Elab.async false
set_option linter.all false
set_option maxRecDepth 100000
/-! Pl: how long a repr is. -/
namespace Pl
open Mp
open PySem (Str sizeLine PyData)
open PySem
mutual
def wt : PyData → Nat
  | .none => 4
  | .bool _ => 5
  | .int _ => 600
  | .str x => (reprText x).length
  | .list xs => wtAll xs + 4
  | .tuple xs => wtAll xs + 4
  | .dict _ => 0
def wtAll : List PyData → Nat
  | [] => 0
  | x :: xs => wt x + 2 + wtAll xs
end
theorem int_len {i : Int} (h : i.natAbs.log2 < 1920) : (Str.ofString (toString i)).length ≤ 600 := by
  have hb : i.natAbs < 2 ^ 1920 := by
    by_cases z : i.natAbs = 0
    · rw [z]
      exact Nat.two_pow_pos 1920
    · exact (Nat.log2_lt z).mp h
  have hc : (2 : Nat) ^ 1920 < 10 ^ 599 := by decide +kernel
  by_cases h0 : 0 ≤ i
  · exact Nat.le_trans (PyProof.Rows.toString_length_le (k := 599) h0 (by decide) (by
      have : (i.natAbs : Int) < ((10 ^ 599 : Nat) : Int) := by exact_mod_cast Nat.lt_trans hb hc
      rw [Int.natAbs_of_nonneg h0] at this
      simpa using this)) (by decide)
  · have e : toString i = "-" ++ toString (-i) := by
      cases i with
      | ofNat n => exact absurd (Int.natCast_nonneg n) h0
      | negSucc n => rfl
    have h1 := PyProof.Rows.toString_length_le (v := -i) (k := 599) (by omega) (by decide) (by
      have : (i.natAbs : Int) < ((10 ^ 599 : Nat) : Int) := by exact_mod_cast Nat.lt_trans hb hc
      rw [show ((i.natAbs : Nat) : Int) = -i by omega] at this
      simpa using this)
    rw [e, PyProof.Rows.ofString_length, String.toList_append, List.length_append]
    rw [PyProof.Rows.ofString_length] at h1
    have : ("-" : String).toList.length = 1 := by decide
    omega
theorem textFrom_le : ∀ (ts : List Str) (k : Nat) (acc : Str), (textFrom k acc ts).length ≤ acc.length + piled ts
  | [], k, acc => by
    show acc.length ≤ acc.length + piled []
    omega
  | t :: r, k, acc => by
    have h := textFrom_le r (k + 1) (acc ++ (if k > 0 then ", " else "" : String) ++ t)
    have e : (acc ++ (if k > 0 then ", " else "" : String) ++ t).length = acc.length + (if k > 0 then 2 else 0) + t.length := by
      rw [strLen_append, strLen_append]
      split <;> rfl
    have d1 : (if k > 0 then 2 else 0 : Nat) ≤ 2 := by split <;> omega
    rw [piled_cons]
    show (textFrom (k + 1) _ r).length ≤ _
    omega
theorem join_le : ∀ ts : List Str, (Str.join ", " ts).length ≤ piled ts
  | [] => by decide
  | t :: r => by
    have := join_length_add (t :: r) (by simp)
    omega
mutual
theorem shown_len : ∀ p : PyData, p.showable = true → p.hasDict = false → p.shown.length ≤ wt p
  | .none, _, _ => by rw [PyData.shown, wt]; decide
  | .bool b, _, _ => by rw [PyData.shown, wt]; cases b <;> decide
  | .int i, h, _ => by
    rw [PyData.shown, wt]
    rw [PyData.showable] at h
    exact int_len (of_decide_eq_true h)
  | .str x, _, _ => by rw [PyData.shown, wt]; exact Nat.le_refl _
  | .list xs, h, hd => by
    rw [PyData.showable] at h
    rw [PyData.hasDict] at hd
    have := shownAll_len xs h hd
    rw [PyData.shown, wt]
    unfold listText
    rw [strLen_append]
    have h2 := textFrom_le (PyData.shownAll xs) 0 "["
    have h3 : (("[" : String) : Str).length = 1 := by decide
    have h4 : (("]" : String) : Str).length = 1 := by decide
    omega
  | .tuple xs, h, hd => by
    rw [PyData.showable] at h
    rw [PyData.hasDict] at hd
    have := shownAll_len xs h hd
    rw [PyData.shown, wt]
    unfold tupleText
    rw [strLen_append, strLen_append]
    have h2 := join_le (PyData.shownAll xs)
    have h3 : (("(" : String) : Str).length = 1 := by decide
    have h4 : ((if (PyData.shownAll xs).length == 1 then ",)" else ")" : String) : Str).length ≤ 2 := by split <;> decide
    omega
  | .dict kvs, _, hd => by
    rw [PyData.hasDict] at hd
    cases hd
theorem shownAll_len : ∀ xs : List PyData, PyData.showableAll xs = true → PyData.hasDictAll xs = false → piled (PyData.shownAll xs) ≤ wtAll xs
  | [], _, _ => by rw [PyData.shownAll, wtAll]; decide
  | x :: xs, h, hd => by
    rw [PyData.showableAll, Bool.and_eq_true] at h
    rw [PyData.hasDictAll, Bool.or_eq_false_iff] at hd
    have h1 := shown_len x h.1 hd.1
    have h2 := shownAll_len xs h.2 hd.2
    rw [PyData.shownAll, piled_cons, wtAll]
    omega
end
/-- repr of plain data that is not too large -/
theorem o_reprW {Q : D → Sto → Prop} {E : XT} {s : Sto} {x : D} {p : PySem.PyData} (h0 : toPy x = some p) (h1 : p.showable = true) (h2 : p.hasDict = false) (h3 : p.depth < 60) (h4 : wt p ≤ sizeLine) (h : Q (.str p.shown) s) : RP Q E (reprD [x] s) :=
  o_repr h0 h1 h2 h3 (Nat.le_trans (shown_len p h1 h2) h4) h
end Pl

set_option Elab.async false
set_option linter.all false
set_option maxRecDepth 100000
/-! Pl: the pen of a law. -/
namespace Pl
open Mp
open PySem (Str sizeLine)
/-- the pen's cell -/
def penC (cells : List Int) (b l : Int) : Ct := .dct [(.inr "cells", .lst (cells.map .int)), (.inr "begun", .int b), (.inr "left", .int l)]
/-- cell n is a pen with at most b draws begun -/
def Pen (s : Sto) (n : Nat) (b : Int) : Prop := ∃ cells g l, s[n]? = some (some (penC cells g l)) ∧ cells.length ≤ 63 ∧ 0 ≤ g ∧ g ≤ b ∧ 0 ≤ l
/-- all but cell n stays -/
def Fr (n : Nat) (s s' : Sto) : Prop := s.length ≤ s'.length ∧ ∀ i, i < s.length → i ≠ n → s'[i]? = s[i]?
theorem Fr.refl {n : Nat} {s : Sto} : Fr n s s := ⟨Nat.le_refl _, fun _ _ _ => rfl⟩
theorem Fr.trans {n : Nat} {s s' s'' : Sto} (h : Fr n s s') (k : Fr n s' s'') : Fr n s s'' := ⟨Nat.le_trans h.1 k.1, fun i hi ne => (k.2 i (Nat.lt_of_lt_of_le hi h.1) ne).trans (h.2 i hi ne)⟩
theorem Fr.set {n : Nat} {s : Sto} {c : Option Ct} : Fr n s (s.set n c) := ⟨by rw [List.length_set]; exact Nat.le_refl _, fun i _ ne => List.getElem?_set_ne (fun e => ne e.symm)⟩
theorem Pen.mono {s : Sto} {n : Nat} {b c : Int} (h : Pen s n b) (hb : b ≤ c) : Pen s n c := by
  obtain ⟨cells, g, l, h1, h2, h3, h4, h5⟩ := h
  exact ⟨cells, g, l, h1, h2, h3, Int.le_trans h4 hb, h5⟩
theorem Pen.lt {s : Sto} {n : Nat} {b : Int} (h : Pen s n b) : n < s.length := by
  obtain ⟨cells, g, l, h1, _⟩ := h
  exact (List.getElem?_eq_some_iff.mp h1).1
theorem Pen.app {s : Sto} {n : Nat} {b : Int} (h : Pen s n b) (c : Option Ct) : Pen (s ++ [c]) n b := by
  have hl := h.lt
  obtain ⟨cells, g, l, h1, h2⟩ := h
  exact ⟨cells, g, l, by rw [List.getElem?_append_left hl]; exact h1, h2⟩
/-- what a list's places are -/
theorem get_of {l : List D} {k : Int} (h0 : 0 ≤ k) (h1 : k < (l.length : Int)) : ∃ d, l[k.toNat]? = some d ∧ d ∈ l := by
  have : k.toNat < l.length := by omega
  exact ⟨l[k.toNat], List.getElem?_eq_getElem this, List.getElem_mem this⟩
end Pl
namespace Pl
open Mp
open PySem (Str sizeLine PyData)
section
variable {Q : D → Sto → Prop} {E : XT} {s : Sto} {n : Nat} {c : List Int} {g l x : Int}
theorem pen_left (hs : s[n]? = some (some (penC c g l))) (h : Q (.int l) s) : RP Q E (idxD (.cel n) (.str "left") s) := by
  refine o_idxD (n := n) (m := [(.inr "cells", .lst (c.map .int)), (.inr "begun", .int g), (.inr "left", .int l)]) (k := .inr "left") (d := .int l) ?_ rfl ?_ h
  · unfold dctOf
    dsimp only
    rw [hs]
    rfl
  · rfl
theorem pen_begun (hs : s[n]? = some (some (penC c g l))) (h : Q (.int g) s) : RP Q E (idxD (.cel n) (.str "begun") s) := by
  refine o_idxD (n := n) (m := [(.inr "cells", .lst (c.map .int)), (.inr "begun", .int g), (.inr "left", .int l)]) (k := .inr "begun") (d := .int g) ?_ rfl ?_ h
  · unfold dctOf
    dsimp only
    rw [hs]
    rfl
  · rfl
theorem pen_cells (hs : s[n]? = some (some (penC c g l))) (h : Q (.lst (c.map .int)) s) : RP Q E (idxD (.cel n) (.str "cells") s) := by
  refine o_idxD (n := n) (m := [(.inr "cells", .lst (c.map .int)), (.inr "begun", .int g), (.inr "left", .int l)]) (k := .inr "cells") (d := .lst (c.map .int)) ?_ rfl ?_ h
  · unfold dctOf
    dsimp only
    rw [hs]
    rfl
  · rfl
theorem pen_putL (hs : s[n]? = some (some (penC c g l))) : putI (.cel n) (.str "left") (.int x) s = some (s.set n (some (penC c g x))) := by
  unfold putI
  dsimp only
  rw [hs]
  rfl
theorem pen_putB (hs : s[n]? = some (some (penC c g l))) : putI (.cel n) (.str "begun") (.int x) s = some (s.set n (some (penC c x l))) := by
  unfold putI
  dsimp only
  rw [hs]
  rfl
theorem pen_at (hs : s[n]? = some (some (penC c g l))) {y : Ct} : (s.set n (some y))[n]? = some (some y) := List.getElem?_set_self (List.getElem?_eq_some_iff.mp hs).1
theorem toPys_ints : ∀ c : List Int, toPys (c.map D.int) = some (c.map PyData.int)
  | [] => rfl
  | i :: c => by
    show (toPy (.int i)).bind (fun x => (toPys (c.map D.int)).map fun y => x :: y) = _
    rw [toPys_ints c]
    rfl
theorem lay_ints : ∀ c : List Int, PyData.canLayAll0 (c.map PyData.int) = true
  | [] => rfl
  | i :: c => by
    rw [List.map_cons, PyData.canLayAll0, lay_ints c]
    rfl
theorem dep_ints : ∀ c : List Int, PyData.depthAll (c.map PyData.int) = 0
  | [] => rfl
  | i :: c => by
    rw [List.map_cons, PyData.depthAll, dep_ints c]
    rfl
theorem shaped_ints (c : List Int) : PySem.SeqAt.shaped (.list (c.map .int)) = true := by
  unfold PySem.SeqAt.shaped
  rw [PyData.canLay0, lay_ints, PyData.depth, dep_ints]
  rfl
theorem o_neNil (h : Q (.bl (!c.isEmpty)) s) : RP Q E (neD (.lst (c.map .int)) (.lst []) s) := by
  show RP Q E (eqG0 true (.lst (c.map .int)) (.lst []) s)
  have e1 : toPy (.lst (c.map .int)) = some (.list (c.map .int)) := by
    rw [toPy, toPys_ints]
    rfl
  have e2 : toPy (.lst []) = some (.list []) := rfl
  unfold eqG0
  rw [e1, e2]
  dsimp only
  rw [if_pos (by rw [shaped_ints]; rfl)]
  have e3 : PyData.eqv (.list (c.map .int)) (.list []) = c.isEmpty := by
    rw [PyData.eqv]
    cases c with
    | nil => rfl
    | cons i c => rfl
  show Q (.bl (if true = true then !PyData.eqv (.list (c.map .int)) (.list []) else _)) s
  rw [e3]
  exact h
end
end Pl

set_option Elab.async false
set_option linter.all false
set_option maxRecDepth 100000
/-! Pl: try .. except .. as e. -/
namespace Pl
open Mp
open PySem (Str sizeLine PyData Addr)
section
variable {Q : D → Sto → Prop} {E : XT} {r : En} {s : Sto} {q : PQ}
theorem FP.rt_eq {v : D} {s2 : Sto} {f : Fl} (h : FP ⟨fun _ _ => False, fun d s => d = v ∧ s = s2, fun _ _ => False, fun _ _ => False, fun _ _ _ _ => False⟩ f) : f = .rt v s2 := by
  cases f with
  | rt d s =>
    obtain ⟨rfl, rfl⟩ := h
    rfl
  | nx _ _ => exact h.elim
  | bk _ _ => exact h.elim
  | ct _ _ => exact h.elim
  | exc _ _ _ _ => exact h.elim
  | bad => exact h.elim
abbrev retQ (v : D) (s2 : Sto) : PQ := ⟨fun _ _ => False, fun d s => d = v ∧ s = s2, fun _ _ => False, fun _ _ => False, fun _ _ _ _ => False⟩
/-- a handler that returns -/
theorem w_tryAs {i : Nat} {C0 : Str} {mb : DS} {tb : List (Str × Bool)} {mh : Addr → Option Addr → List (Str × D) → DS} (h : FP ⟨q.nx, q.rt, q.bk, q.ct, fun C fs r' s' => ∃ k, tb.lookup C = some k ∧ (k = true → C = C0 ∧ ∃ v s2, (∀ a d, FP (retQ v s2) (mh a d fs (r'.set i (some (.exn a d C fs))) s')) ∧ q.rt v s2) ∧ (k = false → q.ex C fs r' s')⟩ (mb r s)) : FP q (tryAsS i C0 mb tb mh r s) := by
  unfold tryAsS
  cases e : mb r s with
  | exc C fs r' s' =>
    rw [e] at h
    obtain ⟨k, e1, h1, h2⟩ := h
    dsimp only
    rw [e1]
    cases k
    · exact h2 rfl
    · obtain ⟨rfl, v, s2, h3, h4⟩ := h1 rfl
      dsimp only
      rw [if_pos rfl]
      have h5 : ∀ a d, offS i (mh a d fs (r'.set i (some (.exn a d C fs))) s') = .rt v s2 := fun a d => by
        rw [(h3 a d).rt_eq]
        rfl
      rw [joinF_of fun a d => (h5 a d).trans (h5 0 none).symm, h5]
      exact h4
  | nx r s => rw [e] at h; exact h
  | rt d s => rw [e] at h; exact h
  | bk r s => rw [e] at h; exact h
  | ct r s => rw [e] at h; exact h
  | bad => rw [e] at h; exact h
theorem o_isx {a : Addr} {d : Option Addr} {tt : List (String × Bool)} {C : Str} {fs : List (Str × D)} {n : String} {b : Bool} (hb : tt.lookup n = some b) (h : Q (.bl b) s) : RP Q E (isxD a d tt [.exn a d C fs, .ty n] s) := by
  unfold isxD
  dsimp only
  rw [if_pos ⟨rfl, rfl⟩, hb]
  exact h
theorem w_exn {a : Addr} {d : Option Addr} {f : Str} {m : DE} (h : RP (fun x s1 => ∃ C fs v, x = .exn a d C fs ∧ fs.lookup f = some v ∧ Q v s1) E (m r s)) : RP Q E (exnM a d f m r s) := w_bind (h.mono (fun x s1 ⟨C, fs, v, e, e2, h⟩ => by
  subst e
  dsimp only
  rw [if_pos ⟨rfl, rfl⟩, e2]
  exact h) fun _ _ _ h => h)
end
end Pl

set_option Elab.async false
set_option linter.all false
set_option maxRecDepth 100000
/-! Pl: rules for lists that grow, dict comprehensions, zip of a starred tuple, sorting. -/
namespace Pl
open Mp
open PySem (Str sizeLine PyData)
section
variable {Q : D → Sto → Prop} {E : XT} {r : En} {s : Sto} {q : PQ} {a : DE}
theorem RP.eqn {T : Type} {m : Res T} {v : T} {s' : Sto} (h : RP (fun y t => t = s' ∧ y = v) noX m) : m = .ok v s' := by
  obtain ⟨x, t, e, rfl, rfl⟩ := h.ex
  exact e
/-- a comprehension over a mapped list, whose elements leave the store -/
theorem w_lcX {T : Type} {c : Src} {g : DG} {te : DE} {Q : List D → Sto → Prop} (xs : List T) (f F : T → D) (hi : c.its = xs.map f) (hc : c.cel = none) (hl : xs.length ≤ sizeLine)
    (hs : ∀ x ∈ xs, ∃ p, g (f x) r s = some (p, s) ∧ RP (fun y t => t = s ∧ y = F x) noX (te p s)) (he : Q (xs.map F) s) : RP Q E (lcF c g yesM te r c.its [] s) :=
  w_lc (fun i l s' => s' = s ∧ l = (xs.take i).map F) hc ⟨rfl, by simp⟩ (fun i d l s' hd ⟨e1, e2⟩ => by
    subst e1
    rw [hi, List.getElem?_map] at hd
    cases ex : xs[i]? with
    | none => rw [ex] at hd; cases hd
    | some x =>
      rw [ex] at hd
      cases hd
      have hil := (List.getElem?_eq_some_iff.mp ex).1
      obtain ⟨p, h1, h2⟩ := hs x (List.mem_of_getElem? ex)
      refine ⟨_, h1, fun _ => ?_, fun z => by cases z⟩
      refine RP.of h2.eqn ⟨?_, rfl, ?_⟩
      · rw [e2, List.length_map, List.length_take]
        omega
      · rw [e2, List.take_succ, ex]
        simp) (fun l s' ⟨e1, e2⟩ => by
    subst e1
    rw [hi, List.length_map, List.take_length] at e2
    rw [e2]
    exact he)
/-! dict comprehensions -/
theorem w_dc0 {mi : DM Src} {g : DG} {tt : DM Bool} {tk te : DE} {vs : List Nat} (h : RP (fun c s' => RP (fun acc s2 => Q (.dct acc) s2) noX (dcF c g tt tk te (wipeE r vs) c.its [] s')) E (mi r s)) : RP Q E (dcM mi g tt tk te vs r s) := w_bind (h.mono (fun c s1 h => by
  cases e : dcF c g tt tk te (wipeE r vs) c.its [] s1 with
  | ok acc s2 => rw [e] at h; exact h
  | exc C fs s2 => rw [e] at h; exact h.elim
  | bad => rw [e] at h; exact h.elim) fun _ _ _ h => h)
theorem putA_new {T U : Type} [DecidableEq T] {l : List (T × U)} {k : T} {v : U} (h : k ∉ l.map (·.1)) : putA l k v = l ++ [(k, v)] := by
  unfold putA
  rw [if_neg]
  intro z
  rw [List.any_eq_true] at z
  obtain ⟨p, hp, e⟩ := z
  exact h (List.mem_map.mpr ⟨p, hp, of_decide_eq_true e⟩)
theorem w_dcX {T : Type} {c : Src} {g : DG} {tk te : DE} {Q : List (L2.Key × D) → Sto → Prop} (f F : T → D) (K : T → L2.Key) (hc : c.cel = none) :
    ∀ (xs : List T) (acc : List (L2.Key × D)), acc.length + xs.length ≤ sizeLine → (xs.map K).Nodup → (∀ x ∈ xs, K x ∉ acc.map (·.1)) →
    (∀ x ∈ xs, ∃ p y, g (f x) r s = some (p, s) ∧ RP (fun z t => t = s ∧ z = y) noX (tk p s) ∧ keyD y = some (K x) ∧ RP (fun z t => t = s ∧ z = F x) noX (te p s)) → Q (acc ++ xs.map fun x => (K x, F x)) s → RP Q E (dcF c g yesM tk te r (xs.map f) acc s)
  | [], acc, _, _, _, _, he => by
    rw [List.map_nil]
    unfold dcF
    rw [if_pos (by unfold SrcOk; rw [hc]; trivial)]
    rw [List.map_nil, List.append_nil] at he
    exact he
  | x :: xs, acc, hl, hn, ha, hs, he => by
    obtain ⟨p, y, h1, h2, h3, h4⟩ := hs x List.mem_cons_self
    rw [List.map_cons]
    unfold dcF
    rw [if_pos (by unfold SrcOk; rw [hc]; trivial), h1]
    dsimp only
    rw [show yesM p s = .ok true s from rfl]
    dsimp only
    rw [if_pos rfl, h2.eqn]
    dsimp only
    rw [h4.eqn]
    dsimp only
    rw [h3]
    dsimp only
    simp only [List.length_cons] at hl
    rw [if_pos (by omega), putA_new (ha x List.mem_cons_self)]
    rw [List.map_cons, List.nodup_cons] at hn
    refine w_dcX f F K hc xs (acc ++ [(K x, F x)]) (by rw [List.length_append]; simp; omega) hn.2 (fun z hz hm => ?_) (fun z hz => hs z (List.mem_cons_of_mem _ hz)) ?_
    · rw [List.map_append, List.mem_append] at hm
      rcases hm with hm | hm
      · exact ha z (List.mem_cons_of_mem _ hz) hm
      · simp at hm
        exact hn.1 (hm ▸ List.mem_map_of_mem hz)
    · rw [List.append_assoc]
      exact he
theorem w_disp0 (h : Q (.cel s.length) (s ++ [some (.dct [])])) : RP Q E (disp0M r s) := h
/-! methods -/
theorem w_bm {ty : Sto → D → Bool} {f : D → List D → Sto → Res D} {l : DM (List D)} (h : RP (fun x s1 => ty s1 x = true ∧ RP (fun ds s2 => RP Q E (f x ds s2)) E (l r s1)) E (a r s)) : RP Q E (bmD ty f a l r s) := w_bind (h.mono (fun x s ⟨e, h⟩ => by
  rw [if_pos e]
  exact w_bind h) fun _ _ _ h => h)
theorem o_app {n : Nat} {l : List D} {d : D} (hs : s[n]? = some (some (.lst l))) (hl : l.length < sizeLine) (h : Q .non (s.set n (some (.lst (l ++ [d]))))) : RP Q E (appD (.cel n) [d] s) := by
  unfold appD
  dsimp only
  rw [hs]
  dsimp only
  rw [if_pos hl]
  exact h
theorem o_pop {n k : Nat} {l : List D} {d : D} {i : Int} (hs : s[n]? = some (some (.lst l))) (hi : i = (k : Int)) (hk : l[k]? = some d) (hl : l.length ≤ sizeLine) (h : Q d (s.set n (some (.lst (l.eraseIdx k))))) : RP Q E (popD (.cel n) [.int i] s) := by
  have hlt := (List.getElem?_eq_some_iff.mp hk).1
  have hz : sizeLine = 16777216 := by decide
  unfold popD
  dsimp only
  rw [hs]
  dsimp only
  have e : PySem.seqIndex? i l.length = some k := by
    subst hi
    unfold PySem.seqIndex?
    simp
    omega
  rw [if_pos (by subst hi; constructor <;> omega), e]
  dsimp only
  rw [hk]
  exact h
theorem strsOf_map : ∀ ys : List Str, strsOf (ys.map .str) = some ys
  | [] => rfl
  | y :: ys => by
    show (strsOf (ys.map .str)).map (fun l => y :: l) = _
    rw [strsOf_map ys]
    rfl
theorem o_join {x : D} {a : Str} {ys : List Str} (hx : lstOf s x = some (ys.map .str)) (hl : (ys.map (·.length)).sum + ys.length * a.length ≤ 16777216) (h : Q (.str (PySem.Txt.join a ys)) s) : RP Q E (joinD (.str a) [x] s) := by
  unfold joinD
  dsimp only
  rw [hx]
  dsimp only
  rw [strsOf_map]
  dsimp only
  rw [if_pos hl]
  exact h
/-- texts of one sign each -/
theorem join_chars (cs : List Nat) : PySem.Txt.join "" (cs.map fun c => (⟨#[c]⟩ : Str)) = ⟨cs.toArray⟩ := by
  show PySem.Builtin.Str.glued _ _ = _
  rw [PySem.StrLaws.glued_eq_join]
  induction cs with
  | nil => rfl
  | cons c cs ih =>
    cases cs with
    | nil => rfl
    | cons c2 cs =>
      show (⟨#[c]⟩ : Str) ++ "" ++ Str.join "" ((c2 :: cs).map fun c => (⟨#[c]⟩ : Str)) = _
      rw [ih]
      show Str.mk (#[c] ++ #[] ++ (c2 :: cs).toArray) = Str.mk (c :: c2 :: cs).toArray
      congr 1
      apply Array.ext'
      simp
theorem len_chars (cs : List Nat) : ((cs.map fun c => (⟨#[c]⟩ : Str)).map (·.length)).sum = cs.length := by
  induction cs with
  | nil => rfl
  | cons c cs ih =>
    rw [List.map_cons, List.map_cons, List.sum_cons, ih]
    show 1 + _ = _
    rw [List.length_cons]
    omega
theorem o_sortedI {x : D} {ns : List Int} (h1 : dctOf s x = none) (h2 : lstOf s x = some (ns.map .int)) (h : Q (.lst ((ns.mergeSort leI2).map .int)) s) : RP Q E (sortedD [x] s) := by
  unfold sortedD
  dsimp only
  rw [h1]
  dsimp only
  rw [h2]
  dsimp only
  rw [show intsOf (ns.map .int) = some ns from by have := intsOf_map (fun z : Int => z) ns; rw [List.map_id'] at this; exact this]
  exact h
theorem w_listRg {k : Int} (h : RP (fun x s1 => x = .int k ∧ 0 ≤ k ∧ k ≤ 16777216 ∧ Q (.lst (intL 0 k.toNat)) s1) E (a r s)) : RP Q E (listRgM false a r s) := w_bind (h.mono (fun x s ⟨e, h1, h2, h⟩ => by
  subst e
  unfold listRgD
  dsimp only
  rw [if_pos ⟨h1, h2⟩]
  exact h) fun _ _ _ h => h)
theorem w_zipS {Q : Src → Sto → Prop} (h : RP (fun x s1 => ∃ rows : List (List D), x = .tup (rows.map .tup) ∧ (∀ r ∈ rows, r.length = widthD rows) ∧ Q ⟨(colsD rows).map .tup, none⟩ s1) E (a r s)) : RP Q E (zipSI a r s) := w_bind (h.mono (fun x s ⟨rows, e, h1, h⟩ => by
  subst e
  unfold zipSD
  dsimp only
  have e : ∀ l : List (List D), rowsD (l.map .tup) = some l := fun l => by
    induction l with
    | nil => rfl
    | cons r l ih =>
      show (rowsD (l.map .tup)).map (fun rs => r :: rs) = _
      rw [ih]
      rfl
  rw [e]
  dsimp only
  rw [if_pos (List.all_eq_true.mpr fun r hr => by simpa using h1 r hr)]
  exact h) fun _ _ _ h => h)
theorem o_isiM {it : Isi} {x c : D} {cs : List D} {t : Tg} {b : Bool} (h1 : tagD s x = some t) (h2 : isiTs it t (c :: cs) = some b) (h3 : (c :: cs).all isCl = true) (h : Q (.bl b) s) : RP Q E (isiMD it [x, .tup (c :: cs)] s) := by
  unfold isiMD
  dsimp only
  rw [h1]
  dsimp only
  rw [h2]
  dsimp only
  rw [if_pos h3]
  exact h
theorem o_lenXD {x : D} {m : List (L2.Key × D)} (h1 : dctOf s x = some m) (h : Q (.int (m.length : Nat)) s) : RP Q E (lenX [x] s) := by
  unfold lenX
  dsimp only
  rw [h1]
  exact h
theorem o_lenXS {z : Str} (hl : z.length ≤ sizeLine) (h : Q (.int (z.length : Nat)) s) : RP Q E (lenX [.str z] s) := o_lenS hl h
theorem w_seqIS {Q : Src → Sto → Prop} (h : RP (fun x s1 => ∃ z, x = .str z ∧ Q ⟨chars z, none⟩ s1) E (a r s)) : RP Q E (seqI a r s) := w_seqI (h.mono (fun x s ⟨z, e, h⟩ => by
  subst e
  exact ⟨_, rfl, h⟩) fun _ _ _ h => h)
end
end Pl

set_option Elab.async false
set_option linter.all false
set_option maxRecDepth 100000
/-! Pl: letters and words as texts. -/
namespace Pl
open Mp
open PySem (Str sizeLine PyData)
def ch (i : Nat) : Str := ⟨#[97 + i]⟩
/-- the text of these letters -/
def LS (ps : List Nat) : Str := ⟨(ps.map (97 + ·)).toArray⟩
theorem LS_len (ps : List Nat) : (LS ps).length = ps.length := by
  show (ps.map (97 + ·)).toArray.size = _
  simp
theorem LS_chars (ps : List Nat) : chars (LS ps) = ps.map fun i => .str (ch i) := by
  unfold chars LS
  simp only [List.map_map]
  rfl
theorem ch_inj {i j : Nat} (h : ch i = ch j) : i = j := by
  have h1 : (#[97 + i] : Array Nat) = #[97 + j] := congrArg Str.cps h
  simp at h1
  exact h1
theorem LS_join (ps : List Nat) : PySem.Txt.join "" (ps.map ch) = LS ps := by
  have h := join_chars (ps.map (97 + ·))
  rw [List.map_map] at h
  exact h
theorem LS_joinlen (ps : List Nat) : ((ps.map ch).map (·.length)).sum = ps.length := by
  have h := len_chars (ps.map (97 + ·))
  rw [List.length_map] at h
  rw [← h, List.map_map, List.map_map, List.map_map]
  rfl
theorem inStr_LS (i : Nat) (ps : List Nat) : inStr (ch i) (LS ps) = decide (i ∈ ps) := by
  unfold inStr LS ch
  show decide (97 + i ∈ (ps.map (97 + ·))) = _
  apply decide_eq_decide.mpr
  simp
theorem abc : (Str.ofString "abcdefghijklmnopqrstuvwxyz") = LS (List.range 26) := by decide +kernel
theorem inStr_abc {i : Nat} (h : i < 26) : inStr (ch i) (Str.ofString "abcdefghijklmnopqrstuvwxyz") = true := by
  rw [abc, inStr_LS, decide_eq_true_iff]
  exact List.mem_range.mpr h
theorem idx_LS {ps : List Nat} {k p : Nat} {i : Int} {s : Sto} {Q : D → Sto → Prop} {E : XT} (hl : ps.length ≤ sizeLine) (h0 : i = (k : Int)) (h1 : ps[k]? = some p) (h : Q (.str (ch p)) s) : RP Q E (idxD (.str (LS ps)) (.int i) s) := by
  have hlt := (List.getElem?_eq_some_iff.mp h1).1
  unfold idxD
  rw [show dctOf s (.str (LS ps)) = none from rfl]
  dsimp only
  rw [if_pos (by rw [LS_len]; exact hl)]
  subst h0
  have e : L2.atI (LS ps).cps.toList (k : Int) = some (97 + p) := by
    unfold L2.atI L2.ixN
    have z : (LS ps).cps.toList = ps.map (97 + ·) := by simp [LS]
    rw [z, List.length_map, if_pos (by omega), if_pos (by omega)]
    simp [h1]
  rw [e]
  exact h
theorem lt_ch {a b : Nat} {s : Sto} {Q : D → Sto → Prop} {E : XT} (h : Q (.bl (decide (a < b))) s) : RP Q E (ltI (.str (ch a)) (.str (ch b)) s) := by
  have e : decide ((ch a).cps.toList < (ch b).cps.toList) = decide (a < b) := by
    apply decide_eq_decide.mpr
    show [97 + a] < [97 + b] ↔ a < b
    rw [List.cons_lt_cons_iff]
    constructor
    · rintro (h | ⟨_, h⟩)
      · omega
      · exact absurd h (by simp)
    · intro h
      exact .inl (by omega)
  show Q (.bl (decide ((ch a).cps.toList < (ch b).cps.toList))) s
  rw [e]
  exact h
theorem o_inS {x y : Str} {s : Sto} {Q : D → Sto → Prop} {E : XT} (h : Q (.bl (inStr x y)) s) : RP Q E (inD false (.str x) (.str y) s) := h
/-- a dict by letters -/
def byL {T : Type} (ps : List Nat) (f : Nat → T) : List (L2.Key × T) := ps.map fun i => (.inr (ch i), f i)
theorem byL_get {T : Type} {ps : List Nat} {f : Nat → T} {i : Nat} (h : i ∈ ps) : getK (byL ps f) (.inr (ch i)) = some (f i) := by
  unfold byL
  induction ps with
  | nil => cases h
  | cons j ps ih =>
    unfold getK at ih ⊢
    rw [List.map_cons, List.find?_cons]
    by_cases e : j = i
    · subst e
      simp
    · have : decide ((Sum.inr (ch j) : L2.Key) = .inr (ch i)) = false := decide_eq_false fun z => e (ch_inj (Sum.inr.inj z))
      dsimp only
      rw [this]
      rcases List.mem_cons.mp h with rfl | h
      · exact absurd rfl e
      · exact ih h
theorem byL_len {T : Type} {ps : List Nat} {f : Nat → T} : (byL ps f).length = ps.length := by unfold byL; simp
theorem key_nodup {ps : List Nat} (h : ps.Nodup) : (ps.map fun i => (Sum.inr (ch i) : L2.Key)).Nodup := by
  induction ps with
  | nil => exact .nil
  | cons j ps ih =>
    rw [List.nodup_cons] at h
    rw [List.map_cons, List.nodup_cons]
    refine ⟨fun z => ?_, ih h.2⟩
    obtain ⟨i, hi, e⟩ := List.mem_map.mp z
    exact h.1 (ch_inj (Sum.inr.inj e) ▸ hi)
theorem dctOf_cel {s s' : Sto} {t : Nat} (h : s'[t]? = s[t]?) : dctOf s' (.cel t) = dctOf s (.cel t) := by
  unfold dctOf
  dsimp only
  rw [h]
/-- letters: one to four, ascending -/
structure Lets (ps : List Nat) : Prop where
  pos : 1 ≤ ps.length
  few : ps.length ≤ 4
  lt : ∀ i ∈ ps, i < 26
  asc : ps.Pairwise (· < ·)
theorem Lets.nodup {ps : List Nat} (h : Lets ps) : ps.Nodup := h.asc.imp fun z => Nat.ne_of_lt z
end Pl

set_option Elab.async false
set_option linter.all false
set_option maxRecDepth 100000
set_option maxHeartbeats 4000000
/-! Pl: lambdas handed to a def; texts by their signs. -/
namespace Pl
open Mp
open PySem (Str sizeLine PyData Addr)
section
variable {Q : D → Sto → Prop} {E : XT} {r : En} {s : Sto} {te : DE}
theorem w_th {f c : Addr} {q : Str} {t : L2.St} {r0 r : En} (h0 : r[0]? = some (some (D.clo f c q t r0))) (h : RP Q E (te r0 s)) : RP Q E (thM f c q t r0 te r s) := by
  unfold thM
  rw [if_pos h0]
  exact h
theorem w_lam {i n : Nat} {x : Str} {b : DE → DS} (v : D) (s2 : Sto) (h0 : s[i]? = some (some (.tab x))) (h : ∀ (f c : Addr) (t : L2.St), FP (retQ v s2) (b (thM f c (lamQ x) t r te) (some (.clo f c (lamQ x) t r) :: List.replicate n none) s)) (hq : Q v s2) : RP Q E (lamM i x n b te r s) := by
  rw [lamM_eq (R := .ok v s2) h0 fun f c t => by rw [(h f c t).rt_eq]; rfl]
  exact hq
/-- texts by their signs -/
def CS (cs : List Nat) : Str := ⟨cs.toArray⟩
theorem CS_of (z : Str) : z = CS z.cps.toList := by
  cases z
  simp [CS]
theorem LS_CS (ps : List Nat) : LS ps = CS (ps.map (97 + ·)) := rfl
theorem CS_len (cs : List Nat) : (CS cs).length = cs.length := by
  show cs.toArray.size = _
  simp
theorem CS_chars (cs : List Nat) : chars (CS cs) = cs.map fun c => .str ⟨#[c]⟩ := by
  unfold chars CS
  rfl
theorem CS_app (a b : List Nat) : CS a ++ CS b = CS (a ++ b) := by
  show (⟨a.toArray ++ b.toArray⟩ : Str) = ⟨_⟩
  simp
theorem ch_CS (i : Nat) : ch i = CS [97 + i] := rfl
theorem inStr_CS (c : Nat) (cs : List Nat) : inStr ⟨#[c]⟩ (CS cs) = decide (c ∈ cs) := by
  unfold inStr CS
  rfl
theorem foldl_app (l : List (List Nat)) (a : List Nat) : (l.map List.toArray).foldl (· ++ ·) a.toArray = (a ++ l.flatten).toArray := by
  induction l generalizing a with
  | nil => simp
  | cons x l ih =>
    rw [List.map_cons, List.foldl_cons, List.append_toArray, ih, List.flatten_cons, List.append_assoc]
theorem repS_CS (cs : List Nat) (n : Nat) : repS (CS cs) n = CS (List.replicate n cs).flatten := by
  unfold repS CS
  have h := foldl_app (List.replicate n cs) []
  rw [List.map_replicate] at h
  rw [List.nil_append] at h
  rw [← h]
theorem LS_rep (ps : List Nat) (n : Nat) : repS (LS ps) n = LS (List.replicate n ps).flatten := by
  rw [LS_CS, repS_CS, LS_CS, List.map_flatten, List.map_replicate]
theorem LS_app (ps qs : List Nat) : LS ps ++ LS qs = LS (ps ++ qs) := by
  rw [LS_CS, LS_CS, CS_app, LS_CS, List.map_append]
theorem ch_LS (i : Nat) : ch i = LS [i] := rfl
theorem flat_len {T : Type} (n : Nat) (l : List T) : (List.replicate n l).flatten.length = n * l.length := by
  rw [List.length_flatten, List.map_replicate, List.sum_replicate_nat]
theorem flat_mem {T : Type} {n : Nat} {l : List T} {x : T} (h : x ∈ (List.replicate n l).flatten) : x ∈ l := by
  obtain ⟨m, hm, hx⟩ := List.mem_flatten.mp h
  rw [List.eq_of_mem_replicate hm] at hx
  exact hx
theorem o_mulX {z : Str} {k : Int} {n : Nat} (hn : n = k.toNat) (h1 : 2 ≤ k) (h2 : k ≤ 1000000) (h3 : 0 < z.length) (h4 : z.length * n ≤ 16777216) (h : Q (.str (repS z n)) s) : RP Q E (mulX (.str z) (.int k) s) := by
  subst hn
  unfold mulX
  dsimp only
  rw [if_pos ⟨h1, h2, h3, h4⟩]
  exact h
theorem o_neSB {a b : Str} {p : Bool} (ha : PyData.strOk a = true) (hb : PyData.strOk b = true) (h : Q (.bl (!decide (a = b))) s) : RP Q E (neD (.tup [.str a, .bl p]) (.tup [.str b, .bl p]) s) := by
  have sh : ∀ z, PyData.strOk z = true → PySem.SeqAt.shaped (.tuple [.str z, .bool p]) = true := fun z hz => by
    unfold PySem.SeqAt.shaped
    rw [show PyData.canLay0 (.tuple [.str z, .bool p]) = (PyData.strOk z && (true && true)) from rfl, hz]
    rfl
  have e : neD (.tup [.str a, .bl p]) (.tup [.str b, .bl p]) s = .ok (.bl (!decide (a = b))) s := by
    show eqG true _ _ s = _
    unfold eqG
    dsimp only
    unfold eqG0
    rw [show toPy (.tup [.str a, .bl p]) = some (.tuple [.str a, .bool p]) from rfl, show toPy (.tup [.str b, .bl p]) = some (.tuple [.str b, .bool p]) from rfl]
    dsimp only
    rw [sh a ha, sh b hb, if_pos (show (true && true) = true from rfl)]
    show Res.ok (D.bl (!((a == b) && ((p == p) && true)))) s = _
    congr 3
    rw [Bool.eq_iff_iff]
    simp
  rw [e]
  exact h
theorem char_ok : ∀ q : Nat, q = 39 ∨ q = 34 → ∀ c : Nat, c < 128 → (PySem.Builtin.Str.reprChar q c).all (· < 0x110000) = true := by
  have h1 : (List.range 128).all (fun c => (PySem.Builtin.Str.reprChar 39 c).all (· < 0x110000)) = true := by decide +kernel
  have h2 : (List.range 128).all (fun c => (PySem.Builtin.Str.reprChar 34 c).all (· < 0x110000)) = true := by decide +kernel
  rw [List.all_eq_true] at h1 h2
  rintro q (rfl | rfl) c hc
  · exact h1 c (List.mem_range.mpr hc)
  · exact h2 c (List.mem_range.mpr hc)
theorem fold_ok (q : Nat) (hq : q = 39 ∨ q = 34) : ∀ (l : List Nat) (acc : Array Nat), (∀ c ∈ l, c < 128) → (∀ c ∈ acc.toList, c < 0x110000) → ∀ c ∈ (l.foldl (fun out c => out ++ (PySem.Builtin.Str.reprChar q c).toArray) acc).toList, c < 0x110000
  | [], acc, _, h => h
  | x :: l, acc, hl, h => by
    rw [List.foldl_cons]
    refine fold_ok q hq l _ (fun c hc => hl c (List.mem_cons_of_mem _ hc)) fun c hc => ?_
    rw [Array.toList_append, List.mem_append] at hc
    rcases hc with hc | hc
    · exact h c hc
    · have := char_ok q hq x (hl x List.mem_cons_self)
      rw [List.all_eq_true] at this
      simpa using this c (by simpa using hc)
theorem repr_ok {cs : List Nat} (h : ∀ c ∈ cs, c < 128) : PyData.strOk (PySem.reprText (CS cs)) = true := by
  have hq : PySem.reprQuote (CS cs) = 39 ∨ PySem.reprQuote (CS cs) = 34 := by
    unfold PySem.reprQuote
    split
    · exact .inr rfl
    · exact .inl rfl
  have h1 := fold_ok _ hq cs #[PySem.reprQuote (CS cs)] h (by
    intro c hc
    simp at hc
    omega)
  unfold PyData.strOk
  rw [← Array.all_toList, List.all_eq_true]
  intro c hc
  unfold PySem.reprText at hc
  simp only [Array.toList_push, List.mem_append, List.mem_singleton] at hc
  rw [decide_eq_true_iff]
  rcases hc with hc | hc
  · refine h1 c ?_
    rw [← Array.foldl_toList] at hc
    exact hc
  · omega
theorem repr_len {cs : List Nat} (h : ∀ c ∈ cs, c < 128) : (PySem.reprText (CS cs)).length ≤ 10 * cs.length + 2 := by
  have := PySem.StrLaws.reprText_len (CS cs) (by
    intro c hc
    have := h c (by simpa [CS] using hc)
    exact Nat.lt_trans this (by decide))
  rw [CS_len] at this
  exact this
theorem last_idx {T : Type} {l : List T} {x : T} (h : l.getLast? = some x) : L2.atI l (-1) = some x := by
  unfold L2.atI L2.ixN
  cases l with
  | nil => cases h
  | cons a l =>
    rw [List.getLast?_eq_getElem?] at h
    rw [← h, if_neg (by decide), if_pos (by simp; omega)]
    have e : ((-1 : Int) + ((a :: l).length : Nat)).toNat = (a :: l).length - 1 := by simp; omega
    show (a :: l)[((-1 : Int) + ((a :: l).length : Nat)).toNat]? = _
    rw [e]
theorem idx_last {ps : List Nat} {p : Nat} (hl : ps.length ≤ sizeLine) (h1 : ps.getLast? = some p) (h : Q (.str (ch p)) s) : RP Q E (idxD (.str (LS ps)) (.int (-1)) s) := by
  unfold idxD
  rw [show dctOf s (.str (LS ps)) = none from rfl]
  dsimp only
  rw [if_pos (by rw [LS_len]; exact hl)]
  have e : L2.atI (LS ps).cps.toList (-1) = some (97 + p) := by
    have z : (LS ps).cps.toList = ps.map (97 + ·) := by simp [LS]
    rw [z]
    refine last_idx ?_
    rw [List.getLast?_map, h1]
    rfl
  rw [e]
  exact h
theorem idxL_last {l : List D} {d : D} (h1 : l.getLast? = some d) (h : Q d s) : RP Q E (idxD (.lst l) (.int (-1)) s) := by
  unfold idxD
  rw [show dctOf s (.lst l) = none from rfl]
  dsimp only [seqOf, lstOf, lstX]
  rw [last_idx h1]
  exact h
/-- a comprehension with a test over a mapped list, which leaves the store -/
theorem w_lcY {T : Type} {c : Src} {g : DG} {tt : DM Bool} {te : DE} {Q : List D → Sto → Prop} (xs : List T) (f F : T → D) (C : T → Bool) (hi : c.its = xs.map f) (hc : c.cel = none) (hl : xs.length ≤ sizeLine)
    (hs : ∀ x ∈ xs, ∃ p, g (f x) r s = some (p, s) ∧ RP (fun k s1 => s1 = s ∧ k = C x) noX (tt p s) ∧ (C x = true → RP (fun y t => t = s ∧ y = F x) noX (te p s))) (he : Q ((xs.filter C).map F) s) : RP Q E (lcF c g tt te r c.its [] s) :=
  w_lc (fun i l s' => s' = s ∧ l = ((xs.take i).filter C).map F ∧ l.length ≤ i) hc ⟨rfl, by simp, Nat.le_refl _⟩ (fun i d l s' hd ⟨e1, e2, e3⟩ => by
    subst e1
    rw [hi, List.getElem?_map] at hd
    cases ex : xs[i]? with
    | none => rw [ex] at hd; cases hd
    | some x =>
      rw [ex] at hd
      cases hd
      have hil := (List.getElem?_eq_some_iff.mp ex).1
      obtain ⟨p, h1, h2, h3⟩ := hs x (List.mem_of_getElem? ex)
      refine ⟨_, h1, ?_⟩
      refine RP.of h2.eqn ⟨fun hk => ?_, fun hk => ?_⟩
      · refine RP.of (h3 hk).eqn ⟨by omega, rfl, ?_, by simp; omega⟩
        rw [e2, List.take_succ, ex]
        simp [hk]
      · refine ⟨rfl, ?_, by omega⟩
        rw [e2, List.take_succ, ex]
        simp [hk]) (fun l s' ⟨e1, e2, _⟩ => by
    subst e1
    rw [hi, List.length_map, List.take_length] at e2
    rw [e2]
    exact he)
theorem o_ninS {x y : Str} (h : Q (.bl (!inStr x y)) s) : RP Q E (inD true (.str x) (.str y) s) := h
end
end Pl

set_option Elab.async false
set_option linter.all false
set_option maxRecDepth 100000
set_option maxHeartbeats 4000000
namespace G
open Mp Pl
open PySem (Str sizeLine)
local macro_rules | `(tactic| wtm_at "e") => `(tactic| first
  | with_reducible refine w_set ?_
  | with_reducible refine w_bin ?_
  | ((with_reducible refine w_v (d := ?dv) ?hv ?_); (case hv => exact rfl))
  | with_reducible refine w_c ?_
  | with_reducible refine w_cons ?_
  | with_reducible refine w_nil ?_
  | with_reducible refine w_arg ?_
  | with_reducible refine w_call ?_
  | with_reducible refine w_if ?_
  | with_reducible refine w_ret ?_
  | with_reducible refine w_skip ?_
  | with_reducible refine w_bl ?_
  | with_reducible refine w_tru ?_
  | with_reducible refine w_attr ?_
  | with_reducible refine w_meth ?_
  | with_reducible refine w_chain ?_
  | with_reducible refine w_and ?_
  | with_reducible refine w_or ?_
  | with_reducible refine w_not ?_
  | with_reducible refine w_notT ?_
  | with_reducible refine w_andT ?_
  | with_reducible refine w_orT ?_
  | with_reducible refine w_ifM ?_
  | with_reducible refine w_expr ?_
  | with_reducible refine w_un ?_
  | with_reducible refine w_par2 ?_
  | with_reducible refine w_par3 ?_
  | with_reducible refine w_asg ?_
  | with_reducible refine w_aug ?_
  | with_reducible refine w_sub ?_
  | with_reducible refine w_fld ?_
  | with_reducible refine w_raise ?_
  | with_reducible refine w_raise0 ?_
  | with_reducible refine w_try ?_
  | with_reducible refine w_make ?_
  | with_reducible refine w_tryAs ?_
  | with_reducible refine w_exn ?_
  | ((with_reducible refine o_isx (b := ?bv) ?h1 ?_); (case h1 => exact rfl))
  | with_reducible refine w_superS ?_
  | with_reducible refine w_super ?_
  | with_reducible refine w_star ?_
  | with_reducible refine w_for0 ?_
  | with_reducible refine w_lc0 ?_
  | with_reducible refine w_seqI ?_
  | with_reducible refine w_argI ?_
  | with_reducible refine w_opt ?_
  | with_reducible refine w_sli ?_
  | with_reducible refine w_pure ?_
  | with_reducible refine w_disp ?_
  | with_reducible refine w_pairs1 ?_
  | with_reducible refine w_pairs0 ?_
  | with_reducible refine w_retN ?_
  | with_reducible refine w_cnt ?_
  | with_reducible refine w_brk ?_
  | with_reducible refine o_addI ?_
  | with_reducible refine o_addI' ?_
  | with_reducible refine o_sub ?_
  | with_reducible refine o_lt ?_
  | with_reducible refine o_le ?_
  | with_reducible refine o_gt ?_
  | with_reducible refine o_ge ?_
  | with_reducible refine o_eqI ?_
  | with_reducible refine o_neI ?_
  | with_reducible refine o_eqS ?_
  | with_reducible refine o_neS ?_
  | with_reducible refine o_int ?_
  | with_reducible refine o_intB ?_
  | with_reducible refine o_neg ?_
  | with_reducible refine o_abs ?_
  | with_reducible refine o_newL ?_
  | with_reducible refine o_max2 ?_
  | with_reducible refine o_min2 ?_
  | with_reducible refine o_lenL ?_
  | with_reducible refine o_lenT ?_
  | ((with_reducible refine o_tup ?hv ?_); (case hv => first | exact Nat.le_of_ble_eq_true rfl | assumption))
  | ((with_reducible refine o_lst ?hv ?_); (case hv => first | exact Nat.le_of_ble_eq_true rfl | assumption))
  | ((with_reducible refine o_isi (t := ?tv) (b := ?bv) ?h1 ?h2 ?_); (case h1 => exact rfl); (case h2 => exact rfl))
  | ((with_reducible refine o_fld (C := ?cv) (fs := ?fv) (d := ?dv) ?h1 ?h2 ?h3 ?_); (case h1 => exact rfl); (case h2 => exact rfl); (case h3 => exact rfl))
  | ((with_reducible refine Exists.intro ?kv (And.intro ?ha ?_)); (case ha => exact rfl)))
local macro_rules | `(tactic| wtm_at "body") => `(tactic| (refine w_body rfl rfl ?_; dsimp only [List.length_cons, List.length_nil, List.drop, List.append_nil, List.map_cons, List.map_nil, List.map, List.cons_append, List.nil_append, Nat.reduceAdd, Nat.reduceSub, List.replicate]))
local macro_rules | `(tactic| wtm_at "meth") => `(tactic| refine ⟨_, _, _, rfl, rfl, rfl, ?_⟩)
local macro_rules | `(tactic| wtm_at "w") => `(tactic| first | with_reducible refine w_seq ?_ | wtm_at "e")
local macro_rules | `(tactic| wtm_at "s") => `(tactic| ((repeat wtm_at "e"); (with_reducible refine w_seq ?_)))
local macro_rules | `(tactic| wtm_at "f") => `(tactic| ((repeat wtm_at "e"); (with_reducible show FP _ _)))
/-! checks -/
theorem q_is_integer_int {i : Int} {s : Sto} {Q : D → Sto → Prop} {E : XT} (h : Q (.bl true) s) : RP Q E (m_is_integer [.int i] s) := h
/-! digits -/
theorem tenb {n : Nat} (h : n ≤ 20) : ((10 : Int) ^ (50 * n)).natAbs < 2 ^ 4000 := by
  rw [Int.natAbs_pow]
  refine Nat.lt_of_le_of_lt (Nat.pow_le_pow_right (by decide) (show 50 * n ≤ 1000 by omega)) ?_
  decide +kernel
theorem q_ten_to {n : Nat} {z : Int} {s : Sto} {Q : D → Sto → Prop} {E : XT} (hz : z = 50 * n) (hn : n ≤ 20) (h : Q (.int (10 ^ (50 * n))) s) : RP Q E (m_ten_to [.int z] s) := by
  wtm_at "body"
  unfold b_ten_to
  repeat wtm_at "w"
  refine o_div64 (by omega) (by omega) ?_
  repeat wtm_at "w"
  have e : (z / 50).toNat = n := by omega
  refine w_range1 (by omega) (by omega) ?_
  rw [e]
  refine w_for (fun i r s' => s' = s ∧ ∃ x, r = [some (.int z), some (.int (10 ^ (50 * i))), x]) rfl ⟨rfl, _, rfl⟩ ?_ ?_
  · rintro i d r s' hd ⟨rfl, x, rfl⟩
    obtain ⟨hi, rfl⟩ := intL_get hd
    refine ⟨_, rfl, ?_⟩
    repeat wtm_at "w"
    refine o_pow (by decide) (by decide) (by decide) ?_
    refine o_mulI (mulC_of (a := 4000) (b := 4000) (tenb (by omega)) (tenb (n := 1) (by decide)) (by decide) (by decide) (by decide)) ?_
    refine ⟨rfl, some (.int (0 + i)), ?_⟩
    rw [show (10 : Int) ^ (50 * (i + 1)) = 10 ^ (50 * i) * 10 ^ 50 from by rw [Nat.mul_succ, Int.pow_add]]
    rfl
  · rintro r s' ⟨rfl, x, rfl⟩
    rw [intL_len]
    repeat wtm_at "w"
    exact h
abbrev absI (i : Int) : Int := if i < 0 then -i else i
theorem q_short_parts {x : D} {t b z : Int} {n : Nat} {s : Sto} {Q : D → Sto → Prop} {E : XT} (hz : z = 50 * n) (hn : n ≤ 20) (hp : ∀ s, m_parts_of [x] s = .ok (.tup [.int t, .int b]) s) (h : Q (.bl (decide (absI t < 10 ^ (50 * n)) && decide (absI b < 10 ^ (50 * n)))) s) : RP Q E (m_is_short [x, .int z] s) := by
  wtm_at "body"
  unfold b_is_short
  repeat wtm_at "w"
  refine q_ten_to hz hn ?_
  repeat wtm_at "w"
  refine RP.of (hp _) ?_
  repeat wtm_at "w"
  refine w_lcP (fun d => match d with
    | .int i => .bl (decide (absI i < 10 ^ (50 * n)))
    | d => d) rfl (by show 2 ≤ sizeLine; decide) (fun d hd => ?_) ?_
  · have hd : d = .int t ∨ d = .int b := by simpa using hd
    rcases hd with rfl | rfl
    · exact ⟨_, rfl, rfl⟩
    · exact ⟨_, rfl, rfl⟩
  · repeat wtm_at "w"
    refine o_all (l := [_, _]) rfl ?_
    have e : ([decide (absI t < 10 ^ (50 * n)), decide (absI b < 10 ^ (50 * n))].all id) = (decide (absI t < 10 ^ (50 * n)) && decide (absI b < 10 ^ (50 * n))) := by
      simp
    exact e ▸ h
theorem q_short_int {v z : Int} {n : Nat} {s : Sto} {Q : D → Sto → Prop} {E : XT} (hz : z = 50 * n) (hn : n ≤ 20) (h : Q (.bl (decide (absI v < 10 ^ (50 * n)) && decide (absI 1 < 10 ^ (50 * n)))) s) : RP Q E (m_is_short [.int v, .int z] s) := q_short_parts hz hn (fun _ => rfl) h
theorem q_is_between_int {v a b : Int} {s : Sto} {Q : D → Sto → Prop} {E : XT} (h : Q (.bl (decide (a ≤ v) && decide (v ≤ b))) s) : RP Q E (m_is_between [.int v, .int a, .int b] s) := by
  wtm_at "body"
  unfold b_is_between
  repeat wtm_at "w"
  refine q_is_integer_int ?_
  repeat wtm_at "w"
  refine ⟨fun _ => ?_, fun hk => by cases hk⟩
  repeat wtm_at "w"
  refine ⟨fun hk => ?_, fun hk => ?_⟩
  · repeat wtm_at "w"
    rw [hk] at h
    exact h
  · rw [hk] at h
    exact h
/-! Modulo -/
abbrev fM (p : Int) : D := .ins "Modulo" [("own_prime", .int p)]
section
variable {p v w : Int} {s : Sto} {Q : D → Sto → Prop} {E : XT}
theorem q_is_any (h : Q (.bl (decide (0 ≤ v) && decide (v ≤ p - 1))) s) : RP Q E (m_Modulo_is_any [fM p, .int v] s) := by
  wtm_at "body"
  unfold b_Modulo_is_any
  repeat wtm_at "w"
  exact q_is_between_int h
theorem q_is_numberM (hp : p ≤ 1000000000) (h : Q (.bl (decide (0 ≤ v) && decide (v ≤ p - 1))) s) : RP Q E (m_Field_is_number [fM p, .int v] s) := by
  wtm_at "body"
  unfold b_Field_is_number
  repeat wtm_at "w"
  wtm_at "meth"
  repeat wtm_at "w"
  refine q_is_any ?_
  repeat wtm_at "w"
  refine ⟨fun hk => ?_, fun hk => ?_⟩
  · repeat wtm_at "w"
    refine q_short_int (n := 2) rfl (by decide) ?_
    have hk' := hk
    simp only [Bool.and_eq_true, decide_eq_true_eq] at hk'
    have e : (decide (absI v < 10 ^ (50 * 2)) && decide (absI 1 < 10 ^ (50 * 2))) = true := by
      rw [Bool.and_eq_true]
      refine ⟨decide_eq_true ?_, by decide⟩
      have : (1000000000 : Int) < 10 ^ (50 * 2) := by decide
      show (if v < 0 then -v else v) < _
      rw [if_neg (by omega)]
      omega
    rw [e]
    rw [hk] at h
    exact h
  · rw [hk] at h ⊢
    exact h
theorem q_addM (hp : 0 < p) (h : Q (.int ((v + w) % p)) s) : RP Q E (m_Modulo_add [fM p, .int v, .int w] s) := by
  wtm_at "body"
  unfold b_Modulo_add
  repeat wtm_at "w"
  exact o_mod hp h
theorem q_mulM (hp : 0 < p) (hv : v.natAbs < 18446744073709551616) (hw : w.natAbs < 18446744073709551616) (h : Q (.int ((v * w) % p)) s) : RP Q E (m_Modulo_multiply [fM p, .int v, .int w] s) := by
  wtm_at "body"
  unfold b_Modulo_multiply
  repeat wtm_at "w"
  refine o_mul64 hv hw ?_
  repeat wtm_at "w"
  exact o_mod hp h
theorem q_power {m t : Int} (hm : 2 ≤ m) (hm2 : m ≤ 1000000000) (hv : 0 ≤ v) (hv2 : v < 18446744073709551616) (ht : 0 ≤ t) (h : Q (.int (v ^ t.toNat % m)) s) : RP Q E (m_power [.int v, .int t, .int m] s) := by
  wtm_at "body"
  unfold b_power
  repeat wtm_at "w"
  refine w_while (fun n r s' => s' = s ∧ ∃ x u f, r = [some (.int x), some (.int u), some (.int m), some (.int f)] ∧ u.toNat = n ∧ 0 ≤ u ∧ 0 ≤ x ∧ x < 18446744073709551616 ∧ 0 ≤ f ∧ f < m ∧ (f * x ^ u.toNat) % m = v ^ t.toNat % m) ?_ t.toNat _ _ ⟨rfl, v, t, 1, rfl, rfl, ht, hv, hv2, by decide, by omega, by rw [Int.one_mul]⟩
  rintro n r s' ⟨rfl, x, u, f, rfl, hn, hu, hx, hx2, hf, hfm, he⟩
  repeat wtm_at "w"
  refine ⟨fun hk => ?_, fun hk => ?_⟩
  · have hk := of_decide_eq_true hk
    have b1 : ∀ a b : Int, 0 ≤ a * b % m ∧ a * b % m < m := fun a b => ⟨Int.emod_nonneg _ (by omega), Int.emod_lt_of_pos _ (by omega)⟩
    repeat wtm_at "w"
    refine o_mod (by decide) ?_
    repeat wtm_at "w"
    refine ⟨fun ho => ?_, fun ho => ?_⟩
    · have ho := of_decide_eq_true ho
      repeat wtm_at "w"
      refine o_mul64 (by omega) (by omega) ?_
      repeat wtm_at "w"
      refine o_mod (by omega) ?_
      repeat wtm_at "w"
      refine o_mul64 (by omega) (by omega) ?_
      repeat wtm_at "w"
      refine o_mod (by omega) ?_
      repeat wtm_at "w"
      refine o_div64 (by decide) (by decide) ?_
      have h1 := b1 f x
      have h2 := b1 x x
      refine ⟨(u / 2).toNat, by omega, rfl, _, _, _, rfl, rfl, by omega, h2.1, by omega, h1.1, h1.2, ?_⟩
      rw [show (u / 2).toNat = u.toNat / 2 by omega, pw_odd (by omega)]
      exact he
    · have ho := of_decide_eq_false ho
      repeat wtm_at "w"
      refine o_mul64 (by omega) (by omega) ?_
      repeat wtm_at "w"
      refine o_mod (by omega) ?_
      repeat wtm_at "w"
      refine o_div64 (by decide) (by decide) ?_
      have h2 := b1 x x
      refine ⟨(u / 2).toNat, by omega, rfl, _, _, _, rfl, rfl, by omega, h2.1, by omega, hf, hfm, ?_⟩
      rw [show (u / 2).toNat = u.toNat / 2 by omega, pw_even (by omega)]
      exact he
  · have hk := of_decide_eq_false hk
    repeat wtm_at "w"
    have e : u.toNat = 0 := by omega
    rw [e, Int.pow_zero, Int.mul_one, Int.emod_eq_of_lt hf hfm] at he
    rw [he]
    exact h
end
/-! Fractions -/
def qD (q : Rat) : D := if q.den = 1 then .int q.num else .tup [.int q.num, .int (q.den : Nat)]
theorem qD_int {q : Rat} (h : q.den = 1) : qD q = .int q.num := if_pos h
theorem qD_tup {q : Rat} (h : q.den ≠ 1) : qD q = .tup [.int q.num, .int (q.den : Nat)] := if_neg h
def Sz (n : Nat) (q : Rat) : Prop := q.num.natAbs < 2 ^ n ∧ q.den < 2 ^ n
theorem Sz.mono {n m : Nat} {q : Rat} (h : Sz n q) (hm : n ≤ m) : Sz m q := ⟨Nat.lt_of_lt_of_le h.1 (Nat.pow_le_pow_right (by decide) hm), Nat.lt_of_lt_of_le h.2 (Nat.pow_le_pow_right (by decide) hm)⟩
theorem divInt_sz {t b : Int} (h : b ≠ 0) : (Rat.divInt t b).num.natAbs ≤ t.natAbs ∧ (Rat.divInt t b).den ≤ b.natAbs := by
  obtain ⟨h1, h2⟩ := rat_nf (t := t) h
  constructor
  · rw [h1]
    exact Int.natAbs_ediv_le_natAbs _ _
  · have h3 := Int.natAbs_ediv_le_natAbs b (dv t b)
    rw [← h2] at h3
    exact h3
theorem pow_mul_lt {a b x y : Nat} (hx : x < 2 ^ a) (hy : y < 2 ^ b) : x * y < 2 ^ (a + b) := by
  rw [Nat.pow_add]
  exact Nat.mul_lt_mul'' hx hy
theorem den_ne (q : Rat) : ((q.den : Nat) : Int) ≠ 0 := by
  have := q.den_nz
  omega
theorem add_dv (p q : Rat) : p + q = Rat.divInt (p.num * q.den + q.num * p.den) (p.den * q.den) := by
  rw [← Rat.divInt_add_divInt _ _ (den_ne p) (den_ne q), Rat.num_divInt_den, Rat.num_divInt_den]
theorem mul_dv (p q : Rat) : p * q = Rat.divInt (p.num * q.num) (p.den * q.den) := by
  rw [← Rat.divInt_mul_divInt, Rat.num_divInt_den, Rat.num_divInt_den]
theorem div_dv (p q : Rat) : p / q = Rat.divInt (p.num * q.den) (p.den * q.num) := by
  rw [← Rat.divInt_mul_divInt, Rat.num_divInt_den, ← Rat.inv_divInt, Rat.num_divInt_den, Rat.div_def]
theorem Sz.add {n : Nat} {p q : Rat} (hp : Sz n p) (hq : Sz n q) : Sz (2 * n + 1) (p + q) := by
  have hd : ((p.den : Nat) : Int) * (q.den : Nat) ≠ 0 := Int.mul_ne_zero (den_ne p) (den_ne q)
  have h := divInt_sz (t := p.num * q.den + q.num * p.den) hd
  rw [← add_dv] at h
  have h1 : (p.num * q.den).natAbs < 2 ^ (n + n) := by
    rw [Int.natAbs_mul]
    exact pow_mul_lt hp.1 hq.2
  have h2 : (q.num * p.den).natAbs < 2 ^ (n + n) := by
    rw [Int.natAbs_mul]
    exact pow_mul_lt hq.1 hp.2
  have h3 : (((p.den : Nat) : Int) * (q.den : Nat)).natAbs < 2 ^ (n + n) := by
    rw [Int.natAbs_mul]
    exact pow_mul_lt hp.2 hq.2
  have e : 2 ^ (2 * n + 1) = 2 ^ (n + n) + 2 ^ (n + n) := by rw [Nat.pow_succ, show 2 * n = n + n by omega]; omega
  constructor
  · rw [e]
    omega
  · rw [e]
    omega
theorem Sz.mul {n : Nat} {p q : Rat} (hp : Sz n p) (hq : Sz n q) : Sz (2 * n) (p * q) := by
  have hd : ((p.den : Nat) : Int) * (q.den : Nat) ≠ 0 := Int.mul_ne_zero (den_ne p) (den_ne q)
  have h := divInt_sz (t := p.num * q.num) hd
  rw [← mul_dv] at h
  rw [Nat.two_mul]
  constructor
  · refine Nat.lt_of_le_of_lt h.1 ?_
    rw [Int.natAbs_mul]
    exact pow_mul_lt hp.1 hq.1
  · refine Nat.lt_of_le_of_lt h.2 ?_
    rw [Int.natAbs_mul]
    exact pow_mul_lt hp.2 hq.2
theorem num_ne {q : Rat} (h : q ≠ 0) : q.num ≠ 0 := fun z => h (Rat.num_eq_zero.mp z)
theorem Sz.div {n : Nat} {p q : Rat} (hp : Sz n p) (hq : Sz n q) (h0 : q ≠ 0) : Sz (2 * n) (p / q) := by
  have hd : ((p.den : Nat) : Int) * q.num ≠ 0 := Int.mul_ne_zero (den_ne p) (num_ne h0)
  have h := divInt_sz (t := p.num * q.den) hd
  rw [← div_dv] at h
  rw [Nat.two_mul]
  constructor
  · refine Nat.lt_of_le_of_lt h.1 ?_
    rw [Int.natAbs_mul]
    exact pow_mul_lt hp.1 hq.2
  · refine Nat.lt_of_le_of_lt h.2 ?_
    rw [Int.natAbs_mul]
    exact pow_mul_lt hp.2 hq.1
theorem neg_num (q : Rat) : (-q).num = -q.num := rfl
theorem neg_den (q : Rat) : (-q).den = q.den := rfl
theorem Sz.neg {n : Nat} {p : Rat} (hp : Sz n p) : Sz n (-p) := by
  unfold Sz at *
  rw [neg_num, neg_den, Int.natAbs_neg]
  exact hp
abbrev fF : D := .ins "Fractions" [("own_prime", .non)]
section
variable {p q : Rat} {n : Nat} {s : Sto} {Q : D → Sto → Prop} {E : XT}
theorem o_divE {i j : Int} (hd : j ∣ i) (hj : j ≠ 0) (hl : j.natAbs.log2 < 9000) (h : Q (.int (i / j)) s) : RP Q E (divD (.int i) (.int j) s) := by
  by_cases h0 : 0 < j
  · exact o_div h0 hl h
  · exact o_divN (by omega) hl (by rw [Int.fdiv_eq_ediv_of_dvd hd]; exact h)
theorem isi_qD : isiD it0 [qD q, .ty "tuple"] s = .ok (.bl (!decide (q.den = 1))) s := by
  by_cases h : q.den = 1
  · rw [qD_int h, decide_eq_true h]
    rfl
  · rw [qD_tup h, decide_eq_false h]
    rfl
theorem parts_qD (q : Rat) (s : Sto) : m_parts_of [qD q] s = .ok (.tup [.int q.num, .int (q.den : Nat)]) s := by
  by_cases h : q.den = 1
  · rw [qD_int h, h]
    rfl
  · rw [qD_tup h]
    rfl
theorem gcd_end {x a b : Int} (h : Int.gcd x 0 = Int.gcd a b) : (if x < 0 then -x else x) = ((Int.gcd a b : Nat) : Int) := by
  rw [← h, Int.gcd_zero_right]
  split <;> omega
theorem frac_end {t b : Int} (hb : b ≠ 0) : qD (Rat.divInt t b) = if b = dv t b then .int (t / dv t b) else .tup [.int (t / dv t b), .int (b / dv t b)] := by
  obtain ⟨h1, h2⟩ := rat_nf (t := t) hb
  have hd := dv_ne (t := t) hb
  have key : (Rat.divInt t b).den = 1 ↔ b = dv t b := by
    rw [rat_one, h2]
    constructor
    · intro z
      have := Int.ediv_mul_cancel (dv_b (t := t) (b := b))
      rw [z, Int.one_mul] at this
      exact this.symm
    · intro z
      conv => lhs; lhs; rw [z]
      exact Int.ediv_self hd
  unfold qD
  by_cases h : b = dv t b
  · rw [if_pos (key.mpr h), if_pos h, h1]
  · rw [if_neg (fun z => h (key.mp z)), if_neg h, h1, h2]
theorem dv_log {t b : Int} (hb : b ≠ 0) (hl : b.natAbs < 2 ^ 8000) : (dv t b).natAbs.log2 < 9000 := by
  rw [dv_abs]
  have h1 : Int.gcd t b ≤ b.natAbs := Nat.le_of_dvd (by omega) (Int.ofNat_dvd_right.mp (Int.gcd_dvd_right ..))
  exact Nat.lt_of_lt_of_le (log_of (b := 8000) (by omega) (by decide)) (by decide)
theorem mulC_sz {a b : Nat} {x y : Int} (hx : x.natAbs < 2 ^ a) (hy : y.natAbs < 2 ^ b) (ha : a ≤ 400000) (hb : b ≤ 400000) : mulC x y = true := mulC_of (a := a + 1) (b := b + 1) (Nat.lt_of_lt_of_le hx (Nat.pow_le_pow_right (by decide) (by omega))) (Nat.lt_of_lt_of_le hy (Nat.pow_le_pow_right (by decide) (by omega))) (by omega) (by omega) (by omega)
theorem den_lt (h : Sz n q) : ((q.den : Nat) : Int).natAbs < 2 ^ n := h.2
theorem prod_lt {x y : Int} (hx : x.natAbs < 2 ^ n) (hy : y.natAbs < 2 ^ n) (hn : n ≤ 4000) : (x * y).natAbs < 2 ^ 8000 := by
  rw [Int.natAbs_mul]
  exact Nat.lt_of_lt_of_le (pow_mul_lt hx hy) (Nat.pow_le_pow_right (by decide) (by omega))
theorem rat_num {q : Rat} (h : q.den = 1) : q = Rat.divInt q.num 1 := by
  conv => lhs; rw [← Rat.num_divInt_den q, h]
  rfl
theorem qD_whole (i : Int) : qD (Rat.divInt i 1) = .int i := by
  have e : dv i 1 = 1 := by
    unfold dv
    rw [if_pos (by decide), Int.gcd_one_right]
    rfl
  rw [frac_end (by decide), e, if_pos rfl, Int.ediv_one]
/-- at most a hundred digits above and below -/
def Short (q : Rat) : Prop := q.num.natAbs < 10 ^ 100 ∧ q.den < 10 ^ 100
theorem Short.sz (h : Short q) : Sz 400 q := by
  have e : 10 ^ 100 < 2 ^ 400 := by decide +kernel
  exact ⟨Nat.lt_trans h.1 e, Nat.lt_trans h.2 e⟩
theorem Sz.short (h : Sz n q) (hn : n ≤ 330) : Short q := by
  have e : 2 ^ 330 < 10 ^ 100 := by decide +kernel
  have h := h.mono hn
  exact ⟨Nat.lt_trans h.1 e, Nat.lt_trans h.2 e⟩
theorem abs_lt {i : Int} {n : Nat} (h : i.natAbs < 10 ^ n) : absI i < 10 ^ n := by
  have e : absI i = (i.natAbs : Int) := by
    show (if i < 0 then -i else i) = _
    split <;> omega
  rw [e]
  exact_mod_cast h
/-- == of two numbers -/
theorem toPy_qD (q : Rat) : toPy (qD q) = some (if q.den = 1 then .int q.num else .tuple [.int q.num, .int (q.den : Nat)]) := by
  by_cases h : q.den = 1
  · rw [qD_int h, if_pos h]
    rfl
  · rw [qD_tup h, if_neg h]
    rfl
theorem eq_qD : eqD (qD p) (qD q) s = .ok (.bl (decide (p = q))) s := by
  have hx : p = q ↔ p.num = q.num ∧ p.den = q.den := ⟨fun e => by rw [e]; exact ⟨rfl, rfl⟩, fun e => Rat.ext e.1 e.2⟩
  by_cases h1 : p.den = 1
  · by_cases h2 : q.den = 1
    · rw [qD_int h1, qD_int h2]
      show Res.ok (D.bl (decide (p.num = q.num))) s = _
      rw [decide_eq_decide.mpr (show p.num = q.num ↔ p = q by rw [hx, h1, h2]; simp)]
    · rw [qD_int h1, qD_tup h2, decide_eq_false (show ¬ p = q from fun e => h2 (by rw [← e]; exact h1))]
      rfl
  · by_cases h2 : q.den = 1
    · rw [qD_tup h1, qD_int h2, decide_eq_false (show ¬ p = q from fun e => h1 (by rw [e]; exact h2))]
      rfl
    · rw [qD_tup h1, qD_tup h2]
      show Res.ok (D.bl ((p.num == q.num) && (((p.den : Nat) : Int) == ((q.den : Nat) : Int) && true))) s = _
      congr 2
      rw [Bool.and_true, Bool.eq_iff_iff]
      simp only [Bool.and_eq_true, beq_iff_eq, decide_eq_true_eq]
      rw [hx]
      omega
theorem ne_qD : neD (qD p) (qD q) s = .ok (.bl (!decide (p = q))) s := by
  have hx : p = q ↔ p.num = q.num ∧ p.den = q.den := ⟨fun e => by rw [e]; exact ⟨rfl, rfl⟩, fun e => Rat.ext e.1 e.2⟩
  by_cases h1 : p.den = 1
  · by_cases h2 : q.den = 1
    · rw [qD_int h1, qD_int h2]
      show Res.ok (D.bl (!decide (p.num = q.num))) s = _
      rw [decide_eq_decide.mpr (show p.num = q.num ↔ p = q by rw [hx, h1, h2]; simp)]
    · rw [qD_int h1, qD_tup h2, decide_eq_false (show ¬ p = q from fun e => h2 (by rw [← e]; exact h1))]
      rfl
  · by_cases h2 : q.den = 1
    · rw [qD_tup h1, qD_int h2, decide_eq_false (show ¬ p = q from fun e => h1 (by rw [e]; exact h2))]
      rfl
    · rw [qD_tup h1, qD_tup h2]
      show Res.ok (D.bl (!((p.num == q.num) && (((p.den : Nat) : Int) == ((q.den : Nat) : Int) && true)))) s = _
      congr 3
      rw [Bool.and_true, Bool.eq_iff_iff]
      simp only [Bool.and_eq_true, beq_iff_eq, decide_eq_true_eq]
      rw [hx]
      omega
theorem qD_zero : qD 0 = .int 0 := rfl
theorem qD_one : qD 1 = .int 1 := rfl
def ratSum : List Rat → Rat
  | [] => 0
  | q :: l => q + ratSum l
theorem ratSum_app (q : Rat) : ∀ l : List Rat, ratSum (l ++ [q]) = ratSum l + q
  | [] => by
    show q + 0 = 0 + q
    grind
  | x :: l => by
    show x + ratSum (l ++ [q]) = x + ratSum l + q
    rw [ratSum_app q l]
    grind
end
end G

set_option Elab.async false
set_option linter.all false
set_option maxRecDepth 100000
set_option maxHeartbeats 4000000
namespace G
open Mp Pl
open PySem (Str sizeLine)
local macro_rules | `(tactic| wtm_at "e") => `(tactic| first
  | with_reducible refine w_set ?_
  | with_reducible refine w_bin ?_
  | ((with_reducible refine w_v (d := ?dv) ?hv ?_); (case hv => exact rfl))
  | with_reducible refine w_c ?_
  | with_reducible refine w_cons ?_
  | with_reducible refine w_nil ?_
  | with_reducible refine w_arg ?_
  | with_reducible refine w_call ?_
  | with_reducible refine w_if ?_
  | with_reducible refine w_ret ?_
  | with_reducible refine w_skip ?_
  | with_reducible refine w_bl ?_
  | with_reducible refine w_tru ?_
  | with_reducible refine w_attr ?_
  | with_reducible refine w_meth ?_
  | with_reducible refine w_chain ?_
  | with_reducible refine w_and ?_
  | with_reducible refine w_or ?_
  | with_reducible refine w_not ?_
  | with_reducible refine w_notT ?_
  | with_reducible refine w_andT ?_
  | with_reducible refine w_orT ?_
  | with_reducible refine w_ifM ?_
  | with_reducible refine w_expr ?_
  | with_reducible refine w_un ?_
  | with_reducible refine w_par2 ?_
  | with_reducible refine w_par3 ?_
  | with_reducible refine w_asg ?_
  | with_reducible refine w_aug ?_
  | with_reducible refine w_sub ?_
  | with_reducible refine w_fld ?_
  | with_reducible refine w_raise ?_
  | with_reducible refine w_raise0 ?_
  | with_reducible refine w_try ?_
  | with_reducible refine w_make ?_
  | with_reducible refine w_tryAs ?_
  | with_reducible refine w_exn ?_
  | ((with_reducible refine o_isx (b := ?bv) ?h1 ?_); (case h1 => exact rfl))
  | with_reducible refine w_superS ?_
  | with_reducible refine w_super ?_
  | with_reducible refine w_star ?_
  | with_reducible refine w_for0 ?_
  | with_reducible refine w_lc0 ?_
  | with_reducible refine w_seqI ?_
  | with_reducible refine w_argI ?_
  | with_reducible refine w_opt ?_
  | with_reducible refine w_sli ?_
  | with_reducible refine w_pure ?_
  | with_reducible refine w_disp ?_
  | with_reducible refine w_pairs1 ?_
  | with_reducible refine w_pairs0 ?_
  | with_reducible refine w_retN ?_
  | with_reducible refine w_cnt ?_
  | with_reducible refine w_brk ?_
  | with_reducible refine o_addI ?_
  | with_reducible refine o_addI' ?_
  | with_reducible refine o_sub ?_
  | with_reducible refine o_lt ?_
  | with_reducible refine o_le ?_
  | with_reducible refine o_gt ?_
  | with_reducible refine o_ge ?_
  | with_reducible refine o_eqI ?_
  | with_reducible refine o_neI ?_
  | with_reducible refine o_eqS ?_
  | with_reducible refine o_neS ?_
  | with_reducible refine o_int ?_
  | with_reducible refine o_intB ?_
  | with_reducible refine o_neg ?_
  | with_reducible refine o_abs ?_
  | with_reducible refine o_newL ?_
  | with_reducible refine o_max2 ?_
  | with_reducible refine o_min2 ?_
  | with_reducible refine o_lenL ?_
  | with_reducible refine o_lenT ?_
  | ((with_reducible refine o_tup ?hv ?_); (case hv => first | exact Nat.le_of_ble_eq_true rfl | assumption))
  | ((with_reducible refine o_lst ?hv ?_); (case hv => first | exact Nat.le_of_ble_eq_true rfl | assumption))
  | ((with_reducible refine o_isi (t := ?tv) (b := ?bv) ?h1 ?h2 ?_); (case h1 => exact rfl); (case h2 => exact rfl))
  | ((with_reducible refine o_fld (C := ?cv) (fs := ?fv) (d := ?dv) ?h1 ?h2 ?h3 ?_); (case h1 => exact rfl); (case h2 => exact rfl); (case h3 => exact rfl))
  | ((with_reducible refine Exists.intro ?kv (And.intro ?ha ?_)); (case ha => exact rfl)))
local macro_rules | `(tactic| wtm_at "body") => `(tactic| (refine w_body rfl rfl ?_; dsimp only [List.length_cons, List.length_nil, List.drop, List.append_nil, List.map_cons, List.map_nil, List.map, List.cons_append, List.nil_append, Nat.reduceAdd, Nat.reduceSub, List.replicate]))
local macro_rules | `(tactic| wtm_at "meth") => `(tactic| refine ⟨_, _, _, rfl, rfl, rfl, ?_⟩)
local macro_rules | `(tactic| wtm_at "w") => `(tactic| first | with_reducible refine w_seq ?_ | wtm_at "e")
local macro_rules | `(tactic| wtm_at "s") => `(tactic| ((repeat wtm_at "e"); (with_reducible refine w_seq ?_)))
local macro_rules | `(tactic| wtm_at "f") => `(tactic| ((repeat wtm_at "e"); (with_reducible show FP _ _)))
/-! primes -/
def hit (v : Int) : Int → Nat → Bool
  | _, 0 => false
  | f, n + 1 => decide (f * f % v = v - 1) || hit v (f * f % v) n
def witF (v : Int) (o h : Nat) (a : Int) : Bool := if a ^ o % v = 1 ∨ a ^ o % v = v - 1 then false else !hit v (a ^ o % v) (h - 1)
def smalls : List Int := [2, 3, 5, 7, 11, 13, 17, 19, 23, 29, 31, 37]
def primeF (v : Int) (o h : Nat) : Bool := match smalls.find? fun p => decide (v % p = 0) with
  | some p => decide (v = p)
  | none => !([2, 3, 5, 7].map (witF v o h)).any id
section
variable {v a : Int} {o h : Nat} {s : Sto} {Q : D → Sto → Prop} {E : XT}
theorem q_is_witness (ha : 0 ≤ a) (ha2 : a < 18446744073709551616) (hv : 3 ≤ v) (hv2 : v ≤ 1000000000) (ho : v - 1 = o * 2 ^ h) (hod : o % 2 = 1) (hh : h ≤ 60) (hq : Q (.bl (witF v o h a)) s) : RP Q E (m_is_witness [.int a, .int v] s) := by
  wtm_at "body"
  unfold b_is_witness
  repeat wtm_at "w"
  refine ⟨_, _, rfl, ?_⟩
  repeat wtm_at "w"
  refine w_while (fun n r s' => s' = s ∧ ∃ k, k ≤ h ∧ r = [some (.int a), some (.int v), none, none, some (.int ((o * 2 ^ (h - k) : Nat) : Int)), some (.int (k : Nat))] ∧ h - k = n) ?_ h _ _ ⟨rfl, 0, Nat.zero_le _, by rw [ho]; simp, rfl⟩
  rintro n r s' ⟨rfl, k, hk, rfl, hn⟩
  repeat wtm_at "w"
  refine o_mod (by decide) ?_
  repeat wtm_at "w"
  refine ⟨fun hz => ?_, fun hz => ?_⟩
  · have hz := of_decide_eq_true hz
    have hlt : k < h := by
      refine Nat.lt_of_le_of_ne hk fun e => ?_
      subst e
      rw [Nat.sub_self, Nat.pow_zero, Nat.mul_one] at hz
      omega
    repeat wtm_at "w"
    refine o_div64 (by decide) (by decide) ?_
    repeat wtm_at "w"
    refine ⟨_, _, rfl, ?_⟩
    refine ⟨h - (k + 1), by omega, rfl, k + 1, hlt, ?_, rfl⟩
    have e : ((o * 2 ^ (h - k) : Nat) : Int) / 2 = ((o * 2 ^ (h - (k + 1)) : Nat) : Int) := by
      rw [show h - k = h - (k + 1) + 1 by omega, Nat.pow_succ, ← Nat.mul_assoc]
      omega
    show [some (D.int a), some (.int v), none, none, some (.int (((o * 2 ^ (h - k) : Nat) : Int) / 2)), some (.int ((k : Int) + 1))] = _
    rw [e]
    rfl
  · have hz := of_decide_eq_false hz
    have hkh : h - k = 0 := by
      refine Nat.eq_zero_of_not_pos fun hp => hz ?_
      rw [show h - k = h - k - 1 + 1 by omega, Nat.pow_succ, ← Nat.mul_assoc]
      omega
    obtain rfl : k = h := by omega
    repeat wtm_at "w"
    rw [Nat.sub_self, Nat.pow_zero, Nat.mul_one]
    refine q_power (by omega) hv2 ha ha2 (by omega) ?_
    repeat wtm_at "w"
    have e : ((o : Nat) : Int).toNat = o := by omega
    rw [e]
    unfold witF at hq
    refine ⟨fun h1 => ?_, fun h1 => ?_⟩
    · have h1 := of_decide_eq_false h1
      repeat wtm_at "w"
      refine ⟨fun h2 => ?_, fun h2 => ?_⟩
      · rw [if_pos (.inr (of_decide_eq_true h2))] at hq
        repeat wtm_at "w"
        exact hq
      · have h2 := of_decide_eq_false h2
        rw [if_neg (by rintro (z | z); exact h1 z; exact h2 z)] at hq
        repeat wtm_at "w"
        refine w_range1 (by omega) (by omega) ?_
        have hb : ∀ f : Int, 0 ≤ f * f % v ∧ f * f % v < v := fun f => ⟨Int.emod_nonneg _ (by omega), Int.emod_lt_of_pos _ (by omega)⟩
        rw [show ((k : Nat) : Int) - 1 = ((k : Nat) : Int) - 1 from rfl, show (((k : Nat) : Int) - 1).toNat = k - 1 by omega]
        refine w_for (c := ⟨intL 0 (k - 1), none⟩) (fun i r s2 => s2 = s' ∧ i ≤ k - 1 ∧ ∃ f x, r = [some (.int a), some (.int v), some (.int f), x, some (.int (o : Nat)), some (.int (k : Nat))] ∧ 0 ≤ f ∧ f < v ∧ hit v (a ^ o % v) (k - 1) = hit v f (k - 1 - i)) rfl ⟨rfl, Nat.zero_le _, _, _, rfl, Int.emod_nonneg _ (by omega), Int.emod_lt_of_pos _ (by omega), rfl⟩ ?_ ?_
        · rintro i d r s' hd ⟨rfl, hi, f, x, rfl, hf0, hf1, hf⟩
          obtain ⟨hi, rfl⟩ := intL_get hd
          refine ⟨_, rfl, ?_⟩
          repeat wtm_at "w"
          refine o_mul64 (by omega) (by omega) ?_
          repeat wtm_at "w"
          refine o_mod (by omega) ?_
          repeat wtm_at "w"
          have hu : hit v f (k - 1 - i) = (decide (f * f % v = v - 1) || hit v (f * f % v) (k - 1 - (i + 1))) := by
            rw [show k - 1 - i = k - 1 - (i + 1) + 1 by omega]
            rfl
          refine ⟨fun h3 => ?_, fun h3 => ?_⟩
          · repeat wtm_at "w"
            rw [hf, hu, h3, Bool.true_or] at hq
            exact hq
          · repeat wtm_at "w"
            have hff := hb f
            refine ⟨rfl, hi, f * f % v, some (.int (0 + i)), rfl, hff.1, hff.2, ?_⟩
            rw [hf, hu, h3, Bool.false_or]
        · rintro r s' ⟨rfl, hi, f, x, rfl, hf0, hf1, hf⟩
          repeat wtm_at "w"
          rw [intL_len, Nat.sub_self] at hf
          rw [hf] at hq
          exact hq
    · rw [if_pos (.inl (of_decide_eq_true h1))] at hq
      refine ⟨fun _ => ?_, fun hk => by cases hk⟩
      repeat wtm_at "w"
      exact hq
theorem q_is_prime (hv : 2 ≤ v) (hv2 : v ≤ 1000000000) (ho : v - 1 = o * 2 ^ h) (hod : o % 2 = 1) (hh : h ≤ 60) (hq : Q (.bl (primeF v o h)) s) : RP Q E (m_is_prime [.int v] s) := by
  wtm_at "body"
  unfold b_is_prime
  repeat wtm_at "w"
  refine q_is_between_int ?_
  rw [decide_eq_true hv, decide_eq_true hv2]
  repeat wtm_at "w"
  refine ⟨fun hk => (by simp at hk), fun _ => ?_⟩
  repeat wtm_at "w"
  refine w_for (c := ⟨smalls.map .int, none⟩) (fun i r s' => s' = s ∧ (∃ x, r = [some (.int v), x, none]) ∧ (smalls.find? fun p => decide (v % p = 0)) = ((smalls.drop i).find? fun p => decide (v % p = 0)) ) rfl ⟨rfl, ⟨_, rfl⟩, rfl⟩ ?_ ?_
  · rintro i d r s' hd ⟨rfl, ⟨x, rfl⟩, hf⟩
    rw [List.getElem?_map] at hd
    cases hg : smalls[i]? with
    | none => rw [hg] at hd; cases hd
    | some p =>
      rw [hg] at hd
      cases hd
      have hp : 0 < p := by
        have : ∀ q ∈ smalls, (0 : Int) < q := by decide
        exact this p (List.mem_of_getElem? hg)
      have hdr : smalls.drop i = p :: smalls.drop (i + 1) := by
        rw [List.drop_eq_getElem_cons (List.getElem?_eq_some_iff.mp hg).1, (List.getElem?_eq_some_iff.mp hg).2]
      rw [hdr] at hf
      refine ⟨_, rfl, ?_⟩
      repeat wtm_at "w"
      refine o_mod hp ?_
      repeat wtm_at "w"
      refine ⟨fun hz => ?_, fun hz => ?_⟩
      · repeat wtm_at "w"
        unfold primeF at hq
        rw [hf, List.find?_cons_of_pos (p := fun p => decide (v % p = 0)) hz] at hq
        exact hq
      · repeat wtm_at "w"
        refine ⟨rfl, ⟨_, rfl⟩, ?_⟩
        rw [hf, List.find?_cons_of_neg (p := fun p => decide (v % p = 0)) (by rw [hz]; decide)]
  · rintro r s' ⟨rfl, ⟨x, rfl⟩, hf⟩
    have hf : (smalls.find? fun p => decide (v % p = 0)) = none := hf
    have h3 : 3 ≤ v := by
      have := List.find?_eq_none.mp hf 2 (by decide)
      simp only [decide_eq_true_eq] at this
      omega
    repeat wtm_at "w"
    refine w_lcP (c := ⟨[.int 2, .int 3, .int 5, .int 7], none⟩) (fun d => match d with
      | .int i => .bl (witF v o h i)
      | d => d) rfl (by show 4 ≤ sizeLine; decide) (fun d hd => ?_) ?_
    · have key : ∀ b : Int, 0 ≤ b → b < 100 → ∃ p, nameG 2 (.int b) (wipeE [some (.int v), x, none] [2]) s' = some (p, s') ∧ callM m_is_witness (consA (vM 2) (consA (vM 0) nilA)) p s' = .ok (.bl (witF v o h b)) s' := fun b hb hb2 => by
        refine ⟨[some (.int v), x, some (.int b)], rfl, ?_⟩
        have := (q_is_witness (s := s') (Q := fun d s2 => d = .bl (witF v o h b) ∧ s2 = s') hb (by omega) h3 hv2 ho hod hh ⟨rfl, rfl⟩).ex
        obtain ⟨d, s2, e, rfl, rfl⟩ := this
        exact e
      have hd : d = .int 2 ∨ d = .int 3 ∨ d = .int 5 ∨ d = .int 7 := by simpa using hd
      rcases hd with rfl | rfl | rfl | rfl
      · exact key 2 (by decide) (by decide)
      · exact key 3 (by decide) (by decide)
      · exact key 5 (by decide) (by decide)
      · exact key 7 (by decide) (by decide)
    · repeat wtm_at "w"
      refine o_any (l := [_, _, _, _]) rfl ?_
      repeat wtm_at "w"
      unfold primeF at hq
      rw [hf] at hq
      exact hq
def PrimeOk (v : Int) : Prop := 2 ≤ v ∧ v ≤ 1000000000 ∧ ∃ o h, v - 1 = (o : Nat) * 2 ^ (h : Nat) ∧ o % 2 = 1 ∧ h ≤ 60 ∧ primeF v o h = true
theorem pk2 : PrimeOk 2 := ⟨by decide, by decide, 1, 0, by decide, by decide, by decide, by decide +kernel⟩
theorem pk3 : PrimeOk 3 := ⟨by decide, by decide, 1, 1, by decide, by decide, by decide, by decide +kernel⟩
theorem pk5 : PrimeOk 5 := ⟨by decide, by decide, 1, 2, by decide, by decide, by decide, by decide +kernel⟩
theorem pk7 : PrimeOk 7 := ⟨by decide, by decide, 3, 1, by decide, by decide, by decide, by decide +kernel⟩
theorem pk101 : PrimeOk 101 := ⟨by decide, by decide, 25, 2, by decide, by decide, by decide, by decide +kernel⟩
theorem pkBig : PrimeOk 1000003 := ⟨by decide, by decide, 500001, 1, by decide, by decide, by decide, by decide +kernel⟩
end
theorem q_newM {p : Int} {s : Sto} {Q : D → Sto → Prop} {E : XT} (hp : PrimeOk p) (h : Q (fM p) (s ++ [none])) : RP (fun v s2 => v = .non ∧ RP Q E (freezeI false s.length s2)) E (m_Modulo___init__ [.cel s.length, .int p] (s ++ [some (.ins "Modulo" [])])) := by
  obtain ⟨h1, h2, o, hh, h3, h4, h5, h6⟩ := hp
  have hs : (s ++ [some (Ct.ins "Modulo" [])])[s.length]? = some (some (.ins "Modulo" [])) := by simp
  have hi : insOf (s ++ [some (Ct.ins "Modulo" [])]) (.cel s.length) = some (("Modulo" : Str), []) := by
    unfold insOf
    dsimp only
    rw [hs]
  wtm_at "body"
  unfold b_Modulo___init__
  repeat wtm_at "w"
  refine q_is_prime h1 h2 h3 h4 h5 ?_
  rw [h6]
  repeat wtm_at "w"
  refine ⟨fun hk => (by cases hk), fun _ => ?_⟩
  repeat wtm_at "w"
  refine ⟨_, _, _, hi, rfl, ?_⟩
  repeat wtm_at "w"
  refine w_body rfl rfl ?_
  unfold b_Field___init__
  repeat wtm_at "w"
  refine ⟨_, _, _, rfl, hs, by decide, by decide, ?_⟩
  repeat wtm_at "w"
  refine ⟨rfl, w_freeze (C := "Modulo") (fs := [("own_prime", .int p)]) ?_ ?_⟩
  · rw [List.getElem?_set_self (by simp)]
    rfl
  · rw [List.set_set]
    have e : (s ++ [some (Ct.ins "Modulo" [])]).set s.length none = s ++ [none] := by simp
    rw [e]
    exact h
end G

set_option Elab.async false
set_option linter.all false
set_option maxRecDepth 100000
set_option maxHeartbeats 4000000
namespace G
open Mp Pl
open PySem (Str sizeLine)
local macro_rules | `(tactic| wtm_at "e") => `(tactic| first
  | with_reducible refine w_set ?_
  | with_reducible refine w_bin ?_
  | ((with_reducible refine w_v (d := ?dv) ?hv ?_); (case hv => exact rfl))
  | with_reducible refine w_c ?_
  | with_reducible refine w_cons ?_
  | with_reducible refine w_nil ?_
  | with_reducible refine w_arg ?_
  | with_reducible refine w_call ?_
  | with_reducible refine w_if ?_
  | with_reducible refine w_ret ?_
  | with_reducible refine w_skip ?_
  | with_reducible refine w_bl ?_
  | with_reducible refine w_tru ?_
  | with_reducible refine w_attr ?_
  | with_reducible refine w_meth ?_
  | with_reducible refine w_chain ?_
  | with_reducible refine w_and ?_
  | with_reducible refine w_or ?_
  | with_reducible refine w_not ?_
  | with_reducible refine w_notT ?_
  | with_reducible refine w_andT ?_
  | with_reducible refine w_orT ?_
  | with_reducible refine w_ifM ?_
  | with_reducible refine w_expr ?_
  | with_reducible refine w_un ?_
  | with_reducible refine w_par2 ?_
  | with_reducible refine w_par3 ?_
  | with_reducible refine w_asg ?_
  | with_reducible refine w_aug ?_
  | with_reducible refine w_sub ?_
  | with_reducible refine w_fld ?_
  | with_reducible refine w_raise ?_
  | with_reducible refine w_raise0 ?_
  | with_reducible refine w_try ?_
  | with_reducible refine w_make ?_
  | with_reducible refine w_tryAs ?_
  | with_reducible refine w_exn ?_
  | ((with_reducible refine o_isx (b := ?bv) ?h1 ?_); (case h1 => exact rfl))
  | with_reducible refine w_superS ?_
  | with_reducible refine w_super ?_
  | with_reducible refine w_star ?_
  | with_reducible refine w_for0 ?_
  | with_reducible refine w_lc0 ?_
  | with_reducible refine w_seqI ?_
  | with_reducible refine w_argI ?_
  | with_reducible refine w_opt ?_
  | with_reducible refine w_sli ?_
  | with_reducible refine w_pure ?_
  | with_reducible refine w_disp ?_
  | with_reducible refine w_pairs1 ?_
  | with_reducible refine w_pairs0 ?_
  | with_reducible refine w_retN ?_
  | with_reducible refine w_cnt ?_
  | with_reducible refine w_brk ?_
  | with_reducible refine o_addI ?_
  | with_reducible refine o_addI' ?_
  | with_reducible refine o_sub ?_
  | with_reducible refine o_lt ?_
  | with_reducible refine o_le ?_
  | with_reducible refine o_gt ?_
  | with_reducible refine o_ge ?_
  | with_reducible refine o_eqI ?_
  | with_reducible refine o_neI ?_
  | with_reducible refine o_eqS ?_
  | with_reducible refine o_neS ?_
  | with_reducible refine o_int ?_
  | with_reducible refine o_intB ?_
  | with_reducible refine o_neg ?_
  | with_reducible refine o_abs ?_
  | with_reducible refine o_newL ?_
  | with_reducible refine o_max2 ?_
  | with_reducible refine o_min2 ?_
  | with_reducible refine o_lenL ?_
  | with_reducible refine o_lenT ?_
  | ((with_reducible refine o_tup ?hv ?_); (case hv => first | exact Nat.le_of_ble_eq_true rfl | assumption))
  | ((with_reducible refine o_lst ?hv ?_); (case hv => first | exact Nat.le_of_ble_eq_true rfl | assumption))
  | ((with_reducible refine o_isi (t := ?tv) (b := ?bv) ?h1 ?h2 ?_); (case h1 => exact rfl); (case h2 => exact rfl))
  | ((with_reducible refine o_fld (C := ?cv) (fs := ?fv) (d := ?dv) ?h1 ?h2 ?h3 ?_); (case h1 => exact rfl); (case h2 => exact rfl); (case h3 => exact rfl))
  | ((with_reducible refine Exists.intro ?kv (And.intro ?ha ?_)); (case ha => exact rfl)))
local macro_rules | `(tactic| wtm_at "body") => `(tactic| (refine w_body rfl rfl ?_; dsimp only [List.length_cons, List.length_nil, List.drop, List.append_nil, List.map_cons, List.map_nil, List.map, List.cons_append, List.nil_append, Nat.reduceAdd, Nat.reduceSub, List.replicate]))
local macro_rules | `(tactic| wtm_at "meth") => `(tactic| refine ⟨_, _, _, rfl, rfl, rfl, ?_⟩)
local macro_rules | `(tactic| wtm_at "w") => `(tactic| first | with_reducible refine w_seq ?_ | wtm_at "e")
local macro_rules | `(tactic| wtm_at "s") => `(tactic| ((repeat wtm_at "e"); (with_reducible refine w_seq ?_)))
local macro_rules | `(tactic| wtm_at "f") => `(tactic| ((repeat wtm_at "e"); (with_reducible show FP _ _)))
/-! the pen -/
theorem q_draw {n : Nat} {many b : Int} {s : Sto} {Q : D → Sto → Prop} {E : XT} (p : Pen s n b) (hb : b ≤ 1000000000) (h0 : 0 < many) (h1 : many < 18446744073709551616) (h : ∀ k s', 0 ≤ k → k < many → Pen s' n (b + 1) → Fr n s s' → s'.length = s.length → Q (.int k) s') : RP Q E (m__law_draw [.cel n, .int many] s) := by
  obtain ⟨cells, g, l, hs, hc, hg, hgb, hl⟩ := p
  have hm : ∀ x : Int, 0 ≤ x % many ∧ x % many < many := fun x => ⟨Int.emod_nonneg _ (by omega), Int.emod_lt_of_pos _ (by omega)⟩
  wtm_at "body"
  unfold b__law_draw
  repeat wtm_at "w"
  refine pen_left hs ?_
  repeat wtm_at "w"
  refine ⟨fun hk => ?_, fun hk => ?_⟩
  · have hk := of_decide_eq_true hk
    repeat wtm_at "w"
    refine pen_left hs ?_
    repeat wtm_at "w"
    refine o_mod h0 ?_
    repeat wtm_at "w"
    refine pen_left hs ?_
    repeat wtm_at "w"
    refine o_div64 h0 h1 ?_
    repeat wtm_at "w"
    refine ⟨_, pen_putL hs, ?_⟩
    repeat wtm_at "w"
    exact h _ _ (hm l).1 (hm l).2 ⟨cells, g, _, pen_at hs, hc, hg, by omega, Int.ediv_nonneg hl (by omega)⟩ Fr.set (List.length_set ..)
  · have hk := of_decide_eq_false hk
    wtm_at "s"
    repeat wtm_at "e"
    refine pen_begun hs ?_
    wtm_at "s"
    repeat wtm_at "e"
    refine ⟨_, pen_putB hs, ?_⟩
    have hs1 : (s.set n (some (penC cells (g + 1) l)))[n]? = some (some (penC cells (g + 1) l)) := pen_at hs
    have fr1 : Fr n s (s.set n (some (penC cells (g + 1) l))) := Fr.set
    have ln1 : (s.set n (some (penC cells (g + 1) l))).length = s.length := List.length_set ..
    generalize s.set n (some (penC cells (g + 1) l)) = s1 at hs1 fr1 ln1 ⊢
    wtm_at "s"
    repeat wtm_at "e"
    refine o_mul64 (by omega) (by omega) ?_
    repeat wtm_at "e"
    wtm_at "f"
    with_reducible refine w_mid (fun r' s' => s' = s1 ∧ ∃ cell : Int, r' = [some (.cel n), some (.int many), some (.int g), some (.int cell), none, none, none]) ?_ ?_
    · repeat wtm_at "e"
      refine pen_cells hs1 ?_
      repeat wtm_at "e"
      refine o_neNil ?_
      repeat wtm_at "e"
      refine ⟨fun hk => ?_, fun hk => ?_⟩
      · have hc0 : 0 < cells.length := by
          cases cells with
          | nil => cases hk
          | cons a c => simp
        repeat wtm_at "e"
        refine pen_cells hs1 ?_
        repeat wtm_at "e"
        refine pen_cells hs1 ?_
        repeat wtm_at "e"
        rw [List.length_map]
        refine o_mod (by omega) ?_
        have hk0 : 0 ≤ g % (cells.length : Int) := Int.emod_nonneg _ (by omega)
        have hk1 : g % (cells.length : Int) < cells.length := Int.emod_lt_of_pos _ (by omega)
        have hlt : (g % (cells.length : Int)).toNat < cells.length := by omega
        refine o_idxL (k := (g % (cells.length : Int)).toNat) (d := .int (cells[(g % (cells.length : Int)).toNat])) (by omega) (by rw [List.getElem?_map, List.getElem?_eq_getElem hlt]; rfl) ?_
        exact ⟨rfl, _, rfl⟩
      · repeat wtm_at "e"
        exact ⟨rfl, _, rfl⟩
    · rintro r' s' ⟨rfl, cell, rfl⟩
      have pen1 : Pen s' n (b + 1) := ⟨cells, g + 1, l, hs1, hc, by omega, by omega, hl⟩
      wtm_at "f"
      with_reducible refine w_mid (fun r2 s2 => s2 = s' ∧ r2 = [some (.cel n), some (.int many), some (.int g), some (.int cell), none, none, none]) ?_ ?_
      · repeat wtm_at "e"
        refine pen_cells hs1 ?_
        repeat wtm_at "e"
        refine ⟨fun hk => ?_, fun hk => ?_⟩
        · repeat wtm_at "e"
          refine o_pow (by decide) (by decide) (by decide) ?_
          repeat wtm_at "e"
          refine ⟨fun hk2 => ?_, fun hk2 => ?_⟩
          · have hk2 := of_decide_eq_true hk2
            repeat wtm_at "w"
            refine o_pow (by decide) (by decide) (by decide) ?_
            repeat wtm_at "w"
            refine o_div64 h0 h1 ?_
            repeat wtm_at "w"
            refine ⟨_, pen_putL hs1, ?_⟩
            repeat wtm_at "w"
            refine o_pow (by decide) (by decide) (by decide) ?_
            repeat wtm_at "w"
            refine o_mod h0 ?_
            refine h _ _ (hm _).1 (hm _).2 ⟨cells, g + 1, _, pen_at hs1, hc, by omega, by omega, Int.ediv_nonneg ?_ (by omega)⟩ (fr1.trans Fr.set) (by rw [List.length_set]; exact ln1)
            exact Int.sub_nonneg_of_le hk2
          · repeat wtm_at "e"
            exact ⟨rfl, rfl⟩
        · repeat wtm_at "e"
          refine ⟨fun z => (by cases z), fun _ => ?_⟩
          repeat wtm_at "e"
          exact ⟨rfl, rfl⟩
      · rintro r2 s2 ⟨rfl, rfl⟩
        have b1 : 0 ≤ cell % 4294967197 ∧ cell % 4294967197 < 4294967197 := ⟨Int.emod_nonneg _ (by decide), Int.emod_lt_of_pos _ (by decide)⟩
        repeat wtm_at "w"
        refine o_mod (by decide) ?_
        repeat wtm_at "w"
        refine o_mul64 (by omega) (by decide) ?_
        repeat wtm_at "w"
        refine o_mul64 (by decide) (by omega) ?_
        repeat wtm_at "w"
        refine o_mul64 (by omega) (by omega) ?_
        repeat wtm_at "w"
        refine o_mod (by decide) ?_
        generalize hx : (cell % 4294967197 * 48673 + g * (40009 * g + 1511) + 331) % 4294967189 = x
        have b2 : 0 ≤ x ∧ x < 4294967189 := by
          subst hx
          exact ⟨Int.emod_nonneg _ (by decide), Int.emod_lt_of_pos _ (by decide)⟩
        repeat wtm_at "w"
        refine o_mul64 (by omega) (by omega) ?_
        repeat wtm_at "w"
        refine o_mul64 (by decide) (by omega) ?_
        repeat wtm_at "w"
        refine o_mul64 (by decide) (by omega) ?_
        repeat wtm_at "w"
        refine o_mod (by decide) ?_
        generalize hy : (x * x + 75629 * x + 19 * g + 7) % 4294967161 = y
        have b3 : 0 ≤ y ∧ y < 4294967161 := by
          subst hy
          exact ⟨Int.emod_nonneg _ (by decide), Int.emod_lt_of_pos _ (by decide)⟩
        repeat wtm_at "w"
        refine o_mul64 (by omega) (by omega) ?_
        repeat wtm_at "w"
        refine o_mod (by decide) ?_
        repeat wtm_at "w"
        refine o_div64 (by decide) (by decide) ?_
        repeat wtm_at "w"
        refine o_mod h0 ?_
        exact h _ _ (hm _).1 (hm _).2 pen1 fr1 ln1
/-- a pick of a written list -/
theorem q_pick {n : Nat} {b : Int} {l : List D} {s : Sto} {Q : D → Sto → Prop} {E : XT} (p : Pen s n b) (hb : b ≤ 1000000000) (h0 : 0 < l.length) (h1 : l.length < 1000000) (h : ∀ d s', d ∈ l → Pen s' n (b + 1) → Fr n s s' → s'.length = s.length → Q d s') : RP Q E (m__law_pick [.cel n, .lst l] s) := by
  wtm_at "body"
  unfold b__law_pick
  repeat wtm_at "w"
  refine q_draw p hb (by omega) (by omega) fun k s' hk hk1 p' f' e' => ?_
  have hlt : k.toNat < l.length := by omega
  refine o_idxL (k := k.toNat) (d := l[k.toNat]) (by omega) (List.getElem?_eq_getElem hlt) ?_
  exact h _ _ (List.getElem_mem hlt) p' f' e'
theorem q_pen {ns : List Int} {s : Sto} {Q : D → Sto → Prop} {E : XT} (h : ∀ c s', Pen s' s.length 0 → s' = s ++ [some c] → Q (.cel s.length) s') : RP Q E (m__law_pen [.rol (ns.map .int)] s) := by
  wtm_at "body"
  unfold b__law_pen
  repeat wtm_at "w"
  refine w_ok ?_
  repeat wtm_at "w"
  refine o_list rfl ?_
  repeat wtm_at "w"
  refine ⟨by show 3 ≤ 15; decide, ?_⟩
  refine h _ _ ⟨ns.take 63, 0, 0, ?_, by rw [List.length_take]; omega, by decide, by decide, by decide⟩ rfl
  rw [List.getElem?_append_right (Nat.le_refl _), Nat.sub_self]
  show some (some (Ct.dct [(.inr "cells", .lst (cutD (ns.map .int) none (some 63))), (.inr "begun", .int 0), (.inr "left", .int 0)])) = _
  rw [cut_take (by decide), ← List.map_take]
  rfl
end G

set_option Elab.async false
set_option linter.all false
set_option maxRecDepth 100000
set_option maxHeartbeats 4000000
namespace G
open Mp Pl
open PySem (Str sizeLine)
local macro_rules | `(tactic| wtm_at "e") => `(tactic| first
  | with_reducible refine w_set ?_
  | with_reducible refine w_bin ?_
  | ((with_reducible refine w_v (d := ?dv) ?hv ?_); (case hv => exact rfl))
  | with_reducible refine w_c ?_
  | with_reducible refine w_cons ?_
  | with_reducible refine w_nil ?_
  | with_reducible refine w_arg ?_
  | with_reducible refine w_call ?_
  | with_reducible refine w_if ?_
  | with_reducible refine w_ret ?_
  | with_reducible refine w_skip ?_
  | with_reducible refine w_bl ?_
  | with_reducible refine w_tru ?_
  | with_reducible refine w_attr ?_
  | with_reducible refine w_meth ?_
  | with_reducible refine w_chain ?_
  | with_reducible refine w_and ?_
  | with_reducible refine w_or ?_
  | with_reducible refine w_not ?_
  | with_reducible refine w_notT ?_
  | with_reducible refine w_andT ?_
  | with_reducible refine w_orT ?_
  | with_reducible refine w_ifM ?_
  | with_reducible refine w_expr ?_
  | with_reducible refine w_un ?_
  | with_reducible refine w_par2 ?_
  | with_reducible refine w_par3 ?_
  | with_reducible refine w_asg ?_
  | with_reducible refine w_aug ?_
  | with_reducible refine w_sub ?_
  | with_reducible refine w_fld ?_
  | with_reducible refine w_raise ?_
  | with_reducible refine w_raise0 ?_
  | with_reducible refine w_try ?_
  | with_reducible refine w_make ?_
  | with_reducible refine w_tryAs ?_
  | with_reducible refine w_exn ?_
  | ((with_reducible refine o_isx (b := ?bv) ?h1 ?_); (case h1 => exact rfl))
  | with_reducible refine w_superS ?_
  | with_reducible refine w_super ?_
  | with_reducible refine w_star ?_
  | with_reducible refine w_for0 ?_
  | with_reducible refine w_lc0 ?_
  | with_reducible refine w_seqI ?_
  | with_reducible refine w_argI ?_
  | with_reducible refine w_opt ?_
  | with_reducible refine w_sli ?_
  | with_reducible refine w_pure ?_
  | with_reducible refine w_disp ?_
  | with_reducible refine w_pairs1 ?_
  | with_reducible refine w_pairs0 ?_
  | with_reducible refine w_retN ?_
  | with_reducible refine w_cnt ?_
  | with_reducible refine w_brk ?_
  | with_reducible refine o_addI ?_
  | with_reducible refine o_addI' ?_
  | with_reducible refine o_sub ?_
  | with_reducible refine o_lt ?_
  | with_reducible refine o_le ?_
  | with_reducible refine o_gt ?_
  | with_reducible refine o_ge ?_
  | with_reducible refine o_eqI ?_
  | with_reducible refine o_neI ?_
  | with_reducible refine o_eqS ?_
  | with_reducible refine o_neS ?_
  | with_reducible refine o_int ?_
  | with_reducible refine o_intB ?_
  | with_reducible refine o_neg ?_
  | with_reducible refine o_abs ?_
  | with_reducible refine o_newL ?_
  | with_reducible refine o_max2 ?_
  | with_reducible refine o_min2 ?_
  | with_reducible refine o_lenL ?_
  | with_reducible refine o_lenT ?_
  | ((with_reducible refine o_tup ?hv ?_); (case hv => first | exact Nat.le_of_ble_eq_true rfl | assumption))
  | ((with_reducible refine o_lst ?hv ?_); (case hv => first | exact Nat.le_of_ble_eq_true rfl | assumption))
  | ((with_reducible refine o_isi (t := ?tv) (b := ?bv) ?h1 ?h2 ?_); (case h1 => exact rfl); (case h2 => exact rfl))
  | ((with_reducible refine o_fld (C := ?cv) (fs := ?fv) (d := ?dv) ?h1 ?h2 ?h3 ?_); (case h1 => exact rfl); (case h2 => exact rfl); (case h3 => exact rfl))
  | ((with_reducible refine Exists.intro ?kv (And.intro ?ha ?_)); (case ha => exact rfl)))
local macro_rules | `(tactic| wtm_at "body") => `(tactic| (refine w_body rfl rfl ?_; dsimp only [List.length_cons, List.length_nil, List.drop, List.append_nil, List.map_cons, List.map_nil, List.map, List.cons_append, List.nil_append, Nat.reduceAdd, Nat.reduceSub, List.replicate]))
local macro_rules | `(tactic| wtm_at "meth") => `(tactic| refine ⟨_, _, _, rfl, rfl, rfl, ?_⟩)
local macro_rules | `(tactic| wtm_at "w") => `(tactic| first | with_reducible refine w_seq ?_ | wtm_at "e")
local macro_rules | `(tactic| wtm_at "s") => `(tactic| ((repeat wtm_at "e"); (with_reducible refine w_seq ?_)))
local macro_rules | `(tactic| wtm_at "f") => `(tactic| ((repeat wtm_at "e"); (with_reducible show FP _ _)))
/-! the law's numbers -/
structure PF (n : Nat) (s s' : Sto) (b : Int) : Prop where
  pen : Pen s' n b
  fr : Fr n s s'
  len : s'.length = s.length
theorem PF.of {n : Nat} {s : Sto} {b : Int} (h : Pen s n b) : PF n s s b := ⟨h, Fr.refl, rfl⟩
theorem PF.go {n : Nat} {s s' s'' : Sto} {b c d : Int} (h : PF n s s' b) (p : Pen s'' n c) (f : Fr n s' s'') (l : s''.length = s'.length) (hd : c ≤ d) : PF n s s'' d := ⟨p.mono hd, h.fr.trans f, l.trans h.len⟩
theorem PF.go' {n : Nat} {s s' s'' : Sto} {b c d : Int} (h : PF n s s' b) (p : PF n s' s'' c) (hd : c ≤ d) : PF n s s'' d := ⟨p.pen.mono hd, h.fr.trans p.fr, p.len.trans h.len⟩
theorem PF.mono {n : Nat} {s s' : Sto} {b c : Int} (h : PF n s s' b) (hb : b ≤ c) : PF n s s' c := ⟨h.pen.mono hb, h.fr, h.len⟩
section
variable {n : Nat} {b : Int} {s : Sto} {Q : D → Sto → Prop} {E : XT}
theorem tenb2 {n : Nat} (h : n ≤ 7000) : ((10 : Int) ^ n).natAbs < 2 ^ 28000 := by
  rw [Int.natAbs_pow]
  refine Nat.lt_of_le_of_lt (Nat.pow_le_pow_right (by decide) h) ?_
  decide +kernel
/-- a drawn fraction: t / b -/
theorem short_of {t b : Int} (hb : 0 < b) (ht : t.natAbs < 10 ^ 100) (hb2 : b < 10 ^ 100) : Short (Rat.divInt t b) := by
  have h := divInt_sz (t := t) (b := b) (by omega)
  exact ⟨by omega, by omega⟩
theorem sz_of {t b : Int} (hb : 0 < b) (ht : t.natAbs < 2 ^ 31) (hb2 : b < 2 ^ 31) : Sz 31 (Rat.divInt t b) := by
  have h := divInt_sz (t := t) (b := b) (by omega)
  exact ⟨by omega, by omega⟩
end
section
variable {n : Nat} {b : Int} {s : Sto} {Q : D → Sto → Prop} {E : XT}
/-- the primes that are drawn -/
theorem of_primes {d : D} (h : d ∈ [D.int 2, .int 2, .int 3, .int 3, .int 5, .int 7, .int 101, .int 1000003]) : ∃ p : Nat, d = .int p ∧ Pr p ∧ PrimeOk p := by
  simp only [List.mem_cons, List.not_mem_nil, or_false] at h
  rcases h with rfl | rfl | rfl | rfl | rfl | rfl | rfl | rfl
  · exact ⟨2, rfl, pr2, pk2⟩
  · exact ⟨2, rfl, pr2, pk2⟩
  · exact ⟨3, rfl, pr3, pk3⟩
  · exact ⟨3, rfl, pr3, pk3⟩
  · exact ⟨5, rfl, pr5, pk5⟩
  · exact ⟨7, rfl, pr7, pk7⟩
  · exact ⟨101, rfl, pr101, pk101⟩
  · exact ⟨1000003, rfl, prBig, pkBig⟩
theorem q_primeP (p : Pen s n b) (hb : b ≤ 1000000000) (h : ∀ (p : Nat) s', Pr p → PrimeOk p → PF n s s' (b + 1) → Q (.int p) s') : RP Q E (m__law_prime [.cel n] s) := by
  wtm_at "body"
  unfold b__law_prime
  repeat wtm_at "w"
  refine q_pick p hb (by decide) (by decide) fun d s' hd p' f' l' => ?_
  obtain ⟨q, rfl, h1, h2⟩ := of_primes hd
  exact h q s' h1 h2 ⟨p', f', l'⟩
theorem q_numberP {p : Int} (hp : Pen s n b) (hb : b + 1 ≤ 1000000000) (h2 : 2 ≤ p) (h3 : p ≤ 1000000000) (h : ∀ (k : Int) s', 0 ≤ k → k < p → PF n s s' (b + 2) → Q (.int k) s') : RP Q E (m__law_number [.cel n, .int p] s) := by
  wtm_at "body"
  unfold b__law_number
  repeat wtm_at "w"
  refine q_draw hp (by omega) (by omega) (by omega) fun k s' hk0 hk1 p' f1 l1 => ?_
  repeat wtm_at "w"
  refine q_pick p' (by omega) (by show 0 < 5; decide) (by show 5 < 1000000; decide) fun d s2 hd p2 f2 l2 => ?_
  have p2 : PF n s s2 (b + 2) := (PF.of hp).go' (⟨p', f1, l1⟩ : PF n s s' (b + 1)) (Int.le_refl _) |>.go p2 f2 l2 (by omega)
  simp only [List.mem_cons, List.not_mem_nil, or_false] at hd
  rcases hd with rfl | rfl | rfl | rfl | rfl
  · exact h _ _ (by omega) (by omega) p2
  · exact h _ _ (by omega) (by omega) p2
  · exact h _ _ (by omega) (by omega) p2
  · exact h _ _ (by omega) (by omega) p2
  · exact h _ _ hk0 hk1 p2
/-- what a prime, or 0, stands for -/
inductive Kd : Int → D → Prop
  | fr : Kd 0 fF
  | md {p : Nat} : Pr p → PrimeOk p → Kd p (fM p)
end
end G

set_option Elab.async false
set_option linter.all false
set_option maxRecDepth 100000
set_option maxHeartbeats 4000000
namespace G
open Mp Pl
open PySem (Str sizeLine)
local macro_rules | `(tactic| wtm_at "e") => `(tactic| first
  | with_reducible refine w_set ?_
  | with_reducible refine w_bin ?_
  | ((with_reducible refine w_v (d := ?dv) ?hv ?_); (case hv => exact rfl))
  | with_reducible refine w_c ?_
  | with_reducible refine w_cons ?_
  | with_reducible refine w_nil ?_
  | with_reducible refine w_arg ?_
  | with_reducible refine w_call ?_
  | with_reducible refine w_if ?_
  | with_reducible refine w_ret ?_
  | with_reducible refine w_skip ?_
  | with_reducible refine w_bl ?_
  | with_reducible refine w_tru ?_
  | with_reducible refine w_attr ?_
  | with_reducible refine w_meth ?_
  | with_reducible refine w_chain ?_
  | with_reducible refine w_and ?_
  | with_reducible refine w_or ?_
  | with_reducible refine w_not ?_
  | with_reducible refine w_notT ?_
  | with_reducible refine w_andT ?_
  | with_reducible refine w_orT ?_
  | with_reducible refine w_ifM ?_
  | with_reducible refine w_expr ?_
  | with_reducible refine w_un ?_
  | with_reducible refine w_par2 ?_
  | with_reducible refine w_par3 ?_
  | with_reducible refine w_asg ?_
  | with_reducible refine w_aug ?_
  | with_reducible refine w_sub ?_
  | with_reducible refine w_fld ?_
  | with_reducible refine w_raise ?_
  | with_reducible refine w_raise0 ?_
  | with_reducible refine w_try ?_
  | with_reducible refine w_make ?_
  | with_reducible refine w_tryAs ?_
  | with_reducible refine w_exn ?_
  | ((with_reducible refine o_isx (b := ?bv) ?h1 ?_); (case h1 => exact rfl))
  | with_reducible refine w_superS ?_
  | with_reducible refine w_super ?_
  | with_reducible refine w_star ?_
  | with_reducible refine w_for0 ?_
  | with_reducible refine w_lc0 ?_
  | with_reducible refine w_seqI ?_
  | with_reducible refine w_argI ?_
  | with_reducible refine w_opt ?_
  | with_reducible refine w_sli ?_
  | with_reducible refine w_pure ?_
  | with_reducible refine w_disp ?_
  | with_reducible refine w_pairs1 ?_
  | with_reducible refine w_pairs0 ?_
  | with_reducible refine w_retN ?_
  | with_reducible refine w_cnt ?_
  | with_reducible refine w_brk ?_
  | with_reducible refine o_addI ?_
  | with_reducible refine o_addI' ?_
  | with_reducible refine o_sub ?_
  | with_reducible refine o_lt ?_
  | with_reducible refine o_le ?_
  | with_reducible refine o_gt ?_
  | with_reducible refine o_ge ?_
  | with_reducible refine o_eqI ?_
  | with_reducible refine o_neI ?_
  | with_reducible refine o_eqS ?_
  | with_reducible refine o_neS ?_
  | with_reducible refine o_int ?_
  | with_reducible refine o_intB ?_
  | with_reducible refine o_neg ?_
  | with_reducible refine o_abs ?_
  | with_reducible refine o_newL ?_
  | with_reducible refine o_max2 ?_
  | with_reducible refine o_min2 ?_
  | with_reducible refine o_lenL ?_
  | with_reducible refine o_lenT ?_
  | ((with_reducible refine o_tup ?hv ?_); (case hv => first | exact Nat.le_of_ble_eq_true rfl | assumption))
  | ((with_reducible refine o_lst ?hv ?_); (case hv => first | exact Nat.le_of_ble_eq_true rfl | assumption))
  | ((with_reducible refine o_isi (t := ?tv) (b := ?bv) ?h1 ?h2 ?_); (case h1 => exact rfl); (case h2 => exact rfl))
  | ((with_reducible refine o_fld (C := ?cv) (fs := ?fv) (d := ?dv) ?h1 ?h2 ?h3 ?_); (case h1 => exact rfl); (case h2 => exact rfl); (case h3 => exact rfl))
  | ((with_reducible refine Exists.intro ?kv (And.intro ?ha ?_)); (case ha => exact rfl)))
local macro_rules | `(tactic| wtm_at "body") => `(tactic| (refine w_body rfl rfl ?_; dsimp only [List.length_cons, List.length_nil, List.drop, List.append_nil, List.map_cons, List.map_nil, List.map, List.cons_append, List.nil_append, Nat.reduceAdd, Nat.reduceSub, List.replicate]))
local macro_rules | `(tactic| wtm_at "meth") => `(tactic| refine ⟨_, _, _, rfl, rfl, rfl, ?_⟩)
local macro_rules | `(tactic| wtm_at "w") => `(tactic| first | with_reducible refine w_seq ?_ | wtm_at "e")
local macro_rules | `(tactic| wtm_at "s") => `(tactic| ((repeat wtm_at "e"); (with_reducible refine w_seq ?_)))
local macro_rules | `(tactic| wtm_at "f") => `(tactic| ((repeat wtm_at "e"); (with_reducible show FP _ _)))
/-! sums of products -/
def dotP (Z : List (Rat × Rat)) : Rat := Z.foldl (fun a p => a + p.1 * p.2) 0
theorem dotP_snoc (Z : List (Rat × Rat)) (p : Rat × Rat) : dotP (Z ++ [p]) = dotP Z + p.1 * p.2 := by
  unfold dotP
  rw [List.foldl_append]
  rfl
theorem dotP_take {Z : List (Rat × Rat)} {i : Nat} {p : Rat × Rat} (h : Z[i]? = some p) : dotP (Z.take (i + 1)) = dotP (Z.take i) + p.1 * p.2 := by
  rw [List.take_succ, h]
  exact dotP_snoc _ _
theorem o_zipT {l m : List D} {s : Sto} {Q : Src → Sto → Prop} {E : XT} (h : Q ⟨(l.zip m).map fun p => .tup [p.1, p.2], none⟩ s) : RP Q E (zipD [.tup l, .tup m] s) := h
theorem zip_its {xs ys : List Rat} {i : Nat} {d : D} (h : (((xs.map qD).zip (ys.map qD)).map fun p => D.tup [p.1, p.2])[i]? = some d) : ∃ x y, (xs.zip ys)[i]? = some (x, y) ∧ d = .tup [qD x, qD y] ∧ x ∈ xs ∧ y ∈ ys := by
  rw [List.getElem?_map, List.zip_map, List.getElem?_map] at h
  cases e : (xs.zip ys)[i]? with
  | none => rw [e] at h; cases h
  | some p =>
    rw [e] at h
    cases h
    obtain ⟨x, y⟩ := p
    have hm := List.of_mem_zip (List.mem_of_getElem? e)
    exact ⟨x, y, rfl, rfl, hm.1, hm.2⟩
theorem zip_len {xs ys : List Rat} : (((xs.map qD).zip (ys.map qD)).map fun p => D.tup [p.1, p.2]).length = (xs.zip ys).length := by simp
theorem q_ne0 {x : Rat} {s : Sto} {Q : D → Sto → Prop} {E : XT} (h : Q (.bl (!decide (x = 0))) s) : RP Q E (neD (qD x) (.int 0) s) := by
  by_cases h1 : x.den = 1
  · rw [qD_int h1]
    refine o_neI ?_
    have e : decide (x.num = 0) = decide (x = 0) := decide_eq_decide.mpr Rat.num_eq_zero
    rw [e]
    exact h
  · rw [qD_tup h1]
    have e : decide (x = 0) = false := decide_eq_false fun z => h1 (by rw [z]; rfl)
    rw [e] at h
    exact h
theorem divInt_step1 {t b m u : Int} (hb : b ≠ 0) (hm : m ≠ 0) (hd : m ∣ b) : Rat.divInt (t + u * (b / m)) b = Rat.divInt t b + Rat.divInt u m := by
  rw [Rat.divInt_add_divInt _ _ hb hm, Rat.divInt_eq_divInt_iff hb (Int.mul_ne_zero hb hm)]
  obtain ⟨c, rfl⟩ := hd
  rw [Int.mul_ediv_cancel_left _ hm]
  simp only [Int.add_mul, Int.mul_add, Int.mul_assoc, Int.mul_comm, Int.mul_left_comm]
theorem divInt_step2 {t b m u : Int} (hb : b ≠ 0) (hm : m ≠ 0) : Rat.divInt (t * m + u * b) (b * m) = Rat.divInt t b + Rat.divInt u m := by
  rw [Rat.divInt_add_divInt _ _ hb hm]
theorem mul_divInt (x y : Rat) : x * y = Rat.divInt (x.num * y.num) (x.den * y.den) := mul_dv x y
/-- how great the top and the bottom may have become behind i terms -/
def Big (N i : Nat) (t b : Int) : Prop := 0 < b ∧ b.natAbs ≤ 2 ^ (2 * N * i) ∧ t.natAbs ≤ i * 2 ^ (2 * N * i)
theorem Big.zero {N : Nat} : Big N 0 0 1 := ⟨by decide, by simp, by simp⟩
theorem Big.le {N i : Nat} {t b : Int} (h : Big N i t b) : Big N (i + 1) t b := by
  obtain ⟨h1, h2, h3⟩ := h
  have e : 2 ^ (2 * N * i) ≤ 2 ^ (2 * N * (i + 1)) := Nat.pow_le_pow_right (by decide) (Nat.mul_le_mul_left _ (Nat.le_succ i))
  refine ⟨h1, Nat.le_trans h2 e, Nat.le_trans h3 ?_⟩
  exact Nat.mul_le_mul (Nat.le_succ i) e
theorem pow_step (N i : Nat) : 2 ^ (2 * N * (i + 1)) = 2 ^ (2 * N * i) * 2 ^ (2 * N) := by rw [Nat.mul_succ, Nat.pow_add]
theorem Big.two {N i : Nat} {t b m u : Int} (h : Big N i t b) (hm : 0 < m) (hm2 : m.natAbs ≤ 2 ^ (2 * N)) (hu : u.natAbs ≤ 2 ^ (2 * N)) : Big N (i + 1) (t * m + u * b) (b * m) := by
  obtain ⟨h1, h2, h3⟩ := h
  have e := pow_step N i
  refine ⟨Int.mul_pos h1 hm, ?_, ?_⟩
  · rw [Int.natAbs_mul, e]
    exact Nat.mul_le_mul h2 hm2
  · refine Nat.le_trans (Int.natAbs_add_le ..) ?_
    rw [Int.natAbs_mul, Int.natAbs_mul, Nat.succ_mul, e]
    have a1 : t.natAbs * m.natAbs ≤ (i * 2 ^ (2 * N * i)) * 2 ^ (2 * N) := Nat.mul_le_mul h3 hm2
    have a2 : u.natAbs * b.natAbs ≤ 2 ^ (2 * N) * 2 ^ (2 * N * i) := Nat.mul_le_mul hu h2
    rw [Nat.mul_assoc] at a1
    rw [Nat.mul_comm (2 ^ (2 * N))] at a2
    omega
theorem Big.one {N i : Nat} {t b m u : Int} (h : Big N i t b) (hm : 0 < m) (hu : u.natAbs ≤ 2 ^ (2 * N)) : Big N (i + 1) (t + u * (b / m)) b := by
  have hl := h.le
  obtain ⟨h1, h2, h3⟩ := h
  have e := pow_step N i
  refine ⟨hl.1, hl.2.1, ?_⟩
  refine Nat.le_trans (Int.natAbs_add_le ..) ?_
  rw [Int.natAbs_mul, Nat.succ_mul]
  have a0 : (b / m).natAbs ≤ b.natAbs := Int.natAbs_ediv_le_natAbs _ _
  have a2 : u.natAbs * (b / m).natAbs ≤ 2 ^ (2 * N) * 2 ^ (2 * N * i) := Nat.mul_le_mul hu (Nat.le_trans a0 h2)
  rw [Nat.mul_comm (2 ^ (2 * N)), ← e] at a2
  have a3 : i * 2 ^ (2 * N * i) ≤ i * 2 ^ (2 * N * (i + 1)) := Nat.mul_le_mul_left _ (by rw [e]; exact Nat.le_mul_of_pos_right _ (Nat.pow_pos (by decide)))
  omega
theorem lt_two (n : Nat) : n < 2 ^ n := Nat.lt_two_pow_self
theorem Big.lt {N i : Nat} {t b : Int} (h : Big N i t b) (hi : 2 * N * i + i ≤ 7000) : t.natAbs < 2 ^ 7000 ∧ b.natAbs < 2 ^ 7001 := by
  obtain ⟨h1, h2, h3⟩ := h
  constructor
  · refine Nat.lt_of_le_of_lt h3 ?_
    have a : i * 2 ^ (2 * N * i) < 2 ^ i * 2 ^ (2 * N * i) := Nat.mul_lt_mul_of_pos_right (lt_two i) (Nat.pow_pos (by decide))
    rw [← Nat.pow_add] at a
    exact Nat.lt_of_lt_of_le a (Nat.pow_le_pow_right (by decide) (by omega))
  · exact Nat.lt_of_le_of_lt h2 (Nat.pow_lt_pow_right (by decide) (by omega))
theorem dd_pos (x y : Rat) : (0 : Int) < (x.den : Int) * (y.den : Int) := Int.mul_pos (by have := x.den_nz; omega) (by have := y.den_nz; omega)
theorem nn_le {N : Nat} {a b : Int} (ha : a.natAbs < 2 ^ N) (hb : b.natAbs < 2 ^ N) : (a * b).natAbs ≤ 2 ^ (2 * N) := by
  rw [Int.natAbs_mul, Nat.two_mul]
  exact Nat.le_of_lt (pow_mul_lt ha hb)
section
variable {s : Sto} {Q : D → Sto → Prop} {E : XT}
end
/-! sums of products modulo a prime -/
def dotZ (Z : List (Int × Int)) : Int := Z.foldl (fun a p => a + p.1 * p.2) 0
theorem dotZ_take {Z : List (Int × Int)} {i : Nat} {p : Int × Int} (h : Z[i]? = some p) : dotZ (Z.take (i + 1)) = dotZ (Z.take i) + p.1 * p.2 := by
  rw [List.take_succ, h]
  unfold dotZ
  rw [Option.toList_some, List.foldl_append]
  rfl
abbrev rD (p z : Int) : D := .int (z % p)
theorem zip_itsM {p : Int} {xs ys : List Int} {i : Nat} {d : D} (h : (((xs.map (rD p)).zip (ys.map (rD p))).map fun q => D.tup [q.1, q.2])[i]? = some d) : ∃ x y, (xs.zip ys)[i]? = some (x, y) ∧ d = .tup [rD p x, rD p y] := by
  rw [List.getElem?_map, List.zip_map, List.getElem?_map] at h
  cases e : (xs.zip ys)[i]? with
  | none => rw [e] at h; cases h
  | some q =>
    rw [e] at h
    cases h
    exact ⟨q.1, q.2, rfl, rfl⟩
theorem mod_mul {p x y : Int} : (x % p * (y % p)) % p = (x * y) % p := by rw [mul_mod_l, mul_mod_r]
theorem mod_zero {p a x y : Int} (h : x % p = 0 ∨ y % p = 0) : (a + x * y) % p = a % p := by
  have e : (x * y) % p = 0 := by
    rw [← mod_mul]
    rcases h with h | h <;> rw [h] <;> simp
  rw [Int.add_emod, e, Int.add_zero, Int.emod_emod_of_dvd _ (Int.dvd_refl p)]
section
variable {p : Int} {s : Sto} {Q : D → Sto → Prop} {E : XT}
theorem q_mdot {xs ys : List Int} (hp : 2 ≤ p) (hp2 : p ≤ 1000000000) (h : Q (rD p (dotZ (xs.zip ys))) s) : RP Q E (m_Field_dot [fM p, .tup (xs.map (rD p)), .tup (ys.map (rD p))] s) := by
  have md : ∀ z : Int, 0 ≤ z % p ∧ z % p < p := fun z => ⟨Int.emod_nonneg _ (by omega), Int.emod_lt_of_pos _ (by omega)⟩
  wtm_at "body"
  unfold b_Field_dot
  wtm_at "s"
  repeat wtm_at "e"
  wtm_at "s"
  repeat wtm_at "e"
  refine o_zipT ?_
  refine w_for (fun i r s' => s' = s ∧ ∃ x4 x5, r = [some (fM p), some (.tup (xs.map (rD p))), some (.tup (ys.map (rD p))), some (.int (dotZ ((xs.zip ys).take i) % p)), x4, x5]) rfl ⟨rfl, none, none, by rw [List.take_zero]; show _ = [_, _, _, some (D.int (0 % p)), _, _]; rw [Int.zero_emod]; rfl⟩ ?_ ?_
  · rintro i d r s' hd ⟨rfl, x4, x5, rfl⟩
    obtain ⟨x, y, hz, rfl⟩ := zip_itsM hd
    have hx := md x
    have hy := md y
    have key : dotZ ((xs.zip ys).take (i + 1)) % p = (dotZ ((xs.zip ys).take i) % p + (x % p * (y % p)) % p) % p := by
      rw [dotZ_take hz, mod_mul, ← Int.add_emod]
    refine ⟨_, rfl, ?_⟩
    repeat wtm_at "e"
    refine ⟨fun hk => ?_, fun hk => ?_⟩
    · repeat wtm_at "e"
      refine ⟨fun hk2 => ?_, fun hk2 => ?_⟩
      · repeat wtm_at "e"
        wtm_at "meth"
        repeat wtm_at "e"
        wtm_at "meth"
        repeat wtm_at "e"
        refine q_mulM (by omega) (by omega) (by omega) ?_
        repeat wtm_at "e"
        refine q_addM (by omega) ?_
        refine ⟨rfl, some (rD p x), some (rD p y), ?_⟩
        rw [key]
        rfl
      · repeat wtm_at "e"
        have hk2 : y % p = 0 := by simpa using hk2
        refine ⟨rfl, some (rD p x), some (rD p y), ?_⟩
        rw [dotZ_take hz, mod_zero (.inr hk2)]
        rfl
    · refine ⟨fun z => (by cases z), fun _ => ?_⟩
      repeat wtm_at "e"
      have hk : x % p = 0 := by simpa using hk
      refine ⟨rfl, some (rD p x), some (rD p y), ?_⟩
      rw [dotZ_take hz, mod_zero (.inl hk)]
      rfl
  · rintro r s' ⟨rfl, x4, x5, rfl⟩
    repeat wtm_at "e"
    have e : (((xs.map (rD p)).zip (ys.map (rD p))).map fun q => D.tup [q.1, q.2]).length = (xs.zip ys).length := by simp
    rw [e, List.take_length]
    exact h
end
end G

set_option Elab.async false
set_option linter.all false
set_option maxRecDepth 100000
set_option maxHeartbeats 4000000
namespace G
open Mp Pl
open PySem (Str sizeLine)
local macro_rules | `(tactic| wtm_at "e") => `(tactic| first
  | with_reducible refine w_set ?_
  | with_reducible refine w_bin ?_
  | ((with_reducible refine w_v (d := ?dv) ?hv ?_); (case hv => exact rfl))
  | with_reducible refine w_c ?_
  | with_reducible refine w_cons ?_
  | with_reducible refine w_nil ?_
  | with_reducible refine w_arg ?_
  | with_reducible refine w_call ?_
  | with_reducible refine w_if ?_
  | with_reducible refine w_ret ?_
  | with_reducible refine w_skip ?_
  | with_reducible refine w_bl ?_
  | with_reducible refine w_tru ?_
  | with_reducible refine w_attr ?_
  | with_reducible refine w_meth ?_
  | with_reducible refine w_chain ?_
  | with_reducible refine w_and ?_
  | with_reducible refine w_or ?_
  | with_reducible refine w_not ?_
  | with_reducible refine w_notT ?_
  | with_reducible refine w_andT ?_
  | with_reducible refine w_orT ?_
  | with_reducible refine w_ifM ?_
  | with_reducible refine w_expr ?_
  | with_reducible refine w_un ?_
  | with_reducible refine w_par2 ?_
  | with_reducible refine w_par3 ?_
  | with_reducible refine w_asg ?_
  | with_reducible refine w_aug ?_
  | with_reducible refine w_sub ?_
  | with_reducible refine w_fld ?_
  | with_reducible refine w_raise ?_
  | with_reducible refine w_raise0 ?_
  | with_reducible refine w_try ?_
  | with_reducible refine w_make ?_
  | with_reducible refine w_tryAs ?_
  | with_reducible refine w_exn ?_
  | ((with_reducible refine o_isx (b := ?bv) ?h1 ?_); (case h1 => exact rfl))
  | with_reducible refine w_superS ?_
  | with_reducible refine w_super ?_
  | with_reducible refine w_star ?_
  | with_reducible refine w_for0 ?_
  | with_reducible refine w_lc0 ?_
  | with_reducible refine w_seqI ?_
  | with_reducible refine w_argI ?_
  | with_reducible refine w_opt ?_
  | with_reducible refine w_sli ?_
  | with_reducible refine w_pure ?_
  | with_reducible refine w_disp ?_
  | with_reducible refine w_pairs1 ?_
  | with_reducible refine w_pairs0 ?_
  | with_reducible refine w_retN ?_
  | with_reducible refine w_cnt ?_
  | with_reducible refine w_brk ?_
  | with_reducible refine o_addI ?_
  | with_reducible refine o_addI' ?_
  | with_reducible refine o_sub ?_
  | with_reducible refine o_lt ?_
  | with_reducible refine o_le ?_
  | with_reducible refine o_gt ?_
  | with_reducible refine o_ge ?_
  | with_reducible refine o_eqI ?_
  | with_reducible refine o_neI ?_
  | with_reducible refine o_eqS ?_
  | with_reducible refine o_neS ?_
  | with_reducible refine o_int ?_
  | with_reducible refine o_intB ?_
  | with_reducible refine o_neg ?_
  | with_reducible refine o_abs ?_
  | with_reducible refine o_newL ?_
  | with_reducible refine o_max2 ?_
  | with_reducible refine o_min2 ?_
  | with_reducible refine o_lenL ?_
  | with_reducible refine o_lenT ?_
  | ((with_reducible refine o_tup ?hv ?_); (case hv => first | exact Nat.le_of_ble_eq_true rfl | assumption))
  | ((with_reducible refine o_lst ?hv ?_); (case hv => first | exact Nat.le_of_ble_eq_true rfl | assumption))
  | ((with_reducible refine o_isi (t := ?tv) (b := ?bv) ?h1 ?h2 ?_); (case h1 => exact rfl); (case h2 => exact rfl))
  | ((with_reducible refine o_fld (C := ?cv) (fs := ?fv) (d := ?dv) ?h1 ?h2 ?h3 ?_); (case h1 => exact rfl); (case h2 => exact rfl); (case h3 => exact rfl))
  | ((with_reducible refine Exists.intro ?kv (And.intro ?ha ?_)); (case ha => exact rfl)))
local macro_rules | `(tactic| wtm_at "body") => `(tactic| (refine w_body rfl rfl ?_; dsimp only [List.length_cons, List.length_nil, List.drop, List.append_nil, List.map_cons, List.map_nil, List.map, List.cons_append, List.nil_append, Nat.reduceAdd, Nat.reduceSub, List.replicate]))
local macro_rules | `(tactic| wtm_at "meth") => `(tactic| refine ⟨_, _, _, rfl, rfl, rfl, ?_⟩)
local macro_rules | `(tactic| wtm_at "w") => `(tactic| first | with_reducible refine w_seq ?_ | wtm_at "e")
local macro_rules | `(tactic| wtm_at "s") => `(tactic| ((repeat wtm_at "e"); (with_reducible refine w_seq ?_)))
local macro_rules | `(tactic| wtm_at "f") => `(tactic| ((repeat wtm_at "e"); (with_reducible show FP _ _)))
/-! letters, words -/
section
variable {s : Sto} {Q : D → Sto → Prop} {E : XT} {ps ws : List Nat}
theorem all_true {T : Type} (l : List T) (f : T → Bool) (h : ∀ x ∈ l, f x = true) : (l.map f).all id = true := by
  rw [List.all_eq_true]
  intro b hb
  obtain ⟨x, hx, rfl⟩ := List.mem_map.mp hb
  exact h x hx
theorem o_allX {T : Type} {l : List T} {f : T → Bool} (h : Q (.bl ((l.map f).all id)) s) : RP Q E (allD [.lst (l.map fun x => .bl (f x))] s) := o_all (l := l.map f) (by show bools _ = _; exact bools_map f l) h
theorem q_are_letters (hp : Lets ps) (h : Q (.bl true) s) : RP Q E (m_are_letters [.str (LS ps)] s) := by
  have hz : sizeLine = 16777216 := by decide
  have hlen := LS_len ps
  have h1 := hp.pos
  have h4 := hp.few
  wtm_at "body"
  unfold b_are_letters
  wtm_at "f"
  with_reducible refine w_mid (fun r s' => s' = s ∧ r = [some (.str (LS ps)), none, none]) ?_ ?_
  · repeat wtm_at "e"
    refine ⟨fun _ => ?_, fun z => by cases z⟩
    repeat wtm_at "e"
    refine o_lenS (by omega) ?_
    rw [hlen]
    repeat wtm_at "e"
    refine ⟨fun _ => ?_, fun z => ?_⟩
    · repeat wtm_at "e"
      refine ⟨fun z => ?_, fun _ => ?_⟩
      · have : decide ((ps.length : Int) ≤ 4) = true := decide_eq_true (by omega)
        rw [this] at z
        cases z
      · repeat wtm_at "e"
        exact ⟨rfl, rfl⟩
    · exact absurd z (by rw [decide_eq_true (show (1 : Int) ≤ (ps.length : Int) by omega)]; exact fun q => by cases q)
  · rintro r s' ⟨rfl, rfl⟩
    wtm_at "f"
    with_reducible refine w_mid (fun r s2 => s2 = s' ∧ r = [some (.str (LS ps)), none, none]) ?_ ?_
    · repeat wtm_at "e"
      refine w_lcX ps (fun i => .str (ch i)) (fun i => .bl true) (LS_chars ps) rfl (by omega) (fun i hi => ⟨_, rfl, ?_⟩) ?_
      · repeat wtm_at "e"
        refine o_inS ?_
        exact ⟨rfl, by rw [inStr_abc (hp.lt i hi)]⟩
      · repeat wtm_at "e"
        refine o_allX (l := ps) (f := fun _ => true) ?_
        rw [all_true _ _ fun _ _ => rfl]
        repeat wtm_at "e"
        refine ⟨fun z => (by cases z), fun _ => ?_⟩
        repeat wtm_at "e"
        exact ⟨rfl, rfl⟩
    · rintro r s2 ⟨rfl, rfl⟩
      repeat wtm_at "e"
      refine o_lenS (by omega) ?_
      rw [hlen]
      repeat wtm_at "e"
      refine w_range1 (by omega) (by omega) ?_
      have e1 : ((ps.length : Int) - 1).toNat = ps.length - 1 := by omega
      rw [e1]
      refine w_lcX (List.range (ps.length - 1)) (fun i => .int (0 + (i : Nat))) (fun i => .bl true) rfl rfl (by rw [List.length_range]; omega) (fun i hi => ⟨_, rfl, ?_⟩) ?_
      · have hi := List.mem_range.mp hi
        have a1 : i < ps.length := by omega
        have a2 : i + 1 < ps.length := by omega
        repeat wtm_at "e"
        refine idx_LS (k := i) (p := ps[i]) (by omega) (by omega) (List.getElem?_eq_getElem a1) ?_
        repeat wtm_at "e"
        refine idx_LS (k := i + 1) (p := ps[i + 1]) (by omega) (by omega) (List.getElem?_eq_getElem a2) ?_
        refine lt_ch ?_
        refine ⟨rfl, ?_⟩
        rw [decide_eq_true]
        exact List.pairwise_iff_getElem.mp hp.asc i (i + 1) a1 a2 (by omega)
      · repeat wtm_at "e"
        refine o_allX (l := List.range (ps.length - 1)) (f := fun _ => true) ?_
        rw [all_true _ _ fun _ _ => rfl]
        exact h
theorem q_is_word (hw : ∀ w ∈ ws, w ∈ ps) (hl : ws.length ≤ 160) (hz : ps.length ≤ sizeLine) (h : Q (.bl true) s) : RP Q E (m_is_word [.str (LS ps), .str (LS ws), .int 160] s) := by
  have hz : sizeLine = 16777216 := by decide
  have hlen := LS_len ws
  wtm_at "body"
  unfold b_is_word
  wtm_at "f"
  with_reducible refine w_mid (fun r s' => s' = s ∧ r = [some (.str (LS ps)), some (.str (LS ws)), some (.int 160), none]) ?_ ?_
  · repeat wtm_at "e"
    refine ⟨fun _ => ?_, fun z => by cases z⟩
    repeat wtm_at "e"
    refine o_lenS (by omega) ?_
    rw [hlen]
    repeat wtm_at "e"
    refine ⟨fun z => ?_, fun _ => ?_⟩
    · exact absurd (of_decide_eq_true z) (by omega)
    · repeat wtm_at "e"
      exact ⟨rfl, rfl⟩
  · rintro r s' ⟨rfl, rfl⟩
    repeat wtm_at "e"
    refine w_lcX ws (fun i => .str (ch i)) (fun i => .bl true) (LS_chars ws) rfl (by omega) (fun i hi => ⟨_, rfl, ?_⟩) ?_
    · repeat wtm_at "e"
      refine o_inS ?_
      exact ⟨rfl, by rw [inStr_LS, decide_eq_true (hw i hi)]⟩
    · repeat wtm_at "e"
      refine o_allX (l := ws) (f := fun _ => true) ?_
      rw [all_true _ _ fun _ _ => rfl]
      exact h
theorem q_need_word (hw : ∀ w ∈ ws, w ∈ ps) (hl : ws.length ≤ 160) (hz : ps.length ≤ sizeLine) (h : Q .non s) : RP Q E (m_need_word [.str (LS ps), .str (LS ws)] s) := by
  wtm_at "body"
  unfold b_need_word
  repeat wtm_at "e"
  refine q_is_word hw hl hz ?_
  repeat wtm_at "e"
  refine ⟨fun z => (by cases z), fun _ => ?_⟩
  repeat wtm_at "e"
  exact h
end
/-! machines -/
/-- a field's object, its numbers as data, sums of products, numbers within bounds, numbers that is_number accepts -/
structure FK (T : Type) where
  F : D
  em : T → D
  dot : List (T × T) → T
  ok : T → Prop
  nu : T → Prop
def DotOk {T : Type} (k : FK T) (n : Nat) (m : DF) : Prop := ∀ (xs ys : List T) (s : Sto) (Q : D → Sto → Prop) (E : XT), xs.length = n → ys.length = n → (∀ x ∈ xs, k.ok x) → (∀ y ∈ ys, k.ok y) → Q (k.em (k.dot (xs.zip ys))) s → RP Q E (m [k.F, .tup (xs.map k.em), .tup (ys.map k.em)] s)
structure FKok {T : Type} (k : FK T) (n : Nat) : Prop where
  cls : ∃ pv, k.F = .ins "Modulo" [("own_prime", pv)] ∧ DotOk k n m_Field_dot
  num : ∀ (x : T) (s : Sto) (Q : D → Sto → Prop) (E : XT), k.nu x → Q (.bl true) s → RP Q E (m_Field_is_number [k.F, k.em x] s)
section
variable {T : Type} [Inhabited T] {k : FK T} {s : Sto} {Q : D → Sto → Prop} {E : XT} {ps ws : List Nat} {n : Nat} {st en x : List T} {tb : Nat → List (List T)} {rows : List (List T)}
def colsA (n : Nat) (rows : List (List T)) : List (List T) := (List.range n).map fun j => rows.map fun r => r.getD j default
def tupR (k : FK T) (rows : List (List T)) : D := .tup (rows.map fun r => .tup (r.map k.em))
def lstR (k : FK T) (rows : List (List T)) : D := .lst (rows.map fun r => .lst (r.map k.em))
def machD (k : FK T) (ps : List Nat) (n : Nat) (st en : List T) (tb : Nat → List (List T)) : D := .ins "Machine" [("own_field", k.F), ("own_letters", .str (LS ps)), ("own_start", .tup (st.map k.em)), ("own_size", .int (n : Nat)), ("own_ends", .tup (en.map k.em)),
  ("own_tables", .dct (byL ps fun i => tupR k (tb i))), ("own_columns", .dct (byL ps fun i => tupR k (colsA n (tb i))))]
structure Sq (n : Nat) (rows : List (List T)) : Prop where
  len : rows.length = n
  row : ∀ r ∈ rows, r.length = n
theorem colsD_eq (h : Sq n rows) : colsD (rows.map fun r => r.map k.em) = (colsA n rows).map fun r => r.map k.em := by
  have hw : widthD (rows.map fun r => r.map k.em) = n := by
    cases rows with
    | nil => exact h.len
    | cons r rs =>
      show (r.map k.em).length = n
      rw [List.length_map]
      exact h.row r List.mem_cons_self
  unfold colsD colsA
  rw [hw, List.map_map]
  apply List.map_congr_left
  intro j hj
  have hj := List.mem_range.mp hj
  show List.map _ (List.map _ rows) = List.map _ (List.map _ rows)
  rw [List.map_map, List.map_map]
  apply List.map_congr_left
  intro r hr
  have hl := h.row r hr
  have hj' : j < r.length := by omega
  show (r.map k.em).getD j .non = k.em (r.getD j default)
  rw [List.getD_eq_getElem?_getD, List.getD_eq_getElem?_getD, List.getElem?_map, List.getElem?_eq_getElem hj']
  rfl
theorem colsA_sq (h : Sq n rows) : Sq n (colsA n rows) := by
  refine ⟨by unfold colsA; rw [List.length_map, List.length_range], fun r hr => ?_⟩
  obtain ⟨j, _, rfl⟩ := List.mem_map.mp hr
  rw [List.length_map]
  exact h.len
theorem colsA_mem (h : Sq n rows) {c : List T} (hc : c ∈ colsA n rows) {y : T} (hy : y ∈ c) : ∃ r ∈ rows, y ∈ r := by
  obtain ⟨j, hj, rfl⟩ := List.mem_map.mp hc
  obtain ⟨r, hr, rfl⟩ := List.mem_map.mp hy
  have hj := List.mem_range.mp hj
  have hl := h.row r hr
  have hj' : j < r.length := by omega
  refine ⟨r, hr, ?_⟩
  rw [List.getD_eq_getElem?_getD, List.getElem?_eq_getElem hj']
  exact List.getElem_mem hj'
theorem q_columns (h : Sq n rows) (hn : n ≤ 1000000) (hq : Q (tupR k (colsA n rows)) s) : RP Q E (m_columns_of [tupR k rows] s) := by
  have hz : sizeLine = 16777216 := by decide
  wtm_at "body"
  unfold b_columns_of
  repeat wtm_at "e"
  refine w_zipS ?_
  repeat wtm_at "e"
  refine ⟨rows.map fun r => r.map k.em, by unfold tupR; rw [List.map_map]; rfl, fun r hr => ?_, ?_⟩
  · obtain ⟨r0, h0, rfl⟩ := List.mem_map.mp hr
    rw [List.length_map, h.row r0 h0]
    cases rows with
    | nil => cases h0
    | cons r1 rs =>
      show n = (r1.map k.em).length
      rw [List.length_map]
      exact (h.row r1 List.mem_cons_self).symm
  · rw [colsD_eq h, List.map_map]
    have hl := (colsA_sq h).len
    refine w_lcX (colsA n rows) (fun r => .tup (r.map k.em)) (fun r => .tup (r.map k.em)) rfl rfl (by omega) (fun r hr => ⟨_, rfl, ?_⟩) ?_
    · repeat wtm_at "e"
      refine o_tuple rfl ?_
      exact ⟨rfl, rfl⟩
    · repeat wtm_at "e"
      refine o_tuple rfl ?_
      exact hq
theorem q_kept {t : D} (hd : dctOf s t = some (byL ps fun i => lstR k (tb i))) (hp : Lets ps) (hsq : ∀ i ∈ ps, Sq n (tb i)) (hn : n ≤ 1000000) (hq : Q (.dct (byL ps fun i => tupR k (tb i))) s) : RP Q E (m_kept_tables [.str (LS ps), t] s) := by
  have hz : sizeLine = 16777216 := by decide
  have h4 := hp.few
  wtm_at "body"
  unfold b_kept_tables
  repeat wtm_at "e"
  refine w_dc0 ?_
  repeat wtm_at "e"
  rw [LS_chars]
  refine w_dcX (fun i => .str (ch i)) (fun i => tupR k (tb i)) (fun i => .inr (ch i)) rfl ps [] (by simp; omega) (key_nodup hp.nodup) (fun _ _ z => by cases z) (fun i hi => ⟨_, .str (ch i), rfl, ?_, rfl, ?_⟩) ?_
  · repeat wtm_at "e"
    exact ⟨rfl, rfl⟩
  · have hl := (hsq i hi).len
    repeat wtm_at "e"
    refine o_idxD (n := 0) hd rfl (byL_get hi) ?_
    repeat wtm_at "e"
    refine w_lcX (tb i) (fun r => .lst (r.map k.em)) (fun r => .tup (r.map k.em)) rfl rfl (by omega) (fun r hr => ⟨_, rfl, ?_⟩) ?_
    · repeat wtm_at "e"
      refine o_tuple rfl ?_
      exact ⟨rfl, rfl⟩
    · repeat wtm_at "e"
      refine o_tuple rfl ?_
      exact ⟨rfl, rfl⟩
  · exact hq
theorem q_is_list {l : List D} (h : Q (.bl true) s) : RP Q E (m_is_list [.lst l] s) := by
  wtm_at "body"
  unfold b_is_list
  repeat wtm_at "e"
  exact o_isiM (t := .bt "list") (b := true) rfl rfl rfl h
theorem q_are_numbers (K : FKok k n) {xs : List T} (hx : ∀ x ∈ xs, k.nu x) (hl : xs.length ≤ 1000000) (h : Q (.bl true) s) : RP Q E (m_are_numbers [k.F, .lst (xs.map k.em)] s) := by
  have hz : sizeLine = 16777216 := by decide
  wtm_at "body"
  unfold b_are_numbers
  repeat wtm_at "e"
  refine q_is_list ?_
  repeat wtm_at "e"
  refine ⟨fun _ => ?_, fun z => (by cases z)⟩
  repeat wtm_at "e"
  refine w_lcX xs k.em (fun _ => .bl true) rfl rfl (by omega) (fun x hxm => ⟨_, rfl, ?_⟩) ?_
  · repeat wtm_at "e"
    have hm : RP (fun y t => t = s ∧ y = D.bl true) noX (m_Field_is_number [k.F, k.em x] s) := K.num x s _ _ (hx x hxm) ⟨rfl, rfl⟩
    obtain ⟨pv, e, _⟩ := K.cls
    rw [e] at hm ⊢
    refine ⟨_, _, _, rfl, rfl, rfl, ?_⟩
    repeat wtm_at "e"
    exact hm
  · repeat wtm_at "e"
    refine o_allX (l := xs) (f := fun _ => true) ?_
    rw [all_true _ _ fun _ _ => rfl]
    exact h
theorem q_are_rows (K : FKok k n) (hs : Sq n rows) (hx : ∀ r ∈ rows, ∀ x ∈ r, k.nu x) (hn : n ≤ 1000000) (h : Q (.bl true) s) : RP Q E (m_are_rows [k.F, lstR k rows, .int (n : Nat)] s) := by
  have hz : sizeLine = 16777216 := by decide
  have hl := hs.len
  wtm_at "body"
  unfold b_are_rows lstR
  wtm_at "f"
  with_reducible refine w_mid (fun r s' => s' = s ∧ r = [some k.F, some (.lst (rows.map fun r => .lst (r.map k.em))), some (.int (n : Nat)), none]) ?_ ?_
  · repeat wtm_at "e"
    refine q_is_list ?_
    repeat wtm_at "e"
    refine ⟨fun _ => ?_, fun z => (by cases z)⟩
    repeat wtm_at "e"
    rw [List.length_map, hl]
    refine ⟨fun z => ?_, fun _ => ?_⟩
    · simp at z
    · repeat wtm_at "e"
      exact ⟨rfl, rfl⟩
  · rintro r s' ⟨rfl, rfl⟩
    repeat wtm_at "e"
    refine w_lcX rows (fun r => .lst (r.map k.em)) (fun _ => .bl true) rfl rfl (by omega) (fun r hr => ⟨_, rfl, ?_⟩) ?_
    · have hrl := hs.row r hr
      repeat wtm_at "e"
      refine q_are_numbers K (hx r hr) (by omega) ?_
      repeat wtm_at "e"
      refine ⟨fun _ => ?_, fun z => (by cases z)⟩
      repeat wtm_at "e"
      rw [List.length_map, hrl]
      exact ⟨rfl, by simp⟩
    · repeat wtm_at "e"
      refine o_allX (l := rows) (f := fun _ => true) ?_
      rw [all_true _ _ fun _ _ => rfl]
      exact h
end
end G

set_option Elab.async false
set_option linter.all false
set_option maxRecDepth 100000
set_option maxHeartbeats 4000000
namespace G
open Mp Pl
open PySem (Str sizeLine)
local macro_rules | `(tactic| wtm_at "e") => `(tactic| first
  | with_reducible refine w_set ?_
  | with_reducible refine w_bin ?_
  | ((with_reducible refine w_v (d := ?dv) ?hv ?_); (case hv => exact rfl))
  | with_reducible refine w_c ?_
  | with_reducible refine w_cons ?_
  | with_reducible refine w_nil ?_
  | with_reducible refine w_arg ?_
  | with_reducible refine w_call ?_
  | with_reducible refine w_if ?_
  | with_reducible refine w_ret ?_
  | with_reducible refine w_skip ?_
  | with_reducible refine w_bl ?_
  | with_reducible refine w_tru ?_
  | with_reducible refine w_attr ?_
  | with_reducible refine w_meth ?_
  | with_reducible refine w_chain ?_
  | with_reducible refine w_and ?_
  | with_reducible refine w_or ?_
  | with_reducible refine w_not ?_
  | with_reducible refine w_notT ?_
  | with_reducible refine w_andT ?_
  | with_reducible refine w_orT ?_
  | with_reducible refine w_ifM ?_
  | with_reducible refine w_expr ?_
  | with_reducible refine w_un ?_
  | with_reducible refine w_par2 ?_
  | with_reducible refine w_par3 ?_
  | with_reducible refine w_asg ?_
  | with_reducible refine w_aug ?_
  | with_reducible refine w_sub ?_
  | with_reducible refine w_fld ?_
  | with_reducible refine w_raise ?_
  | with_reducible refine w_raise0 ?_
  | with_reducible refine w_try ?_
  | with_reducible refine w_make ?_
  | with_reducible refine w_tryAs ?_
  | with_reducible refine w_exn ?_
  | ((with_reducible refine o_isx (b := ?bv) ?h1 ?_); (case h1 => exact rfl))
  | with_reducible refine w_superS ?_
  | with_reducible refine w_super ?_
  | with_reducible refine w_star ?_
  | with_reducible refine w_for0 ?_
  | with_reducible refine w_lc0 ?_
  | with_reducible refine w_seqI ?_
  | with_reducible refine w_argI ?_
  | with_reducible refine w_opt ?_
  | with_reducible refine w_sli ?_
  | with_reducible refine w_pure ?_
  | with_reducible refine w_disp ?_
  | with_reducible refine w_pairs1 ?_
  | with_reducible refine w_pairs0 ?_
  | with_reducible refine w_retN ?_
  | with_reducible refine w_cnt ?_
  | with_reducible refine w_brk ?_
  | with_reducible refine o_addI ?_
  | with_reducible refine o_addI' ?_
  | with_reducible refine o_sub ?_
  | with_reducible refine o_lt ?_
  | with_reducible refine o_le ?_
  | with_reducible refine o_gt ?_
  | with_reducible refine o_ge ?_
  | with_reducible refine o_eqI ?_
  | with_reducible refine o_neI ?_
  | with_reducible refine o_eqS ?_
  | with_reducible refine o_neS ?_
  | with_reducible refine o_int ?_
  | with_reducible refine o_intB ?_
  | with_reducible refine o_neg ?_
  | with_reducible refine o_abs ?_
  | with_reducible refine o_newL ?_
  | with_reducible refine o_max2 ?_
  | with_reducible refine o_min2 ?_
  | with_reducible refine o_lenL ?_
  | with_reducible refine o_lenT ?_
  | ((with_reducible refine o_tup ?hv ?_); (case hv => first | exact Nat.le_of_ble_eq_true rfl | assumption))
  | ((with_reducible refine o_lst ?hv ?_); (case hv => first | exact Nat.le_of_ble_eq_true rfl | assumption))
  | ((with_reducible refine o_isi (t := ?tv) (b := ?bv) ?h1 ?h2 ?_); (case h1 => exact rfl); (case h2 => exact rfl))
  | ((with_reducible refine o_fld (C := ?cv) (fs := ?fv) (d := ?dv) ?h1 ?h2 ?h3 ?_); (case h1 => exact rfl); (case h2 => exact rfl); (case h3 => exact rfl))
  | ((with_reducible refine Exists.intro ?kv (And.intro ?ha ?_)); (case ha => exact rfl)))
local macro_rules | `(tactic| wtm_at "body") => `(tactic| (refine w_body rfl rfl ?_; dsimp only [List.length_cons, List.length_nil, List.drop, List.append_nil, List.map_cons, List.map_nil, List.map, List.cons_append, List.nil_append, Nat.reduceAdd, Nat.reduceSub, List.replicate]))
local macro_rules | `(tactic| wtm_at "meth") => `(tactic| refine ⟨_, _, _, rfl, rfl, rfl, ?_⟩)
local macro_rules | `(tactic| wtm_at "w") => `(tactic| first | with_reducible refine w_seq ?_ | wtm_at "e")
local macro_rules | `(tactic| wtm_at "s") => `(tactic| ((repeat wtm_at "e"); (with_reducible refine w_seq ?_)))
local macro_rules | `(tactic| wtm_at "f") => `(tactic| ((repeat wtm_at "e"); (with_reducible show FP _ _)))
/-! machines: made, asked -/
section
variable {T : Type} [Inhabited T] {k : FK T} {s : Sto} {Q : D → Sto → Prop} {E : XT} {ps ws : List Nat} {n : Nat} {st en x : List T} {tb : Nat → List (List T)} {rows : List (List T)}
theorem tag_dct {s : Sto} {t : Nat} {m : List (L2.Key × D)} (h : dctOf s (.cel t) = some m) : tagD s (.cel t) = some (.bt "dict") := by
  unfold dctOf at h
  unfold tagD
  dsimp only at h ⊢
  cases e : s[t]? with
  | none => rw [e] at h; cases h
  | some o =>
    cases o with
    | none => rw [e] at h; cases h
    | some c =>
      rw [e] at h
      cases c <;> first | (cases h; rfl) | cases h
theorem q_are_tables {t : Nat} (K : FKok k n) (hd : dctOf s (.cel t) = some (byL ps fun i => lstR k (tb i))) (hp : Lets ps) (hsq : ∀ i ∈ ps, Sq n (tb i)) (hx : ∀ i ∈ ps, ∀ r ∈ tb i, ∀ x ∈ r, k.nu x) (hn : n ≤ 1000000) (h : Q (.bl true) s) : RP Q E (m_are_tables [k.F, .str (LS ps), .cel t, .int (n : Nat)] s) := by
  have hz : sizeLine = 16777216 := by decide
  have h4 := hp.few
  have hlen := LS_len ps
  wtm_at "body"
  unfold b_are_tables
  wtm_at "f"
  with_reducible refine w_mid (fun r s' => s' = s ∧ r = [some k.F, some (.str (LS ps)), some (.cel t), some (.int (n : Nat)), none]) ?_ ?_
  · repeat wtm_at "e"
    refine o_isi (tag_dct hd) (b := true) rfl ?_
    repeat wtm_at "e"
    refine ⟨fun _ => ?_, fun z => (by cases z)⟩
    repeat wtm_at "e"
    refine o_lenXD hd ?_
    rw [byL_len]
    repeat wtm_at "e"
    refine o_lenXS (by omega) ?_
    rw [hlen]
    repeat wtm_at "e"
    refine ⟨fun z => ?_, fun _ => ?_⟩
    · simp at z
    · repeat wtm_at "e"
      exact ⟨rfl, rfl⟩
  · rintro r s' ⟨rfl, rfl⟩
    repeat wtm_at "e"
    refine w_lcX ps (fun i => .str (ch i)) (fun i => .bl true) (LS_chars ps) rfl (by omega) (fun i hi => ⟨_, rfl, ?_⟩) ?_
    · repeat wtm_at "e"
      have ein : inD false (.str (ch i)) (.cel t) s' = .ok (.bl true) s' := by
        unfold inD
        rw [hd]
        dsimp only
        rw [show keyD (.str (ch i)) = some (.inr (ch i)) from rfl]
        dsimp only
        rw [byL_get hi]
        rfl
      refine RP.of ein ?_
      repeat wtm_at "e"
      refine ⟨fun _ => ?_, fun z => (by cases z)⟩
      repeat wtm_at "e"
      refine o_idxD (n := 0) hd rfl (byL_get hi) ?_
      repeat wtm_at "e"
      exact q_are_rows K (hsq i hi) (hx i hi) hn ⟨rfl, rfl⟩
    · repeat wtm_at "e"
      refine o_allX (l := ps) (f := fun _ => true) ?_
      rw [all_true _ _ fun _ _ => rfl]
      exact h
/-- what a machine is made of -/
structure Parts (k : FK T) (ps : List Nat) (n : Nat) (st en : List T) (tb : Nat → List (List T)) : Prop where
  lets : Lets ps
  hst : st.length = n
  hen : en.length = n
  sq : ∀ i ∈ ps, Sq n (tb i)
  nst : ∀ x ∈ st, k.nu x
  nen : ∀ x ∈ en, k.nu x
  ntb : ∀ i ∈ ps, ∀ r ∈ tb i, ∀ x ∈ r, k.nu x
  few : n ≤ 24
theorem isi_field (K : FKok k n) (h : Q (.bl true) s) : RP Q E (isiD it0 [k.F, .glo "Field"] s) := by
  obtain ⟨pv, e, _⟩ := K.cls
  rw [e]
  exact h
theorem q_wrong_part {t : Nat} (K : FKok k n) (P : Parts k ps n st en tb) (hd : dctOf s (.cel t) = some (byL ps fun i => lstR k (tb i))) (h : Q .non s) : RP Q E (m_wrong_part [k.F, .str (LS ps), .lst (st.map k.em), .cel t, .lst (en.map k.em)] s) := by
  have h24 := P.few
  have h1 := P.hst
  have h2 := P.hen
  wtm_at "body"
  unfold b_wrong_part
  wtm_at "s"
  repeat wtm_at "e"
  refine isi_field K ?_
  repeat wtm_at "e"
  refine ⟨fun z => (by cases z), fun _ => ?_⟩
  wtm_at "s"
  repeat wtm_at "e"
  refine q_are_letters P.lets ?_
  repeat wtm_at "e"
  refine ⟨fun z => (by cases z), fun _ => ?_⟩
  wtm_at "s"
  repeat wtm_at "e"
  refine q_are_numbers K P.nst (by omega) ?_
  repeat wtm_at "e"
  refine ⟨fun z => (by cases z), fun _ => ?_⟩
  wtm_at "s"
  repeat wtm_at "e"
  refine q_are_numbers K P.nen (by omega) ?_
  repeat wtm_at "e"
  refine ⟨fun _ => ?_, fun z => (by cases z)⟩
  repeat wtm_at "e"
  rw [List.length_map, List.length_map, h1, h2]
  refine ⟨fun z => ?_, fun _ => ?_⟩
  · simp at z
  · repeat wtm_at "e"
    rw [List.length_map, h1]
    refine q_are_tables K hd P.lets P.sq P.ntb (by omega) ?_
    repeat wtm_at "e"
    refine ⟨fun _ => ?_, fun z => (by cases z)⟩
    repeat wtm_at "e"
    exact h
theorem q_need_states {i : Int} (hi : i ≤ 24) (h : Q .non s) : RP Q E (m_need_states [.int i] s) := by
  wtm_at "body"
  unfold b_need_states
  repeat wtm_at "e"
  refine ⟨fun z => ?_, fun _ => ?_⟩
  · exact absurd (of_decide_eq_true z) (by omega)
  · repeat wtm_at "e"
    exact h
/-- the store while a machine is made -/
abbrev wk (s : Sto) (fs : List (Str × D)) : Sto := s ++ [some (.ins "Machine" fs)]
theorem wk_at {fs : List (Str × D)} : (wk s fs)[s.length]? = some (some (.ins "Machine" fs)) := by simp [wk]
theorem wk_set {fs gs : List (Str × D)} : (wk s fs).set s.length (some (.ins "Machine" gs)) = wk s gs := by simp [wk]
theorem wk_ins {fs : List (Str × D)} : insOf (wk s fs) (.cel s.length) = some (("Machine" : Str), fs) := by
  unfold insOf
  dsimp only
  rw [wk_at]
theorem wk_dct {t : Nat} {fs : List (Str × D)} (ht : t < s.length) : dctOf (wk s fs) (.cel t) = dctOf s (.cel t) := dctOf_cel (by unfold wk; rw [List.getElem?_append_left ht])
theorem q_init {t : Nat} (K : FKok k n) (P : Parts k ps n st en tb) (ht : t < s.length) (hd : dctOf s (.cel t) = some (byL ps fun i => lstR k (tb i))) (h : Q (machD k ps n st en tb) (s ++ [none])) :
    RP (fun v s2 => v = .non ∧ RP Q E (freezeI false s.length s2)) E (m_Machine___init__ [.cel s.length, k.F, .str (LS ps), .lst (st.map k.em), .cel t, .lst (en.map k.em)] (s ++ [some (.ins "Machine" [])])) := by
  have hz : sizeLine = 16777216 := by decide
  have h24 := P.few
  have h1 := P.hst
  have h2 := P.hen
  have h4 := P.lets.few
  have hd' : ∀ fs, dctOf (wk s fs) (.cel t) = some (byL ps fun i => lstR k (tb i)) := fun fs => (wk_dct ht).trans hd
  show RP _ E (m_Machine___init__ [.cel s.length, k.F, .str (LS ps), .lst (st.map k.em), .cel t, .lst (en.map k.em)] (wk s []))
  wtm_at "body"
  unfold b_Machine___init__
  wtm_at "s"
  repeat wtm_at "e"
  refine q_wrong_part K P (hd' _) ?_
  wtm_at "s"
  repeat wtm_at "e"
  refine RP.of (a := .bl false) rfl ?_
  repeat wtm_at "e"
  refine ⟨fun z => (by cases z), fun _ => ?_⟩
  wtm_at "s"
  repeat wtm_at "e"
  rw [List.length_map, h1]
  refine q_need_states (by omega) ?_
  wtm_at "s"
  repeat wtm_at "e"
  refine ⟨_, _, _, rfl, wk_at, by decide, Nat.le_of_ble_eq_true rfl, ?_⟩
  rw [wk_set]
  wtm_at "s"
  repeat wtm_at "e"
  refine ⟨_, _, _, rfl, wk_at, by decide, Nat.le_of_ble_eq_true rfl, ?_⟩
  rw [wk_set]
  wtm_at "s"
  repeat wtm_at "e"
  refine o_tuple rfl ?_
  repeat wtm_at "e"
  refine ⟨_, _, _, rfl, wk_at, by decide, Nat.le_of_ble_eq_true rfl, ?_⟩
  rw [wk_set]
  wtm_at "s"
  repeat wtm_at "e"
  refine o_fld (d := .tup (st.map k.em)) wk_ins rfl rfl ?_
  repeat wtm_at "e"
  rw [List.length_map, h1]
  refine ⟨_, _, _, rfl, wk_at, by decide, Nat.le_of_ble_eq_true rfl, ?_⟩
  rw [wk_set]
  wtm_at "s"
  repeat wtm_at "e"
  refine o_tuple rfl ?_
  repeat wtm_at "e"
  refine ⟨_, _, _, rfl, wk_at, by decide, Nat.le_of_ble_eq_true rfl, ?_⟩
  rw [wk_set]
  wtm_at "s"
  repeat wtm_at "e"
  refine q_kept (hd' _) P.lets P.sq (by omega) ?_
  repeat wtm_at "e"
  refine ⟨_, _, _, rfl, wk_at, by decide, Nat.le_of_ble_eq_true rfl, ?_⟩
  rw [wk_set]
  repeat wtm_at "e"
  refine w_dc0 ?_
  repeat wtm_at "e"
  rw [LS_chars]
  refine w_dcX (fun i => .str (ch i)) (fun i => tupR k (colsA n (tb i))) (fun i => .inr (ch i)) rfl ps [] (by simp; omega) (key_nodup P.lets.nodup) (fun _ _ z => by cases z) (fun i hi => ⟨_, .str (ch i), rfl, ?_, rfl, ?_⟩) ?_
  · repeat wtm_at "e"
    exact ⟨rfl, rfl⟩
  · repeat wtm_at "e"
    refine o_fld (d := .dct (byL ps fun i => tupR k (tb i))) wk_ins rfl rfl ?_
    repeat wtm_at "e"
    refine o_idxD (n := 0) (m := byL ps fun i => tupR k (tb i)) rfl rfl (byL_get hi) ?_
    repeat wtm_at "e"
    exact q_columns (P.sq i hi) (by omega) ⟨rfl, rfl⟩
  · repeat wtm_at "e"
    refine ⟨_, _, _, rfl, wk_at, by decide, Nat.le_of_ble_eq_true rfl, ?_⟩
    rw [wk_set]
    refine ⟨rfl, w_freeze (C := "Machine") wk_at ?_⟩
    have e : ∀ fs, (wk s fs).set s.length none = s ++ [none] := fun fs => by simp [wk]
    rw [e]
    exact h
/-! running -/
def stepA (k : FK T) (n : Nat) (rows : List (List T)) (x : List T) : List T := (colsA n rows).map fun c => k.dot (x.zip c)
def runA (k : FK T) (n : Nat) (tb : Nat → List (List T)) : List T → List Nat → List T
  | x, [] => x
  | x, w :: ws => runA k n tb (stepA k n (tb w) x) ws
/-- all numbers on the way are within bounds -/
def Way (k : FK T) (n : Nat) (tb : Nat → List (List T)) : List T → List Nat → Prop
  | x, [] => ∀ y ∈ x, k.ok y
  | x, w :: ws => (∀ y ∈ x, k.ok y) ∧ Way k n tb (stepA k n (tb w) x) ws
theorem Way.here {k : FK T} {n : Nat} {tb : Nat → List (List T)} {x : List T} {ws : List Nat} (h : Way k n tb x ws) : ∀ y ∈ x, k.ok y := by
  cases ws with
  | nil => exact h
  | cons w ws => exact h.1
theorem stepA_len {rows : List (List T)} : (stepA k n rows x).length = n := by unfold stepA colsA; simp
theorem runA_len : ∀ (ws : List Nat) (x : List T), x.length = n → (runA k n tb x ws).length = n
  | [], x, h => h
  | w :: ws, x, h => runA_len ws _ stepA_len
theorem runA_ok : ∀ (ws : List Nat) (x : List T), Way k n tb x ws → ∀ y ∈ runA k n tb x ws, k.ok y
  | [], x, h => h
  | w :: ws, x, h => runA_ok ws _ h.2
theorem q_dotF (K : FKok k n) {xs ys : List T} {tb1 : List (Str × DF)} {r : En} (a : DM (List D)) (h1 : tb1 = [(("Modulo" : Str), m_Field_dot)]) (ha : a r s = .ok [.tup (xs.map k.em), .tup (ys.map k.em)] s) (lx : xs.length = n) (ly : ys.length = n) (hx : ∀ x ∈ xs, k.ok x) (hy : ∀ y ∈ ys, k.ok y) (h : Q (k.em (k.dot (xs.zip ys))) s) :
    ∃ C fs f, insOf s k.F = some (C, fs) ∧ fs.lookup ("dot" : Str) = none ∧ tb1.lookup C = some f ∧ RP (fun ds s2 => RP Q E (f (k.F :: ds) s2)) E (a r s) := by
  subst h1
  rw [ha]
  obtain ⟨pv, e, d⟩ := K.cls
  refine ⟨"Modulo", [("own_prime", pv)], m_Field_dot, by rw [e]; rfl, rfl, rfl, ?_⟩
  exact d xs ys s Q E lx ly hx hy h
theorem q_stepped {i : Nat} (K : FKok k n) (hi : i ∈ ps) (hsq : Sq n (tb i)) (hn : n ≤ 1000000) (hxl : x.length = n) (hx : ∀ y ∈ x, k.ok y) (ht : ∀ r ∈ tb i, ∀ y ∈ r, k.ok y) (h : Q (.tup ((stepA k n (tb i) x).map k.em)) s) : RP Q E (m_Machine_stepped [machD k ps n st en tb, .tup (x.map k.em), .str (ch i)] s) := by
  have hz : sizeLine = 16777216 := by decide
  have hc := colsA_sq hsq
  have hcl := hc.len
  wtm_at "body"
  unfold b_Machine_stepped machD
  repeat wtm_at "e"
  refine o_idxD (n := 0) (m := byL ps fun i => tupR k (colsA n (tb i))) rfl rfl (byL_get hi) ?_
  repeat wtm_at "e"
  refine w_lcX (colsA n (tb i)) (fun c => .tup (c.map k.em)) (fun c => k.em (k.dot (x.zip c))) rfl rfl (by omega) (fun c hcm => ⟨_, rfl, ?_⟩) ?_
  · repeat wtm_at "e"
    refine q_dotF K (xs := x) (ys := c) _ rfl rfl hxl (hc.row c hcm) hx (fun y hy => ?_) ⟨rfl, rfl⟩
    obtain ⟨r, hr, hyr⟩ := colsA_mem hsq hcm hy
    exact ht r hr y hyr
  · repeat wtm_at "e"
    refine o_tuple rfl ?_
    have e : (stepA k n (tb i) x).map k.em = (colsA n (tb i)).map fun c => k.em (k.dot (x.zip c)) := by
      unfold stepA
      rw [List.map_map]
      rfl
    rw [← e]
    exact h
theorem q_run (K : FKok k n) (hsq : ∀ i ∈ ps, Sq n (tb i)) (hn : n ≤ 1000000) (hxl : x.length = n) (ht : ∀ i ∈ ps, ∀ r ∈ tb i, ∀ y ∈ r, k.ok y) (hw : ∀ w ∈ ws, w ∈ ps) (hway : Way k n tb x ws) (hl : ws.length ≤ 1000000) (h : Q (.tup ((runA k n tb x ws).map k.em)) s) :
    RP Q E (m_Machine_run [machD k ps n st en tb, .tup (x.map k.em), .str (LS ws)] s) := by
  wtm_at "body"
  unfold b_Machine_run
  wtm_at "s"
  repeat wtm_at "e"
  rw [LS_chars]
  refine w_for (fun i r s' => s' = s ∧ ∃ (y : List T) (x3 : Option D), r = [some (machD k ps n st en tb), some (.tup (y.map k.em)), some (.str (LS ws)), x3] ∧ y.length = n ∧ Way k n tb y (ws.drop i) ∧ runA k n tb y (ws.drop i) = runA k n tb x ws) rfl
    ⟨rfl, x, none, rfl, hxl, hway, rfl⟩ ?_ ?_
  · rintro i d r s' hd ⟨rfl, y, x3, rfl, hyl, hwy, hrun⟩
    have hd : (ws.map fun i => D.str (ch i))[i]? = some d := hd
    rw [List.getElem?_map] at hd
    cases ew : ws[i]? with
    | none => rw [ew] at hd; cases hd
    | some w =>
      rw [ew] at hd
      cases hd
      have hil := (List.getElem?_eq_some_iff.mp ew).1
      have hwm := hw w (List.mem_of_getElem? ew)
      have edrop : ws.drop i = w :: ws.drop (i + 1) := by
        rw [List.drop_eq_getElem_cons hil]
        rw [(List.getElem?_eq_some_iff.mp ew).2]
      rw [edrop] at hwy hrun
      refine ⟨_, rfl, ?_⟩
      repeat wtm_at "e"
      refine ⟨_, _, _, rfl, rfl, rfl, ?_⟩
      repeat wtm_at "e"
      refine q_stepped K hwm (hsq w hwm) hn hyl hwy.1 (ht w hwm) ?_
      exact ⟨rfl, stepA k n (tb w) y, _, rfl, stepA_len, hwy.2, hrun⟩
  · rintro r s' ⟨rfl, y, x3, rfl, hyl, hwy, hrun⟩
    have e : (ws.map fun i => D.str (ch i)).length = ws.length := List.length_map ..
    rw [e, List.drop_length] at hrun
    repeat wtm_at "e"
    rw [show y = runA k n tb x ws from hrun]
    exact h
/-- what stands in the way of no question -/
structure Fine (k : FK T) (ps : List Nat) (n : Nat) (st en : List T) (tb : Nat → List (List T)) : Prop where
  ok : FKok k n
  lets : ps.length ≤ 4
  hst : st.length = n
  hen : en.length = n
  sq : ∀ i ∈ ps, Sq n (tb i)
  few : n ≤ 1000000
  ktb : ∀ i ∈ ps, ∀ r ∈ tb i, ∀ y ∈ r, k.ok y
  ken : ∀ y ∈ en, k.ok y
theorem q_state_after (F : Fine k ps n st en tb) (hw : ∀ w ∈ ws, w ∈ ps) (hl : ws.length ≤ 160) (hway : Way k n tb st ws) (h : Q (.tup ((runA k n tb st ws).map k.em)) s) : RP Q E (m_Machine_state_after [machD k ps n st en tb, .str (LS ws)] s) := by
  have hz : sizeLine = 16777216 := by decide
  have h4 := F.lets
  wtm_at "body"
  unfold b_Machine_state_after
  wtm_at "s"
  repeat wtm_at "e"
  refine q_need_word hw hl (by omega) ?_
  repeat wtm_at "e"
  refine ⟨_, _, _, rfl, rfl, rfl, ?_⟩
  repeat wtm_at "e"
  exact q_run F.ok F.sq F.few F.hst F.ktb hw hway (by omega) h
theorem q_value_of (F : Fine k ps n st en tb) (hw : ∀ w ∈ ws, w ∈ ps) (hl : ws.length ≤ 160) (hway : Way k n tb st ws) (h : Q (k.em (k.dot ((runA k n tb st ws).zip en))) s) : RP Q E (m_Machine_value_of [machD k ps n st en tb, .str (LS ws)] s) := by
  wtm_at "body"
  unfold b_Machine_value_of
  repeat wtm_at "e"
  refine ⟨_, _, _, rfl, rfl, rfl, ?_⟩
  repeat wtm_at "e"
  refine ⟨_, _, _, rfl, rfl, rfl, ?_⟩
  repeat wtm_at "e"
  refine q_state_after F hw hl hway ?_
  repeat wtm_at "e"
  wtm_at "body"
  unfold b_Machine_ended machD
  repeat wtm_at "e"
  exact q_dotF F.ok (xs := runA k n tb st ws) (ys := en) _ rfl rfl (runA_len ws st F.hst) F.hen (runA_ok ws st hway) F.ken h
end
end G

set_option Elab.async false
set_option linter.all false
set_option maxRecDepth 100000
set_option maxHeartbeats 4000000
namespace G
open Mp Pl
open PySem (Str sizeLine)
local macro_rules | `(tactic| wtm_at "e") => `(tactic| first
  | with_reducible refine w_set ?_
  | with_reducible refine w_bin ?_
  | ((with_reducible refine w_v (d := ?dv) ?hv ?_); (case hv => exact rfl))
  | with_reducible refine w_c ?_
  | with_reducible refine w_cons ?_
  | with_reducible refine w_nil ?_
  | with_reducible refine w_arg ?_
  | with_reducible refine w_call ?_
  | with_reducible refine w_if ?_
  | with_reducible refine w_ret ?_
  | with_reducible refine w_skip ?_
  | with_reducible refine w_bl ?_
  | with_reducible refine w_tru ?_
  | with_reducible refine w_attr ?_
  | with_reducible refine w_meth ?_
  | with_reducible refine w_chain ?_
  | with_reducible refine w_and ?_
  | with_reducible refine w_or ?_
  | with_reducible refine w_not ?_
  | with_reducible refine w_notT ?_
  | with_reducible refine w_andT ?_
  | with_reducible refine w_orT ?_
  | with_reducible refine w_ifM ?_
  | with_reducible refine w_expr ?_
  | with_reducible refine w_un ?_
  | with_reducible refine w_par2 ?_
  | with_reducible refine w_par3 ?_
  | with_reducible refine w_asg ?_
  | with_reducible refine w_aug ?_
  | with_reducible refine w_sub ?_
  | with_reducible refine w_fld ?_
  | with_reducible refine w_raise ?_
  | with_reducible refine w_raise0 ?_
  | with_reducible refine w_try ?_
  | with_reducible refine w_make ?_
  | with_reducible refine w_tryAs ?_
  | with_reducible refine w_exn ?_
  | ((with_reducible refine o_isx (b := ?bv) ?h1 ?_); (case h1 => exact rfl))
  | with_reducible refine w_superS ?_
  | with_reducible refine w_super ?_
  | with_reducible refine w_star ?_
  | with_reducible refine w_for0 ?_
  | with_reducible refine w_lc0 ?_
  | with_reducible refine w_seqI ?_
  | with_reducible refine w_argI ?_
  | with_reducible refine w_opt ?_
  | with_reducible refine w_sli ?_
  | with_reducible refine w_pure ?_
  | with_reducible refine w_disp ?_
  | with_reducible refine w_pairs1 ?_
  | with_reducible refine w_pairs0 ?_
  | with_reducible refine w_retN ?_
  | with_reducible refine w_cnt ?_
  | with_reducible refine w_brk ?_
  | with_reducible refine o_addI ?_
  | with_reducible refine o_addI' ?_
  | with_reducible refine o_sub ?_
  | with_reducible refine o_lt ?_
  | with_reducible refine o_le ?_
  | with_reducible refine o_gt ?_
  | with_reducible refine o_ge ?_
  | with_reducible refine o_eqI ?_
  | with_reducible refine o_neI ?_
  | with_reducible refine o_eqS ?_
  | with_reducible refine o_neS ?_
  | with_reducible refine o_int ?_
  | with_reducible refine o_intB ?_
  | with_reducible refine o_neg ?_
  | with_reducible refine o_abs ?_
  | with_reducible refine o_newL ?_
  | with_reducible refine o_max2 ?_
  | with_reducible refine o_min2 ?_
  | with_reducible refine o_lenL ?_
  | with_reducible refine o_lenT ?_
  | ((with_reducible refine o_tup ?hv ?_); (case hv => first | exact Nat.le_of_ble_eq_true rfl | assumption))
  | ((with_reducible refine o_lst ?hv ?_); (case hv => first | exact Nat.le_of_ble_eq_true rfl | assumption))
  | ((with_reducible refine o_isi (t := ?tv) (b := ?bv) ?h1 ?h2 ?_); (case h1 => exact rfl); (case h2 => exact rfl))
  | ((with_reducible refine o_fld (C := ?cv) (fs := ?fv) (d := ?dv) ?h1 ?h2 ?h3 ?_); (case h1 => exact rfl); (case h2 => exact rfl); (case h3 => exact rfl))
  | ((with_reducible refine Exists.intro ?kv (And.intro ?ha ?_)); (case ha => exact rfl)))
local macro_rules | `(tactic| wtm_at "body") => `(tactic| (refine w_body rfl rfl ?_; dsimp only [List.length_cons, List.length_nil, List.drop, List.append_nil, List.map_cons, List.map_nil, List.map, List.cons_append, List.nil_append, Nat.reduceAdd, Nat.reduceSub, List.replicate]))
local macro_rules | `(tactic| wtm_at "meth") => `(tactic| refine ⟨_, _, _, rfl, rfl, rfl, ?_⟩)
local macro_rules | `(tactic| wtm_at "w") => `(tactic| first | with_reducible refine w_seq ?_ | wtm_at "e")
local macro_rules | `(tactic| wtm_at "s") => `(tactic| ((repeat wtm_at "e"); (with_reducible refine w_seq ?_)))
local macro_rules | `(tactic| wtm_at "f") => `(tactic| ((repeat wtm_at "e"); (with_reducible show FP _ _)))
/-! letters and words drawn -/
theorem perm_erase {T : Type} : ∀ (l : List T) (k : Nat) (x : T), l[k]? = some x → (x :: l.eraseIdx k).Perm l
  | [], k, x, h => by simp at h
  | a :: l, 0, x, h => by
    simp at h
    subst h
    exact .refl _
  | a :: l, k + 1, x, h => by
    have h' : l[k]? = some x := by simpa using h
    exact (List.Perm.swap a x _).trans ((perm_erase l k x h').cons a)
theorem pen_set {s : Sto} {n c : Nat} {b : Int} {o : Option Ct} (h : Pen s n b) (hc : c ≠ n) : Pen (s.set c o) n b := by
  obtain ⟨cells, g, l, h1, h2⟩ := h
  exact ⟨cells, g, l, by rw [List.getElem?_set_ne hc]; exact h1, h2⟩
theorem fr_setNew {s s' : Sto} {n c : Nat} {o : Option Ct} (h : Fr n s s') (hc : s.length ≤ c) : Fr n s (s'.set c o) := by
  refine ⟨by rw [List.length_set]; exact h.1, fun i hi ne => ?_⟩
  rw [List.getElem?_set_ne (by omega)]
  exact h.2 i hi ne
theorem fr_app {s s' : Sto} {n : Nat} {o : List (Option Ct)} (h : Fr n s s') : Fr n s (s' ++ o) := by
  have hl := h.1
  refine ⟨by rw [List.length_append]; omega, fun i hi ne => ?_⟩
  rw [List.getElem?_append_left (by omega)]
  exact h.2 i hi ne
/-- the pen's frame, where the store may grow -/
structure PH (n : Nat) (s s' : Sto) (b : Int) : Prop where
  pen : Pen s' n b
  fr : Fr n s s'
theorem PH.of {n : Nat} {s : Sto} {b : Int} (h : Pen s n b) : PH n s s b := ⟨h, Fr.refl⟩
theorem PF.ph {n : Nat} {s s' : Sto} {b : Int} (h : PF n s s' b) : PH n s s' b := ⟨h.pen, h.fr⟩
theorem PH.go {n : Nat} {s s' s'' : Sto} {b c d : Int} (h : PH n s s' b) (p : PH n s' s'' c) (hd : c ≤ d) : PH n s s'' d := ⟨p.pen.mono hd, h.fr.trans p.fr⟩
theorem PH.mono {n : Nat} {s s' : Sto} {b c : Int} (h : PH n s s' b) (hb : b ≤ c) : PH n s s' c := ⟨h.pen.mono hb, h.fr⟩
theorem PH.app {n : Nat} {s s' : Sto} {b : Int} {o : Option Ct} (h : PH n s s' b) : PH n s (s' ++ [o]) b := ⟨h.pen.app o, fr_app h.fr⟩
theorem PH.set {n c : Nat} {s s' : Sto} {b : Int} {o : Option Ct} (h : PH n s s' b) (hc : s.length ≤ c) (hn : n < s.length) : PH n s (s'.set c o) b := ⟨pen_set h.pen (by omega), fr_setNew h.fr hc⟩
section
variable {n : Nat} {b : Int} {s : Sto} {Q : D → Sto → Prop} {E : XT}
theorem o_neNilC {c : Nat} {l : List Int} (hs : s[c]? = some (some (.lst (l.map .int)))) (h : Q (.bl (!l.isEmpty)) s) : RP Q E (neD (.cel c) (.lst []) s) := by
  have e : neD (.cel c) (.lst []) s = neD (.lst (l.map .int)) (.lst []) s := by
    show eqG true (.cel c) (.lst []) s = _
    unfold eqG
    dsimp only
    rw [hs]
    rfl
  rw [e]
  exact o_neNil h
theorem q_shuffled {ns : List Int} (p : Pen s n b) (hb : b + ns.length ≤ 1000000000) (hl : ns.length ≤ 1000) (h : ∀ (ms : List Int) (c : Nat) s', ms.Perm ns → s'[c]? = some (some (.lst (ms.map .int))) → s.length ≤ c → PH n s s' (b + ns.length) → Q (.cel c) s') :
    RP Q E (m__law_shuffled [.cel n, .lst (ns.map .int)] s) := by
  have hz : sizeLine = 16777216 := by decide
  have hn := p.lt
  wtm_at "body"
  unfold b__law_shuffled
  wtm_at "s"
  repeat wtm_at "e"
  refine RP.of (a := .cel s.length) (s' := s ++ [some (.lst (ns.map .int))]) rfl ?_
  repeat wtm_at "e"
  refine o_lstC (by decide) ?_
  repeat wtm_at "e"
  refine ⟨_, _, rfl, ?_⟩
  wtm_at "s"
  have el : (s ++ [some (Ct.lst (ns.map .int))]).length = s.length + 1 := by simp
  refine w_while (fun m r s' => ∃ rest found : List Int, r = [some (.cel n), some (.lst (ns.map .int)), some (.cel s.length), some (.cel (s.length + 1))] ∧ s'[s.length]? = some (some (.lst (rest.map .int))) ∧ s'[s.length + 1]? = some (some (.lst (found.map .int))) ∧ (found ++ rest).Perm ns ∧ rest.length = m ∧ PH n s s' (b + found.length)) ?_ ns.length _ _
    ⟨ns, [], by rw [el]; rfl, by rw [List.getElem?_append_left (by simp), List.getElem?_append_right (Nat.le_refl _)]; simp, by rw [List.getElem?_append_right (by rw [el]; exact Nat.le_refl _), el]; simp, .refl _, rfl, by simpa using ((PH.of p).app).app⟩
  rintro m r s' ⟨rest, found, rfl, h1, h2, hp, hm, ph⟩
  have hfl : found.length + rest.length = ns.length := by
    have := hp.length_eq
    rw [List.length_append] at this
    exact this
  repeat wtm_at "e"
  refine o_neNilC h1 ?_
  repeat wtm_at "e"
  refine ⟨fun hk => ?_, fun hk => ?_⟩
  · have h0 : 0 < rest.length := by
      cases rest with
      | nil => cases hk
      | cons a r => simp
    have t1 : isLstD s' (.cel (s.length + 1)) = true := by
      unfold isLstD lstOf lstX
      dsimp only
      rw [h2]
      rfl
    have t2 : isLstD s' (.cel s.length) = true := by
      unfold isLstD lstOf lstX
      dsimp only
      rw [h1]
      rfl
    repeat wtm_at "e"
    refine w_bm ?_
    repeat wtm_at "e"
    refine ⟨t1, ?_⟩
    repeat wtm_at "e"
    refine w_bm ?_
    repeat wtm_at "e"
    refine ⟨t2, ?_⟩
    repeat wtm_at "e"
    refine o_len (l := rest.map .int) (fun z => (by intro q; cases q)) (by show lstOf s' (.cel s.length) = _; unfold lstOf lstX; dsimp only; rw [h1]) ?_
    rw [List.length_map]
    repeat wtm_at "e"
    refine q_draw ph.pen (by omega) (by omega) (by omega) fun k s2 hk0 hk1 p2 f2 l2 => ?_
    have hlt : k.toNat < rest.length := by omega
    have g1 : s2[s.length]? = some (some (.lst (rest.map .int))) := by
      rw [f2.2 s.length (by have := (List.getElem?_eq_some_iff.mp h1).1; omega) (by omega)]
      exact h1
    have g2 : s2[s.length + 1]? = some (some (.lst (found.map .int))) := by
      rw [f2.2 (s.length + 1) (by have := (List.getElem?_eq_some_iff.mp h2).1; omega) (by omega)]
      exact h2
    repeat wtm_at "e"
    refine o_pop (k := k.toNat) (d := .int (rest[k.toNat])) g1 (by omega) (by rw [List.getElem?_map, List.getElem?_eq_getElem hlt]; rfl) (by rw [List.length_map]; omega) ?_
    repeat wtm_at "e"
    refine o_app (l := found.map .int) (by rw [List.getElem?_set_ne (by omega)]; exact g2) (by rw [List.length_map]; omega) ?_
    have ee : (rest.map D.int).eraseIdx k.toNat = (rest.eraseIdx k.toNat).map .int := by
      rw [List.eraseIdx_eq_take_drop_succ, List.eraseIdx_eq_take_drop_succ, List.map_append, List.map_take, List.map_drop]
    have c1 : s.length < s2.length := (List.getElem?_eq_some_iff.mp g1).1
    have c2 : s.length + 1 < s2.length := (List.getElem?_eq_some_iff.mp g2).1
    refine ⟨rest.length - 1, by omega, rest.eraseIdx k.toNat, found ++ [rest[k.toNat]], rfl, ?_, ?_, ?_, ?_, ?_⟩
    · rw [List.getElem?_set_ne (by omega), List.getElem?_set_self c1, ee]
    · rw [List.getElem?_set_self (by rw [List.length_set]; exact c2), List.map_append]
      rfl
    · refine List.Perm.trans ?_ hp
      rw [List.append_assoc]
      exact List.Perm.append_left found (perm_erase rest k.toNat _ (List.getElem?_eq_getElem hlt))
    · rw [List.length_eraseIdx, if_pos hlt]
    · have q : PH n s s2 (b + found.length + 1) := ph.go ⟨p2, f2⟩ (Int.le_refl _)
      rw [List.length_append]
      exact ((q.set (Nat.le_refl _) hn).set (Nat.le_succ _) hn).mono (by simp; omega)
  · have h0 : rest = [] := by
      cases rest with
      | nil => rfl
      | cons a r => cases hk
    subst h0
    repeat wtm_at "e"
    rw [List.append_nil] at hp
    exact h found (s.length + 1) s' hp h2 (Nat.le_succ _) (ph.mono (by rw [hp.length_eq]; exact Int.le_refl _))
theorem intL_map (m : Nat) : intL 0 m = ((List.range m).map fun k => ((k : Nat) : Int)).map .int := by
  unfold intL
  rw [List.map_map]
  apply List.map_congr_left
  intro k _
  show D.int (0 + (k : Nat)) = D.int (k : Nat)
  rw [Int.zero_add]
theorem sorted_lets {ms ns : List Int} {m : Nat} (hp : ms.Perm ((List.range 26).map fun k => ((k : Nat) : Int))) (h1 : 1 ≤ m) (h2 : m ≤ 4) (he : ns = (ms.take m).mergeSort leI2) : ∃ ps : List Nat, Lets ps ∧ ps.length ≤ m ∧ ns = ps.map fun k => ((k : Nat) : Int) := by
  have hlen : ms.length = 26 := by rw [hp.length_eq]; simp
  have pm : ns.Perm (ms.take m) := by rw [he]; exact List.mergeSort_perm _ _
  have hmem : ∀ z ∈ ns, ∃ k : Nat, k < 26 ∧ z = k := fun z hz => by
    have a1 := (List.take_subset _ _) (pm.mem_iff.mp hz)
    have a2 := hp.mem_iff.mp a1
    obtain ⟨k, hk, rfl⟩ := List.mem_map.mp a2
    exact ⟨k, List.mem_range.mp hk, rfl⟩
  have nd : ns.Nodup := by
    have a0 : ((List.range 26).map fun k => ((k : Nat) : Int)).Nodup := by decide
    have a1 : ms.Nodup := hp.nodup_iff.mpr a0
    have a2 : (ms.take m).Nodup := a1.sublist (List.take_sublist _ _)
    exact pm.nodup_iff.mpr a2
  have as : ns.Pairwise (· < ·) := by
    have q := List.pairwise_mergeSort (le := leI2) (fun a b c h k => by simp only [leI2, decide_eq_true_eq] at *; omega) (fun a b => by simp only [leI2, Bool.or_eq_true, decide_eq_true_eq]; omega) (ms.take m)
    rw [← he] at q
    refine List.Pairwise.imp₂ (fun a b h1 h2 => ?_) q nd
    have h1 := of_decide_eq_true h1
    omega
  have eq : ns = (ns.map Int.toNat).map fun k => ((k : Nat) : Int) := by
    rw [List.map_map]
    conv => lhs; rw [← List.map_id ns]
    apply List.map_congr_left
    intro z hz
    obtain ⟨k, _, rfl⟩ := hmem z hz
    rfl
  have nl : ns.length = m := by rw [pm.length_eq, List.length_take, hlen]; omega
  refine ⟨ns.map Int.toNat, ⟨by rw [List.length_map]; omega, by rw [List.length_map]; omega, fun i hi => ?_, ?_⟩, by rw [List.length_map]; omega, eq⟩
  · obtain ⟨z, hz, rfl⟩ := List.mem_map.mp hi
    obtain ⟨k, hk, rfl⟩ := hmem z hz
    exact hk
  · rw [List.pairwise_map]
    refine as.imp_of_mem fun {a b} ha hb hab => ?_
    obtain ⟨k, _, rfl⟩ := hmem a ha
    obtain ⟨j, _, rfl⟩ := hmem b hb
    show k < j
    omega
theorem q_letters {m : Int} (p : Pen s n b) (hb : b + 30 ≤ 1000000000) (h1 : 1 ≤ m) (h2 : m ≤ 4) (h : ∀ (ps : List Nat) s', Lets ps → PH n s s' (b + 27) → Q (.str (LS ps)) s') : RP Q E (m__law_letters [.cel n, .int m] s) := by
  have hz : sizeLine = 16777216 := by decide
  wtm_at "body"
  unfold b__law_letters
  wtm_at "s"
  repeat wtm_at "e"
  refine w_listRg (k := 26) ?_
  repeat wtm_at "e"
  refine ⟨rfl, by decide, by decide, ?_⟩
  repeat wtm_at "e"
  rw [intL_map]
  refine q_shuffled p (by simp; omega) (by simp) fun ms c s1 hp hc hcl ph => ?_
  have ph : PH n s s1 (b + 26) := ph.mono (by simp)
  repeat wtm_at "e"
  refine q_draw ph.pen (by omega) (by omega) (by omega) fun k s2 hk0 hk1 p2 f2 l2 => ?_
  have hcn : c ≠ n := by
    have := p.lt
    omega
  have g2 : s2[c]? = some (some (.lst (ms.map .int))) := by
    rw [f2.2 c (List.getElem?_eq_some_iff.mp hc).1 hcn]
    exact hc
  repeat wtm_at "e"
  have es : sliD false (.cel c) none (some (1 + k)) s2 = .ok (.lst ((ms.take (1 + k).toNat).map .int)) s2 := by
    unfold sliD
    dsimp only
    have e0 : lstOf s2 (.cel c) = some (ms.map .int) := by
      unfold lstOf lstX
      dsimp only
      rw [g2]
    rw [e0]
    dsimp only
    rw [cut_take (by omega), ← List.map_take]
    rfl
  refine RP.of es ?_
  repeat wtm_at "e"
  refine o_sortedI (ns := ms.take (1 + k).toNat) rfl rfl ?_
  obtain ⟨ps, lt, hpl, eps⟩ := sorted_lets (m := (1 + k).toNat) hp (by omega) (by omega) rfl
  rw [eps]
  repeat wtm_at "e"
  refine w_bm ?_
  repeat wtm_at "e"
  refine ⟨rfl, ?_⟩
  repeat wtm_at "e"
  rw [List.map_map]
  have h4 := lt.few
  refine w_lcX ps (fun i => .int ((i : Nat) : Int)) (fun i => .str (ch i)) rfl rfl (by omega) (fun i hi => ⟨_, rfl, ?_⟩) ?_
  · repeat wtm_at "e"
    have hi := lt.lt i hi
    rw [abc]
    exact idx_LS (k := i) (p := i) (by decide) rfl (by rw [List.getElem?_eq_getElem (by simpa using hi)]; simp) ⟨rfl, rfl⟩
  · repeat wtm_at "e"
    have e3 : (ps.map fun i => D.str (ch i)) = (ps.map ch).map .str := by rw [List.map_map]; rfl
    rw [e3]
    refine o_join (ys := ps.map ch) rfl (by rw [LS_joinlen, List.length_map]; show ps.length + ps.length * 0 ≤ 16777216; omega) ?_
    rw [LS_join]
    exact h ps s2 lt (ph.go ⟨p2, f2⟩ (by omega))
theorem q_pickS {ps : List Nat} (p : Pen s n b) (hb : b ≤ 1000000000) (h0 : 0 < ps.length) (h1 : ps.length < 1000000) (h : ∀ i s', i ∈ ps → PF n s s' (b + 1) → Q (.str (ch i)) s') : RP Q E (m__law_pick [.cel n, .str (LS ps)] s) := by
  have hz : sizeLine = 16777216 := by decide
  wtm_at "body"
  unfold b__law_pick
  repeat wtm_at "w"
  refine o_lenS (by rw [LS_len]; omega) ?_
  rw [LS_len]
  repeat wtm_at "w"
  refine q_draw p hb (by omega) (by omega) fun k s' hk hk1 p' f' e' => ?_
  have hlt : k.toNat < ps.length := by omega
  refine idx_LS (k := k.toNat) (p := ps[k.toNat]) (by omega) (by omega) (List.getElem?_eq_getElem hlt) ?_
  exact h _ _ (List.getElem_mem hlt) ⟨p', f', e'⟩
theorem q_word {ps : List Nat} {m : Int} (p : Pen s n b) (hb : b + m + 2 ≤ 1000000000) (h0 : 0 < ps.length) (h1 : ps.length < 1000000) (hm : 0 ≤ m) (hm2 : m ≤ 1000) (h : ∀ (ws : List Nat) s', (ws.length : Int) ≤ m → (∀ w ∈ ws, w ∈ ps) → PF n s s' (b + m + 1) → Q (.str (LS ws)) s') :
    RP Q E (m__law_word [.cel n, .str (LS ps), .int m] s) := by
  have hz : sizeLine = 16777216 := by decide
  wtm_at "body"
  unfold b__law_word
  repeat wtm_at "e"
  refine w_bm ?_
  repeat wtm_at "e"
  refine ⟨rfl, ?_⟩
  repeat wtm_at "e"
  refine q_draw p (by omega) (by omega) (by omega) fun k s1 hk0 hk1 p1 f1 l1 => ?_
  repeat wtm_at "e"
  refine w_range1 (by omega) (by omega) ?_
  have pf1 : PF n s s1 (b + 1) := ⟨p1, f1, l1⟩
  refine w_lc (fun i l s' => ∃ ws : List Nat, l = (ws.map ch).map .str ∧ ws.length = i ∧ i ≤ k.toNat ∧ (∀ w ∈ ws, w ∈ ps) ∧ PF n s s' (b + 1 + i)) rfl ⟨[], rfl, rfl, Nat.zero_le _, fun _ z => (by cases z), pf1.mono (by omega)⟩ ?_ ?_
  · rintro i d l s' hd ⟨ws, rfl, hwl, hik, hw, pf⟩
    obtain ⟨hi, rfl⟩ := intL_get hd
    refine ⟨_, rfl, fun _ => ?_, fun z => (by cases z)⟩
    repeat wtm_at "e"
    refine q_pickS pf.pen (by omega) h0 h1 fun j s2 hj pf2 => ?_
    refine ⟨by rw [List.length_map, List.length_map]; omega, ws ++ [j], by simp, by simp [hwl], hi, fun w hwm => ?_, pf.go' pf2 (by omega)⟩
    rcases List.mem_append.mp hwm with hwm | hwm
    · exact hw w hwm
    · simp at hwm
      rw [hwm]
      exact hj
  · rintro l s' ⟨ws, rfl, hwl, hik, hw, pf⟩
    rw [intL_len] at hwl pf
    repeat wtm_at "e"
    refine o_join (ys := ws.map ch) rfl (by rw [LS_joinlen, List.length_map]; show ws.length + ws.length * 0 ≤ 16777216; omega) ?_
    rw [LS_join]
    exact h ws s' (by omega) hw (pf.mono (by omega))
end
/-! bounds of machines of small fractions; whole numbers -/
/-- a sixth, small -/
def Sm (q : Rat) : Prop := ∃ u : Int, q = Rat.divInt u 6 ∧ u.natAbs ≤ 23
/-- behind k letters -/
def Nice (k : Nat) (q : Rat) : Prop := ∃ t : Int, q = Rat.divInt t (6 ^ (k + 1)) ∧ t.natAbs ≤ 69 ^ (k + 1)
theorem six_ne (k : Nat) : (6 : Int) ^ k ≠ 0 := Int.pow_ne_zero (by decide)
theorem Sm.nice {q : Rat} (h : Sm q) : Nice 0 q := by
  obtain ⟨u, e, hu⟩ := h
  exact ⟨u, e, by omega⟩
theorem Nice.sz {k : Nat} {q : Rat} (h : Nice k q) (hk : k ≤ 13) : Sz 100 q := by
  obtain ⟨t, e, ht⟩ := h
  have hd := divInt_sz (t := t) (six_ne (k + 1))
  rw [← e] at hd
  have h1 : 69 ^ (k + 1) ≤ 69 ^ 14 := Nat.pow_le_pow_right (by decide) (by omega)
  have h2 : ((6 : Int) ^ (k + 1)).natAbs ≤ 6 ^ 14 := by
    rw [Int.natAbs_pow]
    exact Nat.pow_le_pow_right (by decide) (by omega)
  constructor
  · exact Nat.lt_of_le_of_lt (Nat.le_trans hd.1 (Nat.le_trans ht h1)) (by decide)
  · exact Nat.lt_of_le_of_lt (Nat.le_trans hd.2 h2) (by decide)
theorem Sm.sz {q : Rat} (h : Sm q) : Sz 100 q := h.nice.sz (by decide)
theorem add_same {t u d : Int} (hd : d ≠ 0) : Rat.divInt t d + Rat.divInt u d = Rat.divInt (t + u) d := by
  have h := divInt_step1 (t := t) (b := d) (m := d) (u := u) hd hd (Int.dvd_refl d)
  rw [Int.ediv_self hd, Int.mul_one] at h
  exact h.symm
theorem nice_mul {k : Nat} {x y : Rat} (hx : Nice k x) (hy : Sm y) : ∃ t : Int, x * y = Rat.divInt t (6 ^ (k + 2)) ∧ t.natAbs ≤ 23 * 69 ^ (k + 1) := by
  obtain ⟨a, rfl, ha⟩ := hx
  obtain ⟨u, rfl, hu⟩ := hy
  refine ⟨a * u, by rw [Rat.divInt_mul_divInt, ← Int.pow_succ], ?_⟩
  rw [Int.natAbs_mul, Nat.mul_comm]
  exact Nat.mul_le_mul hu ha
theorem nice_dot {k : Nat} {Z : List (Rat × Rat)} (h : ∀ p ∈ Z, Nice k p.1 ∧ Sm p.2) : ∀ i, i ≤ Z.length → ∃ t : Int, dotP (Z.take i) = Rat.divInt t (6 ^ (k + 2)) ∧ t.natAbs ≤ i * (23 * 69 ^ (k + 1))
  | 0, _ => ⟨0, by rw [List.take_zero]; show (0 : Rat) = _; rw [Rat.zero_divInt], by simp⟩
  | i + 1, hi => by
    obtain ⟨t, e, ht⟩ := nice_dot h i (by omega)
    have hz : Z[i]? = some Z[i] := List.getElem?_eq_getElem (by omega)
    obtain ⟨h1, h2⟩ := h Z[i] (List.getElem_mem (by omega))
    obtain ⟨u, eu, hu⟩ := nice_mul h1 h2
    refine ⟨t + u, by rw [dotP_take hz, e, eu, add_same (six_ne _)], ?_⟩
    refine Nat.le_trans (Int.natAbs_add_le ..) ?_
    rw [Nat.succ_mul]
    omega
theorem nice_step {k : Nat} {Z : List (Rat × Rat)} (h : ∀ p ∈ Z, Nice k p.1 ∧ Sm p.2) (hl : Z.length ≤ 3) : Nice (k + 1) (dotP Z) := by
  obtain ⟨t, e, ht⟩ := nice_dot h Z.length (Nat.le_refl _)
  rw [List.take_length] at e
  refine ⟨t, e, Nat.le_trans ht ?_⟩
  rw [show 69 ^ (k + 1 + 1) = 3 * (23 * 69 ^ (k + 1)) by rw [Nat.pow_succ 69 (k + 1)]; omega]
  exact Nat.mul_le_mul_right _ hl
/-- the fractions -/
def FQ : FK Rat := ⟨fF, qD, dotP, Sz 100, Sz 100⟩
/-- the integers modulo a prime -/
def FM (p : Int) : FK Int := ⟨fM p, rD p, dotZ, fun _ => True, fun _ => True⟩
theorem FM_ok {p : Int} {n : Nat} (hp : 2 ≤ p) (hp2 : p ≤ 1000000000) : FKok (FM p) n where
  cls := ⟨.int p, rfl, fun xs ys s Q E lx ly hx hy h => q_mdot hp hp2 h⟩
  num := fun x s Q E hx h => q_is_numberM hp2 (by
    have h1 := Int.emod_nonneg x (show p ≠ 0 by omega)
    have h2 := Int.emod_lt_of_pos x (show 0 < p by omega)
    rw [decide_eq_true h1, decide_eq_true (show x % p ≤ p - 1 by omega)]
    exact h)
section
variable {n : Nat} {tb : Nat → List (List Rat)} {x : List Rat}
theorem step_nice {k : Nat} {rows : List (List Rat)} (hn : n ≤ 3) (hs : Sq n rows) (hr : ∀ r ∈ rows, ∀ y ∈ r, Sm y) (hx : ∀ y ∈ x, Nice k y) : ∀ y ∈ stepA FQ n rows x, Nice (k + 1) y := by
  intro y hy
  obtain ⟨c, hc, rfl⟩ := List.mem_map.mp hy
  have hcl := (colsA_sq hs).row c hc
  refine nice_step (fun p hp => ?_) (by rw [List.length_zip]; omega)
  have hm := List.of_mem_zip (show (p.1, p.2) ∈ x.zip c from hp)
  obtain ⟨r, hr1, hr2⟩ := colsA_mem hs hc hm.2
  exact ⟨hx _ hm.1, hr r hr1 _ hr2⟩
theorem way_nice {ps : List Nat} (hn : n ≤ 3) (hs : ∀ i ∈ ps, Sq n (tb i)) (hr : ∀ i ∈ ps, ∀ r ∈ tb i, ∀ y ∈ r, Sm y) : ∀ (ws : List Nat) (k : Nat) (x : List Rat), (∀ w ∈ ws, w ∈ ps) → k + ws.length ≤ 13 → (∀ y ∈ x, Nice k y) → Way FQ n tb x ws
  | [], k, x, _, hk, hx => fun y hy => (hx y hy).sz (by simpa using hk)
  | w :: ws, k, x, hw, hk, hx => by
    simp only [List.length_cons] at hk
    have hwm := hw w List.mem_cons_self
    exact ⟨fun y hy => (hx y hy).sz (by omega), way_nice hn hs hr ws (k + 1) _ (fun v hv => hw v (List.mem_cons_of_mem _ hv)) (by omega) (step_nice hn (hs w hwm) (hr w hwm) hx)⟩
theorem run_nice {ps : List Nat} (hn : n ≤ 3) (hs : ∀ i ∈ ps, Sq n (tb i)) (hr : ∀ i ∈ ps, ∀ r ∈ tb i, ∀ y ∈ r, Sm y) : ∀ (ws : List Nat) (k : Nat) (x : List Rat), (∀ w ∈ ws, w ∈ ps) → (∀ y ∈ x, Nice k y) → ∀ y ∈ runA FQ n tb x ws, Nice (k + ws.length) y
  | [], k, x, _, hx => hx
  | w :: ws, k, x, hw, hx => by
    have hwm := hw w List.mem_cons_self
    have h := run_nice hn hs hr ws (k + 1) _ (fun v hv => hw v (List.mem_cons_of_mem _ hv)) (step_nice hn (hs w hwm) (hr w hwm) hx)
    rw [List.length_cons, Nat.add_comm ws.length, ← Nat.add_assoc]
    exact h
end
/-! whole numbers -/
def toQ (z : Int) : Rat := Rat.divInt z 1
theorem toQ_D (z : Int) : qD (toQ z) = .int z := qD_whole z
theorem toQ_add (a b : Int) : toQ a + toQ b = toQ (a + b) := add_same (by decide)
theorem toQ_mul (a b : Int) : toQ a * toQ b = toQ (a * b) := by
  unfold toQ
  rw [Rat.divInt_mul_divInt]
  rfl
theorem toQ_sm {z : Int} (h : z.natAbs ≤ 3) : Sm (toQ z) := by
  refine ⟨6 * z, ?_, by omega⟩
  unfold toQ
  rw [Rat.divInt_eq_divInt_iff (by decide) (by decide)]
  omega
theorem dot_toQ (Z : List (Int × Int)) : ∀ i, i ≤ Z.length → dotP ((Z.map fun p => (toQ p.1, toQ p.2)).take i) = toQ (dotZ (Z.take i))
  | 0, _ => by rw [List.take_zero, List.take_zero]; rfl
  | i + 1, hi => by
    have hz : Z[i]? = some Z[i] := List.getElem?_eq_getElem (by omega)
    rw [dotZ_take hz, dotP_take (p := (toQ Z[i].1, toQ Z[i].2)) (by rw [List.getElem?_map, hz]; rfl), dot_toQ Z i (by omega), toQ_mul, toQ_add]
theorem dot_toQ' (xs ys : List Int) : dotP ((xs.map toQ).zip (ys.map toQ)) = toQ (dotZ (xs.zip ys)) := by
  have h := dot_toQ (xs.zip ys) (xs.zip ys).length (Nat.le_refl _)
  have e : ((xs.map toQ).zip (ys.map toQ)) = (xs.zip ys).map fun p => (toQ p.1, toQ p.2) := by
    rw [List.zip_map]
    rfl
  rw [e]
  rw [List.take_length, show (xs.zip ys).length = ((xs.zip ys).map fun p => (toQ p.1, toQ p.2)).length by rw [List.length_map], List.take_length] at h
  exact h
abbrev tbQ (tb : Nat → List (List Int)) : Nat → List (List Rat) := fun i => (tb i).map fun r => r.map toQ
theorem sq_toQ {n : Nat} {rows : List (List Int)} (h : Sq n rows) : Sq n (rows.map fun r => r.map toQ) := by
  refine ⟨by rw [List.length_map]; exact h.len, fun r hr => ?_⟩
  obtain ⟨r0, h0, rfl⟩ := List.mem_map.mp hr
  rw [List.length_map]
  exact h.row r0 h0
theorem cols_toQ {n : Nat} {rows : List (List Int)} (h : Sq n rows) : colsA n (rows.map fun r => r.map toQ) = (colsA n rows).map fun c => c.map toQ := by
  unfold colsA
  rw [List.map_map]
  apply List.map_congr_left
  intro j hj
  have hj := List.mem_range.mp hj
  show List.map _ (List.map _ rows) = List.map _ (List.map _ rows)
  rw [List.map_map, List.map_map]
  apply List.map_congr_left
  intro r hr
  have hl := h.row r hr
  have hj' : j < r.length := by omega
  show (r.map toQ).getD j default = toQ (r.getD j default)
  rw [List.getD_eq_getElem?_getD, List.getD_eq_getElem?_getD, List.getElem?_map, List.getElem?_eq_getElem hj']
  rfl
theorem step_toQ {p : Int} {n : Nat} {rows : List (List Int)} {x : List Int} (h : Sq n rows) : stepA FQ n (rows.map fun r => r.map toQ) (x.map toQ) = (stepA (FM p) n rows x).map toQ := by
  unfold stepA
  rw [cols_toQ h, List.map_map, List.map_map]
  apply List.map_congr_left
  intro c _
  exact dot_toQ' x c
theorem run_toQ {p : Int} {n : Nat} {tb : Nat → List (List Int)} {ps : List Nat} (h : ∀ i ∈ ps, Sq n (tb i)) : ∀ (ws : List Nat) (x : List Int), (∀ w ∈ ws, w ∈ ps) → runA FQ n (tbQ tb) (x.map toQ) ws = (runA (FM p) n tb x ws).map toQ
  | [], x, _ => rfl
  | w :: ws, x, hw => by
    show runA FQ n (tbQ tb) (stepA FQ n ((tb w).map fun r => r.map toQ) (x.map toQ)) ws = _
    rw [step_toQ (p := p) (h w (hw w List.mem_cons_self))]
    exact run_toQ h ws _ fun v hv => hw v (List.mem_cons_of_mem _ hv)
theorem wayM {p : Int} {n : Nat} {tb : Nat → List (List Int)} : ∀ (ws : List Nat) (x : List Int), Way (FM p) n tb x ws
  | [], _ => fun _ _ => trivial
  | w :: ws, x => ⟨fun _ _ => trivial, wayM ws _⟩
/-! repr of things -/
open PySem (PyData) in
def RO (s : Sto) (d : D) : Prop := ∃ p, rdP s 99 d = some p ∧ p.showable = true ∧ p.depth < 60 ∧ p.shown.length ≤ sizeLine
noncomputable def rpT (s : Sto) (d : D) : Str := match rdP s 99 d with
  | some p => p.shown
  | none => ""
section
variable {s : Sto} {Q : D → Sto → Prop} {E : XT} {d : D}
open PySem (PyData)
theorem o_reprX (h1 : RO s d) (h : Q (.str (rpT s d)) s) : RP Q E (reprX [d] s) := by
  obtain ⟨p, e, h2, h3, h4⟩ := h1
  unfold rpT at h
  rw [e] at h
  unfold reprX
  dsimp only
  rw [e]
  dsimp only
  rw [if_pos ⟨h2, h3, h4⟩]
  exact h
def Flat (d : D) : Prop := d = .non ∨ (∃ b, d = .bl b) ∨ (∃ i : Int, d = .int i ∧ i.natAbs < 2 ^ 1000) ∨ ∃ z, d = .str z ∧ (PySem.reprText z).length ≤ 600
theorem flat_rd (h : Flat d) (n : Nat) : ∃ p, rdP s (n + 1) d = some p ∧ p.showable = true ∧ p.hasDict = false ∧ p.depth = 0 ∧ wt p ≤ 600 := by
  rcases h with rfl | ⟨b, rfl⟩ | ⟨i, rfl, hi⟩ | ⟨z, rfl, hz⟩
  · exact ⟨.none, by simp only [rdP], rfl, rfl, rfl, by show 4 ≤ 600; decide⟩
  · exact ⟨.bool b, by simp only [rdP], rfl, rfl, rfl, by show 5 ≤ 600; decide⟩
  · exact ⟨.int i, by simp only [rdP], decide_eq_true (Nat.lt_of_lt_of_le (log_of hi (by decide)) (by decide)), rfl, rfl, by show 600 ≤ 600; decide⟩
  · exact ⟨.str z, by simp only [rdP], rfl, rfl, rfl, hz⟩
theorem flats_rd : ∀ (l : List D) (n : Nat), (∀ d ∈ l, Flat d) → l.length < n → ∃ ps, rdPs s (n + 1) l = some ps ∧ PyData.showableAll ps = true ∧ PyData.hasDictAll ps = false ∧ PyData.depthAll ps = 0 ∧ wtAll ps ≤ 602 * l.length
  | [], n, _, _ => ⟨[], by simp only [rdPs], rfl, rfl, rfl, by show 0 ≤ 602 * 0; decide⟩
  | d :: l, 0, _, hn => by simp at hn
  | d :: l, n + 1, h, hn => by
    obtain ⟨p, e1, a1, a2, a3, a4⟩ := flat_rd (s := s) (h d (by simp)) n
    obtain ⟨ps, e2, b1, b2, b3, b4⟩ := flats_rd l n (fun x hx => h x (by simp [hx])) (by simpa using hn)
    refine ⟨p :: ps, ?_, ?_, ?_, ?_, ?_⟩
    · simp only [rdPs, e1, e2]
      rfl
    · rw [PyData.showableAll, a1, b1]
      rfl
    · rw [PyData.hasDictAll, a2, b2]
      rfl
    · rw [PyData.depthAll, a3, b3]
      rfl
    · rw [wtAll, List.length_cons]
      omega
theorem ro_of {p : PyData} (e : rdP s 99 d = some p) (h1 : p.showable = true) (h2 : p.hasDict = false) (h3 : p.depth < 60) (h4 : wt p ≤ 100000) : RO s d :=
  ⟨p, e, h1, h3, Nat.le_trans (shown_len p h1 h2) (Nat.le_trans h4 (by decide))⟩
theorem ro_flat (h : Flat d) : RO s d := by
  obtain ⟨p, e, h1, h2, h3, h4⟩ := flat_rd (s := s) h 98
  exact ro_of e h1 h2 (by omega) (by omega)
theorem ro_tup {l : List D} (h : ∀ d ∈ l, Flat d) (hl : l.length ≤ 50) : RO s (.tup l) := by
  obtain ⟨ps, e, h1, h2, h3, h4⟩ := flats_rd (s := s) l 97 h (by omega)
  refine ro_of (p := .tuple ps) (by simp only [rdP, e]; rfl) (by rw [PyData.showable]; exact h1) (by rw [PyData.hasDict]; exact h2) (by rw [PyData.depth]; omega) ?_
  rw [wt]
  omega
theorem ro_lst {l : List D} (h : ∀ d ∈ l, Flat d) (hl : l.length ≤ 50) : RO s (.lst l) := by
  obtain ⟨ps, e, h1, h2, h3, h4⟩ := flats_rd (s := s) l 97 h (by omega)
  refine ro_of (p := .list ps) (by simp only [rdP, e]; rfl) (by rw [PyData.showable]; exact h1) (by rw [PyData.hasDict]; exact h2) (by rw [PyData.depth]; omega) ?_
  rw [wt]
  omega
theorem ro_tt {l : List D} (h : ∀ d ∈ l, Flat d) (hl : l.length ≤ 50) : RO s (.tup [.tup l, .int 2]) := by
  obtain ⟨ps, e, h1, h2, h3, h4⟩ := flats_rd (s := s) l 95 h (by omega)
  refine ro_of (p := .tuple [.tuple ps, .int 2]) (by simp only [rdP, rdPs, e]; rfl) ?_ ?_ ?_ ?_
  · rw [PyData.showable, PyData.showableAll, PyData.showable, h1]
    decide +kernel
  · rw [PyData.hasDict, PyData.hasDictAll, PyData.hasDict, h2]
    rfl
  · rw [PyData.depth, PyData.depthAll, PyData.depth, h3]
    decide +kernel
  · show (wtAll ps + 4) + 2 + (600 + 2 + 0) + 4 ≤ 100000
    omega
theorem ro_d0 {k : Nat} (h : s[k]? = some (some (.dct []))) : RO s (.cel k) := by
  refine ⟨.dict [], ?_, by decide +kernel, by decide +kernel, by decide +kernel⟩
  simp only [rdP, h, List.map_nil, rdPs]
  rfl
theorem ro_d1 {k : Nat} (h : s[k]? = some (some (.dct [(.inr "a", .int 1)]))) : RO s (.cel k) := by
  refine ⟨.dict [(.str "a", .int 1)], ?_, by decide +kernel, by decide +kernel, by decide +kernel⟩
  simp only [rdP, h, List.map_cons, List.map_nil, rdPs]
  rfl
theorem flatI {i : Int} (h : i.natAbs < 2 ^ 1000) : Flat (.int i) := .inr (.inr (.inl ⟨i, rfl, h⟩))
theorem flatB {b : Bool} : Flat (.bl b) := .inr (.inl ⟨b, rfl⟩)
theorem flatS {z : Str} (h : (PySem.reprText z).length ≤ 600) : Flat (.str z) := .inr (.inr (.inr ⟨z, rfl, h⟩))
theorem flats2 {a b : D} (ha : Flat a) (hb : Flat b) : ∀ d ∈ [a, b], Flat d := by
  simp only [List.mem_cons, List.not_mem_nil, or_false]
  rintro d (rfl | rfl)
  · exact ha
  · exact hb
end
end G

set_option Elab.async false
set_option linter.all false
set_option maxRecDepth 100000
set_option maxHeartbeats 4000000
namespace G
open Mp Pl
open PySem (Str sizeLine)
local macro_rules | `(tactic| wtm_at "e") => `(tactic| first
  | with_reducible refine w_set ?_
  | with_reducible refine w_bin ?_
  | ((with_reducible refine w_v (d := ?dv) ?hv ?_); (case hv => exact rfl))
  | with_reducible refine w_c ?_
  | with_reducible refine w_cons ?_
  | with_reducible refine w_nil ?_
  | with_reducible refine w_arg ?_
  | with_reducible refine w_call ?_
  | with_reducible refine w_if ?_
  | with_reducible refine w_ret ?_
  | with_reducible refine w_skip ?_
  | with_reducible refine w_bl ?_
  | with_reducible refine w_tru ?_
  | with_reducible refine w_attr ?_
  | with_reducible refine w_meth ?_
  | with_reducible refine w_chain ?_
  | with_reducible refine w_and ?_
  | with_reducible refine w_or ?_
  | with_reducible refine w_not ?_
  | with_reducible refine w_notT ?_
  | with_reducible refine w_andT ?_
  | with_reducible refine w_orT ?_
  | with_reducible refine w_ifM ?_
  | with_reducible refine w_expr ?_
  | with_reducible refine w_un ?_
  | with_reducible refine w_par2 ?_
  | with_reducible refine w_par3 ?_
  | with_reducible refine w_asg ?_
  | with_reducible refine w_aug ?_
  | with_reducible refine w_sub ?_
  | with_reducible refine w_fld ?_
  | with_reducible refine w_raise ?_
  | with_reducible refine w_raise0 ?_
  | with_reducible refine w_try ?_
  | with_reducible refine w_make ?_
  | with_reducible refine w_tryAs ?_
  | with_reducible refine w_exn ?_
  | ((with_reducible refine o_isx (b := ?bv) ?h1 ?_); (case h1 => exact rfl))
  | with_reducible refine w_superS ?_
  | with_reducible refine w_super ?_
  | with_reducible refine w_star ?_
  | with_reducible refine w_for0 ?_
  | with_reducible refine w_lc0 ?_
  | with_reducible refine w_seqI ?_
  | with_reducible refine w_argI ?_
  | with_reducible refine w_opt ?_
  | with_reducible refine w_sli ?_
  | with_reducible refine w_pure ?_
  | with_reducible refine w_disp ?_
  | with_reducible refine w_pairs1 ?_
  | with_reducible refine w_pairs0 ?_
  | with_reducible refine w_retN ?_
  | with_reducible refine w_cnt ?_
  | with_reducible refine w_brk ?_
  | with_reducible refine o_addI ?_
  | with_reducible refine o_addI' ?_
  | with_reducible refine o_sub ?_
  | with_reducible refine o_lt ?_
  | with_reducible refine o_le ?_
  | with_reducible refine o_gt ?_
  | with_reducible refine o_ge ?_
  | with_reducible refine o_eqI ?_
  | with_reducible refine o_neI ?_
  | with_reducible refine o_eqS ?_
  | with_reducible refine o_neS ?_
  | with_reducible refine o_int ?_
  | with_reducible refine o_intB ?_
  | with_reducible refine o_neg ?_
  | with_reducible refine o_abs ?_
  | with_reducible refine o_newL ?_
  | with_reducible refine o_max2 ?_
  | with_reducible refine o_min2 ?_
  | with_reducible refine o_lenL ?_
  | with_reducible refine o_lenT ?_
  | ((with_reducible refine o_tup ?hv ?_); (case hv => first | exact Nat.le_of_ble_eq_true rfl | assumption))
  | ((with_reducible refine o_lst ?hv ?_); (case hv => first | exact Nat.le_of_ble_eq_true rfl | assumption))
  | ((with_reducible refine o_isi (t := ?tv) (b := ?bv) ?h1 ?h2 ?_); (case h1 => exact rfl); (case h2 => exact rfl))
  | ((with_reducible refine o_fld (C := ?cv) (fs := ?fv) (d := ?dv) ?h1 ?h2 ?h3 ?_); (case h1 => exact rfl); (case h2 => exact rfl); (case h3 => exact rfl))
  | ((with_reducible refine Exists.intro ?kv (And.intro ?ha ?_)); (case ha => exact rfl)))
local macro_rules | `(tactic| wtm_at "body") => `(tactic| (refine w_body rfl rfl ?_; dsimp only [List.length_cons, List.length_nil, List.drop, List.append_nil, List.map_cons, List.map_nil, List.map, List.cons_append, List.nil_append, Nat.reduceAdd, Nat.reduceSub, List.replicate]))
local macro_rules | `(tactic| wtm_at "meth") => `(tactic| refine ⟨_, _, _, rfl, rfl, rfl, ?_⟩)
local macro_rules | `(tactic| wtm_at "w") => `(tactic| first | with_reducible refine w_seq ?_ | wtm_at "e")
local macro_rules | `(tactic| wtm_at "s") => `(tactic| ((repeat wtm_at "e"); (with_reducible refine w_seq ?_)))
local macro_rules | `(tactic| wtm_at "f") => `(tactic| ((repeat wtm_at "e"); (with_reducible show FP _ _)))
/-! values that are no words -/
/-- no word over these letters -/
inductive NoWord (ps : List Nat) (s : Sto) : D → Prop
  | non : NoWord ps s .non
  | bl {b : Bool} : NoWord ps s (.bl b)
  | int {i : Int} : NoWord ps s (.int i)
  | tup {l : List D} : NoWord ps s (.tup l)
  | lst {l : List D} : NoWord ps s (.lst l)
  | dct {k : Nat} {m : List (L2.Key × D)} : s[k]? = some (some (.dct m)) → NoWord ps s (.cel k)
  | txt {cs : List Nat} : cs.length ≤ 1000000 → (160 < cs.length ∨ ∃ c ∈ cs, c ∉ ps.map (97 + ·)) → NoWord ps s (.str (CS cs))
section
variable {s : Sto} {Q : D → Sto → Prop} {E : XT} {ps : List Nat} {d : D}
theorem not_word_tag {t : Tg} (h1 : tagD s d = some t) (h2 : isiT it0 t (.ty "str") = some false) (h : Q (.bl false) s) : RP Q E (m_is_word [.str (LS ps), d, .int 160] s) := by
  wtm_at "body"
  unfold b_is_word
  wtm_at "f"
  with_reducible refine w_mid (fun r s' => False) ?_ (fun r s' z => z.elim)
  repeat wtm_at "e"
  refine o_isi h1 h2 ?_
  repeat wtm_at "e"
  refine ⟨fun z => (by cases z), fun _ => ?_⟩
  repeat wtm_at "e"
  refine ⟨fun _ => ?_, fun z => (by cases z)⟩
  repeat wtm_at "e"
  exact h
theorem q_no_word (hd : NoWord ps s d) (h : Q (.bl false) s) : RP Q E (m_is_word [.str (LS ps), d, .int 160] s) := by
  have hz : sizeLine = 16777216 := by decide
  cases hd with
  | non => exact not_word_tag rfl rfl h
  | bl => exact not_word_tag rfl rfl h
  | int => exact not_word_tag rfl rfl h
  | tup => exact not_word_tag rfl rfl h
  | lst => exact not_word_tag rfl rfl h
  | dct e => exact not_word_tag (t := .bt "dict") (by unfold tagD; dsimp only; rw [e]) rfl h
  | @txt cs hl hc =>
    wtm_at "body"
    unfold b_is_word
    wtm_at "f"
    with_reducible refine w_mid (fun r s' => s' = s ∧ cs.length ≤ 160 ∧ r = [some (.str (LS ps)), some (.str (CS cs)), some (.int 160), none]) ?_ ?_
    · repeat wtm_at "e"
      refine ⟨fun _ => ?_, fun z => by cases z⟩
      repeat wtm_at "e"
      refine o_lenS (by rw [CS_len]; omega) ?_
      rw [CS_len]
      repeat wtm_at "e"
      refine ⟨fun z => ?_, fun z => ?_⟩
      · repeat wtm_at "e"
        exact h
      · repeat wtm_at "e"
        exact ⟨rfl, by have := of_decide_eq_false z; omega, rfl⟩
    · rintro r s' ⟨rfl, h160, rfl⟩
      have hc : ∃ c ∈ cs, c ∉ ps.map (97 + ·) := by
        rcases hc with hc | hc
        · omega
        · exact hc
      repeat wtm_at "e"
      refine w_lcX cs (fun c => .str ⟨#[c]⟩) (fun c => .bl (decide (c ∈ ps.map (97 + ·)))) (CS_chars cs) rfl (by omega) (fun c hc => ⟨_, rfl, ?_⟩) ?_
      · repeat wtm_at "e"
        refine o_inS ?_
        exact ⟨rfl, by rw [LS_CS, inStr_CS]⟩
      · repeat wtm_at "e"
        refine o_allX (l := cs) (f := fun c => decide (c ∈ ps.map (97 + ·))) ?_
        have e : (cs.map fun c => decide (c ∈ ps.map (97 + ·))).all id = false := by
          rw [List.all_eq_false]
          obtain ⟨c, h1, h2⟩ := hc
          exact ⟨false, List.mem_map.mpr ⟨c, h1, decide_eq_false h2⟩, by simp⟩
        rw [e]
        exact h
theorem q_need_no (hd : NoWord ps s d) (h : E "InvalidWord" [("value", d)] s) : RP Q E (m_need_word [.str (LS ps), d] s) := by
  wtm_at "body"
  unfold b_need_word
  repeat wtm_at "e"
  refine q_no_word hd ?_
  repeat wtm_at "e"
  refine ⟨fun _ => ?_, fun z => (by cases z)⟩
  repeat wtm_at "e"
  exact h
end
section
variable {T : Type} [Inhabited T] {k : FK T} {n : Nat} {st en : List T} {tb : Nat → List (List T)} {ps : List Nat} {s : Sto} {Q : D → Sto → Prop} {E : XT} {d : D}
theorem q_state_no (hd : NoWord ps s d) (h : E "InvalidWord" [("value", d)] s) : RP Q E (m_Machine_state_after [machD k ps n st en tb, d] s) := by
  wtm_at "body"
  unfold b_Machine_state_after
  wtm_at "s"
  repeat wtm_at "e"
  exact q_need_no hd h
theorem q_value_no (hd : NoWord ps s d) (h : E "InvalidWord" [("value", d)] s) : RP Q E (m_Machine_value_of [machD k ps n st en tb, d] s) := by
  wtm_at "body"
  unfold b_Machine_value_of
  repeat wtm_at "e"
  wtm_at "meth"
  repeat wtm_at "e"
  wtm_at "meth"
  repeat wtm_at "e"
  exact q_state_no hd h
end
/-! refused -/
section
variable {s : Sto} {Q : D → Sto → Prop} {E : XT} {d : D} {r : En} {te : DE}
theorem q_refused (h0 : s[0]? = some (some (.tab "law"))) (hth : RP (fun _ _ => False) (fun C fs s' => C = "InvalidWord" ∧ fs = [(("value" : Str), d)] ∧ s' = s) (te r s)) (hro : RO s d) (h : Q (.tup [.str (rpT s d), .bl true]) s) : RP Q E (lamM 0 "law" 1 b__law_refused te r s) := by
  refine w_lam (.tup [.str (rpT s d), .bl true]) s h0 (fun f c t => ?_) h
  unfold b__law_refused
  wtm_at "s"
  repeat wtm_at "e"
  refine w_th rfl ?_
  refine hth.mono (fun _ _ z => z.elim) ?_
  rintro C fs s' ⟨rfl, rfl, rfl⟩
  refine ⟨true, rfl, fun _ => ⟨rfl, .tup [.str (rpT s' d), .bl true], s', fun a dd => ?_, rfl, rfl⟩, fun z => (by cases z)⟩
  repeat wtm_at "e"
  refine ⟨_, _, _, rfl, rfl, ?_⟩
  repeat wtm_at "e"
  refine o_reprX hro ?_
  repeat wtm_at "e"
  exact ⟨rfl, rfl⟩
end
end G

set_option Elab.async false
set_option linter.all false
set_option maxRecDepth 100000
set_option maxHeartbeats 4000000
namespace G
open Mp Pl
open PySem (Str sizeLine)
local macro_rules | `(tactic| wtm_at "e") => `(tactic| first
  | with_reducible refine w_set ?_
  | with_reducible refine w_bin ?_
  | ((with_reducible refine w_v (d := ?dv) ?hv ?_); (case hv => exact rfl))
  | with_reducible refine w_c ?_
  | with_reducible refine w_cons ?_
  | with_reducible refine w_nil ?_
  | with_reducible refine w_arg ?_
  | with_reducible refine w_call ?_
  | with_reducible refine w_if ?_
  | with_reducible refine w_ret ?_
  | with_reducible refine w_skip ?_
  | with_reducible refine w_bl ?_
  | with_reducible refine w_tru ?_
  | with_reducible refine w_attr ?_
  | with_reducible refine w_meth ?_
  | with_reducible refine w_chain ?_
  | with_reducible refine w_and ?_
  | with_reducible refine w_or ?_
  | with_reducible refine w_not ?_
  | with_reducible refine w_notT ?_
  | with_reducible refine w_andT ?_
  | with_reducible refine w_orT ?_
  | with_reducible refine w_ifM ?_
  | with_reducible refine w_expr ?_
  | with_reducible refine w_un ?_
  | with_reducible refine w_par2 ?_
  | with_reducible refine w_par3 ?_
  | with_reducible refine w_asg ?_
  | with_reducible refine w_aug ?_
  | with_reducible refine w_sub ?_
  | with_reducible refine w_fld ?_
  | with_reducible refine w_raise ?_
  | with_reducible refine w_raise0 ?_
  | with_reducible refine w_try ?_
  | with_reducible refine w_make ?_
  | with_reducible refine w_tryAs ?_
  | with_reducible refine w_exn ?_
  | ((with_reducible refine o_isx (b := ?bv) ?h1 ?_); (case h1 => exact rfl))
  | with_reducible refine w_superS ?_
  | with_reducible refine w_super ?_
  | with_reducible refine w_star ?_
  | with_reducible refine w_for0 ?_
  | with_reducible refine w_lc0 ?_
  | with_reducible refine w_seqI ?_
  | with_reducible refine w_argI ?_
  | with_reducible refine w_opt ?_
  | with_reducible refine w_sli ?_
  | with_reducible refine w_pure ?_
  | with_reducible refine w_disp ?_
  | with_reducible refine w_pairs1 ?_
  | with_reducible refine w_pairs0 ?_
  | with_reducible refine w_retN ?_
  | with_reducible refine w_cnt ?_
  | with_reducible refine w_brk ?_
  | with_reducible refine o_addI ?_
  | with_reducible refine o_addI' ?_
  | with_reducible refine o_sub ?_
  | with_reducible refine o_lt ?_
  | with_reducible refine o_le ?_
  | with_reducible refine o_gt ?_
  | with_reducible refine o_ge ?_
  | with_reducible refine o_eqI ?_
  | with_reducible refine o_neI ?_
  | with_reducible refine o_eqS ?_
  | with_reducible refine o_neS ?_
  | with_reducible refine o_int ?_
  | with_reducible refine o_intB ?_
  | with_reducible refine o_neg ?_
  | with_reducible refine o_abs ?_
  | with_reducible refine o_newL ?_
  | with_reducible refine o_max2 ?_
  | with_reducible refine o_min2 ?_
  | with_reducible refine o_lenL ?_
  | with_reducible refine o_lenT ?_
  | ((with_reducible refine o_tup ?hv ?_); (case hv => first | exact Nat.le_of_ble_eq_true rfl | assumption))
  | ((with_reducible refine o_lst ?hv ?_); (case hv => first | exact Nat.le_of_ble_eq_true rfl | assumption))
  | ((with_reducible refine o_isi (t := ?tv) (b := ?bv) ?h1 ?h2 ?_); (case h1 => exact rfl); (case h2 => exact rfl))
  | ((with_reducible refine o_fld (C := ?cv) (fs := ?fv) (d := ?dv) ?h1 ?h2 ?h3 ?_); (case h1 => exact rfl); (case h2 => exact rfl); (case h3 => exact rfl))
  | ((with_reducible refine Exists.intro ?kv (And.intro ?ha ?_)); (case ha => exact rfl)))
local macro_rules | `(tactic| wtm_at "body") => `(tactic| (refine w_body rfl rfl ?_; dsimp only [List.length_cons, List.length_nil, List.drop, List.append_nil, List.map_cons, List.map_nil, List.map, List.cons_append, List.nil_append, Nat.reduceAdd, Nat.reduceSub, List.replicate]))
local macro_rules | `(tactic| wtm_at "meth") => `(tactic| refine ⟨_, _, _, rfl, rfl, rfl, ?_⟩)
local macro_rules | `(tactic| wtm_at "w") => `(tactic| first | with_reducible refine w_seq ?_ | wtm_at "e")
local macro_rules | `(tactic| wtm_at "s") => `(tactic| ((repeat wtm_at "e"); (with_reducible refine w_seq ?_)))
local macro_rules | `(tactic| wtm_at "f") => `(tactic| ((repeat wtm_at "e"); (with_reducible show FP _ _)))
/-! draws one after the other, dicts by letters -/
section
variable {n : Nat} {b : Int} {s B : Sto} {Q : D → Sto → Prop} {E : XT}
/-- a comprehension of draws -/
theorem w_lcD {T : Type} (em : T → D) (P : T → Prop) (c : Int) {j m : Nat} {te : DE} {r : En} {Q : List D → Sto → Prop} (p : Pen s n b) (hm : m ≤ 1000000) (hc : 0 ≤ c)
    (hte : ∀ (i : Nat) (s1 : Sto) (R : D → Sto → Prop), i < m → Pen s1 n (b + c * i) → (∀ (x : T) s2, P x → PF n s1 s2 (b + c * i + c) → R (em x) s2) → RP R noX (te (r.set j (some (.int (0 + (i : Nat))))) s1)) (he : ∀ (xs : List T) s', xs.length = m → (∀ x ∈ xs, P x) → PF n s s' (b + c * m) → Q (xs.map em) s') :
    RP Q E (lcF ⟨intL 0 m, none⟩ (nameG j) yesM te r (intL 0 m) [] s) := by
  have hz : sizeLine = 16777216 := by decide
  refine w_lc (c := ⟨intL 0 m, none⟩) (fun i l s' => ∃ xs : List T, l = xs.map em ∧ xs.length = i ∧ i ≤ m ∧ (∀ x ∈ xs, P x) ∧ PF n s s' (b + c * i)) rfl ⟨[], rfl, rfl, Nat.zero_le _, fun _ z => (by cases z), (PF.of p).mono (by simp)⟩ ?_ ?_
  · rintro i d l s' hd ⟨xs, rfl, hl, him, hP, pf⟩
    obtain ⟨hi, rfl⟩ := intL_get hd
    refine ⟨_, rfl, fun _ => ?_, fun z => (by cases z)⟩
    refine hte i s' _ hi pf.pen fun x s2 hx pf2 => ?_
    refine ⟨by rw [List.length_map]; omega, xs ++ [x], by simp, by simp [hl], hi, fun y hy => ?_, pf.go' pf2 ?_⟩
    · rcases List.mem_append.mp hy with hy | hy
      · exact hP y hy
      · simp at hy
        rw [hy]
        exact hx
    · rw [Int.natCast_succ, Int.mul_add, Int.mul_one]
      omega
  · rintro l s' ⟨xs, rfl, hl, him, hP, pf⟩
    rw [intL_len] at hl pf
    exact he xs s' hl hP pf
theorem pf_cel {c : Nat} {s s' : Sto} (pf : PF n s s' b) (hc : c < s.length) (hn : c ≠ n) : s'[c]? = s[c]? := pf.fr.2 c hc hn
theorem byL_snoc {T : Type} {ps : List Nat} {f g : Nat → T} {i : Nat} (h : ∀ j ∈ ps, f j = g j) : byL (ps ++ [i]) g = byL ps f ++ [(.inr (ch i), g i)] := by
  unfold byL
  rw [List.map_append]
  congr 1
  apply List.map_congr_left
  intro j hj
  rw [h j hj]
theorem byL_keys {T : Type} {ps : List Nat} {f : Nat → T} : (byL ps f).map (·.1) = ps.map fun i => (Sum.inr (ch i) : L2.Key) := by
  unfold byL
  rw [List.map_map]
  rfl
theorem put_letter {ps : List Nat} {f : Nat → D} {i t : Nat} {v : D} (hs : s[t]? = some (some (.dct (byL ps f)))) (hi : i ∉ ps) (hl : ps.length < 1000) : putI (.cel t) (.str (ch i)) v s = some (s.set t (some (.dct (byL ps f ++ [(.inr (ch i), v)])))) := by
  have hz : sizeLine = 16777216 := by decide
  unfold putI
  dsimp only
  rw [hs]
  dsimp only
  rw [show keyD (.str (ch i)) = some (.inr (ch i)) from rfl]
  dsimp only
  rw [if_pos (by rw [byL_len]; omega), putA_new]
  rw [byL_keys]
  intro z
  obtain ⟨j, hj, e⟩ := List.mem_map.mp z
  exact hi (ch_inj (Sum.inr.inj e) ▸ hj)
end
/-! machines drawn modulo a prime -/
section
variable {n : Nat} {b : Int} {s B : Sto} {Q : D → Sto → Prop} {E : XT}
theorem q_number {p : Int} (pn : Pen s n b) (hb : b + 2 ≤ 1000000000) (hp : 2 ≤ p) (hp2 : p ≤ 1000000000) (h : ∀ (z : Int) s', 0 ≤ z ∧ z < p → PF n s s' (b + 2) → Q (.int z) s') : RP Q E (m__law_number [.cel n, .int p] s) := by
  wtm_at "body"
  unfold b__law_number
  repeat wtm_at "e"
  refine q_draw pn (by omega) (by omega) (by omega) fun k s1 hk0 hk1 p1 f1 l1 => ?_
  repeat wtm_at "e"
  refine q_pick p1 (by omega) (Nat.le_of_ble_eq_true rfl) (Nat.le_of_ble_eq_true rfl) fun d s2 hd p2 f2 l2 => ?_
  have pf : PF n s s2 (b + 2) := ⟨p2.mono (by omega), f1.trans f2, l2.trans l1⟩
  simp only [List.mem_cons, List.not_mem_nil, or_false] at hd
  rcases hd with rfl | rfl | rfl | rfl | rfl
  · exact h 0 s2 (by omega) pf
  · exact h 0 s2 (by omega) pf
  · exact h 1 s2 (by omega) pf
  · exact h (p - 1) s2 (by omega) pf
  · exact h k s2 (by omega) pf
theorem q_plain {ps : List Nat} {k : Nat} {p : Int} (hp : 2 ≤ p) (hp2 : p ≤ 1000000000) (lp : Lets ps) (hk : k ≤ 4) (ph : PH n B s b) (hnB : n < B.length) (hb : b + 194 ≤ 1000000000)
    (h : ∀ (st en : List Int) (tb : Nat → List (List Int)) (t : Nat) s', st.length = k → en.length = k → (∀ i ∈ ps, Sq k (tb i)) → (∀ x ∈ st, 0 ≤ x ∧ x < p) → (∀ x ∈ en, 0 ≤ x ∧ x < p) → (∀ i ∈ ps, ∀ r ∈ tb i, ∀ x ∈ r, 0 ≤ x ∧ x < p) → B.length ≤ t → s'[t]? = some (some (.dct (byL ps fun i => .lst ((tb i).map fun r => .lst (r.map D.int))))) → PH n B s' (b + 144) → Q (.tup [.lst (st.map D.int), .cel t, .lst (en.map D.int)]) s') :
    RP Q E (m__law_plain [.cel n, .int p, .str (LS ps), .int (k : Nat)] s) := by
  have hz : sizeLine = 16777216 := by decide
  have h4 := lp.few
  have hBl := ph.fr.1
  have hkk : k * k ≤ 16 := Nat.mul_le_mul hk hk
  have hci : ∀ i : Nat, i ≤ k → (2 : Int) * k * i ≤ 2 * 16 := fun i hi => by
    have a : k * i ≤ 16 := Nat.le_trans (Nat.mul_le_mul_left k hi) hkk
    have e : (2 : Int) * k * i = 2 * ((k * i : Nat) : Int) := by rw [Int.mul_assoc]; rfl
    rw [e]
    omega
  wtm_at "body"
  unfold b__law_plain
  wtm_at "s"
  repeat wtm_at "e"
  refine w_disp0 ?_
  wtm_at "f"
  with_reducible refine w_mid (fun r s' => ∃ (tb : Nat → List (List Int)) (x4 : Option D), r = [some (.cel n), some (.int p), some (.str (LS ps)), some (.int (k : Nat)), some (.cel s.length), x4, none, none] ∧ (∀ i ∈ ps, Sq k (tb i)) ∧ (∀ i ∈ ps, ∀ r ∈ tb i, ∀ x ∈ r, 0 ≤ x ∧ x < p) ∧ s'[s.length]? = some (some (.dct (byL ps fun i => .lst ((tb i).map fun r => .lst (r.map D.int))))) ∧ PH n B s' (b + 2 * 16 * 4)) ?_ ?_
  · repeat wtm_at "e"
    rw [LS_chars]
    refine w_for (fun m r s' => ∃ (tb : Nat → List (List Int)) (x4 : Option D), r = [some (.cel n), some (.int p), some (.str (LS ps)), some (.int (k : Nat)), some (.cel s.length), x4, none, none] ∧ m ≤ ps.length ∧ (∀ i ∈ ps.take m, Sq k (tb i)) ∧ (∀ i ∈ ps.take m, ∀ r ∈ tb i, ∀ x ∈ r, 0 ≤ x ∧ x < p) ∧ s'[s.length]? = some (some (.dct (byL (ps.take m) fun i => .lst ((tb i).map fun r => .lst (r.map D.int))))) ∧ PH n B s' (b + 2 * 16 * m)) rfl
      ⟨fun _ => [], none, rfl, Nat.zero_le _, fun i hi => (by simp at hi), fun i hi => (by simp at hi), by simp [byL], ph.app.mono (by simp)⟩ ?_ ?_
    · rintro m d r s' hd ⟨tb, x4, rfl, hml, hsq, hP, hs', ph'⟩
      have hd : (ps.map fun i => D.str (ch i))[m]? = some d := hd
      rw [List.getElem?_map] at hd
      cases ei : ps[m]? with
      | none => rw [ei] at hd; cases hd
      | some i =>
      rw [ei] at hd
      cases hd
      have hmlt := (List.getElem?_eq_some_iff.mp ei).1
      refine ⟨_, rfl, ?_⟩
      repeat wtm_at "e"
      refine w_range1 (by omega) (by omega) ?_
      rw [Int.toNat_natCast]
      refine w_lcD (fun r : List Int => .lst (r.map D.int)) (fun r => r.length = k ∧ ∀ x ∈ r, 0 ≤ x ∧ x < p) (2 * k) ph'.pen (by omega) (by omega) (fun i1 s1 R hi1 p1 hR => ?_) fun rows s2 hrl hrows pf2 => ?_
      · have hb1 := hci i1 (by omega)
        repeat wtm_at "e"
        refine w_range1 (by omega) (by omega) ?_
        rw [Int.toNat_natCast]
        refine w_lcD D.int (fun x => 0 ≤ x ∧ x < p) 2 p1 (by omega) (by decide) (fun i2 s3 R2 hi2 p3 hR2 => ?_) fun xs s4 hxl hx pf4 => ?_
        · repeat wtm_at "e"
          exact q_number p3 (by omega) hp hp2 fun z s6 hz pf6 => hR2 z s6 hz (pf6.mono (by omega))
        · repeat wtm_at "e"
          exact hR xs s4 ⟨hxl, hx⟩ (pf4.mono (by omega))
      · have hck := hci k (Nat.le_refl _)
        have hsl : s.length < s'.length := (List.getElem?_eq_some_iff.mp hs').1
        have hnn : s.length ≠ n := by omega
        have hs2 := (pf_cel pf2 hsl hnn).trans hs'
        have hnot : i ∉ ps.take m := fun z => by
          have nd := lp.nodup
          rw [← List.take_append_drop m ps, List.drop_eq_getElem_cons hmlt] at nd
          have e3 : ps[m] = i := (List.getElem?_eq_some_iff.mp ei).2
          rw [e3] at nd
          have := (List.nodup_append.mp nd).2.2 i z i List.mem_cons_self
          exact this rfl
        repeat wtm_at "e"
        refine ⟨_, put_letter hs2 hnot (by rw [List.length_take]; omega), ?_⟩
        have et : ps.take (m + 1) = ps.take m ++ [i] := by rw [List.take_succ, ei]; rfl
        refine ⟨fun j => if j = i then rows else tb j, some (.str (ch i)), rfl, hmlt, fun j hj => ?_, fun j hj => ?_, ?_, ?_⟩
        · rw [et, List.mem_append] at hj
          dsimp only
          by_cases e : j = i
          · rw [if_pos e]
            exact ⟨hrl, fun r hr => (hrows r hr).1⟩
          · rw [if_neg e]
            rcases hj with hj | hj
            · exact hsq j hj
            · simp at hj
              exact absurd hj e
        · rw [et, List.mem_append] at hj
          dsimp only
          by_cases e : j = i
          · rw [if_pos e]
            exact fun r hr => (hrows r hr).2
          · rw [if_neg e]
            rcases hj with hj | hj
            · exact hP j hj
            · simp at hj
              exact absurd hj e
        · rw [List.getElem?_set_self (by have : s2.length = s'.length := pf2.len; omega), et]
          rw [byL_snoc (f := fun j => D.lst ((tb j).map fun r => .lst (r.map D.int))) (fun j hj => by
            have : j ≠ i := fun e => hnot (e ▸ hj)
            dsimp only
            rw [if_neg this])]
          dsimp only
          rw [if_pos rfl]
        · have q : PH n B s2 (b + 2 * 16 * m + 2 * k * k) := ph'.go pf2.ph (Int.le_refl _)
          refine (q.set (c := s.length) hBl hnB).mono ?_
          rw [Int.natCast_succ]
          omega
    · rintro r s' ⟨tb, x4, rfl, hml, hsq, hP, hs', ph'⟩
      have e : (ps.map fun i => D.str (ch i)).length = ps.length := List.length_map ..
      rw [e, List.take_length] at hsq hP hs'
      rw [e] at ph'
      exact ⟨tb, x4, rfl, hsq, hP, hs', ph'.mono (by omega)⟩
  · rintro r s' ⟨tb, x4, rfl, hsq, hP, hs', ph'⟩
    repeat wtm_at "e"
    refine w_range1 (by omega) (by omega) ?_
    rw [Int.toNat_natCast]
    refine w_lcD D.int (fun x => 0 ≤ x ∧ x < p) 2 ph'.pen (by omega) (by decide) (fun i2 s3 R2 hi2 p3 hR2 => ?_) fun st s4 hst hPst pf4 => ?_
    · repeat wtm_at "e"
      exact q_number p3 (by omega) hp hp2 fun z s6 hz pf6 => hR2 z s6 hz (pf6.mono (by omega))
    · repeat wtm_at "e"
      refine w_range1 (by omega) (by omega) ?_
      rw [Int.toNat_natCast]
      refine w_lcD D.int (fun x => 0 ≤ x ∧ x < p) 2 pf4.pen (by omega) (by decide) (fun i2 s3 R2 hi2 p3 hR2 => ?_) fun en s5 hen hPen pf5 => ?_
      · repeat wtm_at "e"
        exact q_number p3 (by omega) hp hp2 fun z s6 hz pf6 => hR2 z s6 hz (pf6.mono (by omega))
      · have hsl : s.length < s'.length := (List.getElem?_eq_some_iff.mp hs').1
        have hnn : s.length ≠ n := by omega
        have hs5 := (pf_cel pf5 (by have := pf4.len; omega) hnn).trans ((pf_cel pf4 hsl hnn).trans hs')
        repeat wtm_at "e"
        exact h st en tb s.length s5 hst hen hsq hPst hPen hP hBl hs5 ((ph'.go pf4.ph (Int.le_refl _)).go pf5.ph (by omega))
end
end G

set_option Elab.async false
set_option linter.all false
set_option maxRecDepth 100000
set_option maxHeartbeats 4000000
namespace G
open Mp Pl
open PySem (Str sizeLine)
local macro_rules | `(tactic| wtm_at "e") => `(tactic| first
  | with_reducible refine w_set ?_
  | with_reducible refine w_bin ?_
  | ((with_reducible refine w_v (d := ?dv) ?hv ?_); (case hv => exact rfl))
  | with_reducible refine w_c ?_
  | with_reducible refine w_cons ?_
  | with_reducible refine w_nil ?_
  | with_reducible refine w_arg ?_
  | with_reducible refine w_call ?_
  | with_reducible refine w_if ?_
  | with_reducible refine w_ret ?_
  | with_reducible refine w_skip ?_
  | with_reducible refine w_bl ?_
  | with_reducible refine w_tru ?_
  | with_reducible refine w_attr ?_
  | with_reducible refine w_meth ?_
  | with_reducible refine w_chain ?_
  | with_reducible refine w_and ?_
  | with_reducible refine w_or ?_
  | with_reducible refine w_not ?_
  | with_reducible refine w_notT ?_
  | with_reducible refine w_andT ?_
  | with_reducible refine w_orT ?_
  | with_reducible refine w_ifM ?_
  | with_reducible refine w_expr ?_
  | with_reducible refine w_un ?_
  | with_reducible refine w_par2 ?_
  | with_reducible refine w_par3 ?_
  | with_reducible refine w_asg ?_
  | with_reducible refine w_aug ?_
  | with_reducible refine w_sub ?_
  | with_reducible refine w_fld ?_
  | with_reducible refine w_raise ?_
  | with_reducible refine w_raise0 ?_
  | with_reducible refine w_try ?_
  | with_reducible refine w_make ?_
  | with_reducible refine w_tryAs ?_
  | with_reducible refine w_exn ?_
  | ((with_reducible refine o_isx (b := ?bv) ?h1 ?_); (case h1 => exact rfl))
  | with_reducible refine w_superS ?_
  | with_reducible refine w_super ?_
  | with_reducible refine w_star ?_
  | with_reducible refine w_for0 ?_
  | with_reducible refine w_lc0 ?_
  | with_reducible refine w_seqI ?_
  | with_reducible refine w_argI ?_
  | with_reducible refine w_opt ?_
  | with_reducible refine w_sli ?_
  | with_reducible refine w_pure ?_
  | with_reducible refine w_disp ?_
  | with_reducible refine w_pairs1 ?_
  | with_reducible refine w_pairs0 ?_
  | with_reducible refine w_retN ?_
  | with_reducible refine w_cnt ?_
  | with_reducible refine w_brk ?_
  | with_reducible refine o_addI ?_
  | with_reducible refine o_addI' ?_
  | with_reducible refine o_sub ?_
  | with_reducible refine o_lt ?_
  | with_reducible refine o_le ?_
  | with_reducible refine o_gt ?_
  | with_reducible refine o_ge ?_
  | with_reducible refine o_eqI ?_
  | with_reducible refine o_neI ?_
  | with_reducible refine o_eqS ?_
  | with_reducible refine o_neS ?_
  | with_reducible refine o_int ?_
  | with_reducible refine o_intB ?_
  | with_reducible refine o_neg ?_
  | with_reducible refine o_abs ?_
  | with_reducible refine o_newL ?_
  | with_reducible refine o_max2 ?_
  | with_reducible refine o_min2 ?_
  | with_reducible refine o_lenL ?_
  | with_reducible refine o_lenT ?_
  | ((with_reducible refine o_tup ?hv ?_); (case hv => first | exact Nat.le_of_ble_eq_true rfl | assumption))
  | ((with_reducible refine o_lst ?hv ?_); (case hv => first | exact Nat.le_of_ble_eq_true rfl | assumption))
  | ((with_reducible refine o_isi (t := ?tv) (b := ?bv) ?h1 ?h2 ?_); (case h1 => exact rfl); (case h2 => exact rfl))
  | ((with_reducible refine o_fld (C := ?cv) (fs := ?fv) (d := ?dv) ?h1 ?h2 ?h3 ?_); (case h1 => exact rfl); (case h2 => exact rfl); (case h3 => exact rfl))
  | ((with_reducible refine Exists.intro ?kv (And.intro ?ha ?_)); (case ha => exact rfl)))
local macro_rules | `(tactic| wtm_at "body") => `(tactic| (refine w_body rfl rfl ?_; dsimp only [List.length_cons, List.length_nil, List.drop, List.append_nil, List.map_cons, List.map_nil, List.map, List.cons_append, List.nil_append, Nat.reduceAdd, Nat.reduceSub, List.replicate]))
local macro_rules | `(tactic| wtm_at "meth") => `(tactic| refine ⟨_, _, _, rfl, rfl, rfl, ?_⟩)
local macro_rules | `(tactic| wtm_at "w") => `(tactic| first | with_reducible refine w_seq ?_ | wtm_at "e")
local macro_rules | `(tactic| wtm_at "s") => `(tactic| ((repeat wtm_at "e"); (with_reducible refine w_seq ?_)))
local macro_rules | `(tactic| wtm_at "f") => `(tactic| ((repeat wtm_at "e"); (with_reducible show FP _ _)))
/-! the law's own states and values modulo a prime -/
theorem dotZ_from (Z : List (Int × Int)) : ∀ a : Int, Z.foldl (fun a p => a + p.1 * p.2) a = a + dotZ Z := by
  unfold dotZ
  induction Z with
  | nil => intro a; simp
  | cons z Z ih =>
    intro a
    rw [List.foldl_cons, List.foldl_cons, ih, ih (0 + _)]
    omega
theorem dotZ_cons (z : Int × Int) (Z : List (Int × Int)) : dotZ (z :: Z) = z.1 * z.2 + dotZ Z := by
  show (z :: Z).foldl (fun a p => a + p.1 * p.2) 0 = _
  rw [List.foldl_cons, dotZ_from, Int.zero_add]
theorem dot_mod {p : Int} : ∀ (xs ys : List Int), dotZ ((xs.map (· % p)).zip ys) % p = dotZ (xs.zip ys) % p
  | [], ys => rfl
  | x :: xs, [] => rfl
  | x :: xs, y :: ys => by
    have ih := dot_mod (p := p) xs ys
    rw [List.map_cons, List.zip_cons_cons, List.zip_cons_cons, dotZ_cons, dotZ_cons]
    dsimp only
    rw [Int.add_emod, ih, ← Int.add_emod, Int.add_emod, Int.mul_emod (x % p), Int.emod_emod, ← Int.mul_emod, ← Int.add_emod]
theorem sum_dot : ∀ (xs ys : List Int), ((xs.zip ys).map fun p => p.1 * p.2).sum = dotZ (xs.zip ys)
  | [], ys => rfl
  | x :: xs, [] => rfl
  | x :: xs, y :: ys => by
    rw [List.zip_cons_cons, dotZ_cons, List.map_cons, List.sum_cons, sum_dot xs ys]
theorem o_sum {l : List Int} {s : Sto} {Q : D → Sto → Prop} {E : XT} (h : Q (.int l.sum) s) : RP Q E (sumD [.lst (l.map .int)] s) := by
  unfold sumD
  dsimp only
  rw [show (lstOf s (.lst (l.map .int))).bind intsOf = intsOf (l.map .int) from rfl]
  have := intsOf_map (fun x : Int => x) l
  rw [List.map_id'] at this
  rw [this]
  exact h
theorem o_zipL {l m : List D} {s : Sto} {Q : Src → Sto → Prop} {E : XT} (h : Q ⟨(l.zip m).map fun p => .tup [p.1, p.2], none⟩ s) : RP Q E (zipD [.lst l, .lst m] s) := h
theorem rD_map {p : Int} {l : List Int} (h : ∀ x ∈ l, 0 ≤ x ∧ x < p) : l.map D.int = l.map (rD p) := by
  apply List.map_congr_left
  intro x hx
  obtain ⟨h0, h1⟩ := h x hx
  show D.int x = D.int (x % p)
  rw [Int.emod_eq_of_lt h0 h1]
theorem rD_id {p : Int} {l : List Int} (h : ∀ x ∈ l, 0 ≤ x ∧ x < p) : l.map (· % p) = l := by
  conv => rhs; rw [← List.map_id l]
  apply List.map_congr_left
  intro x hx
  obtain ⟨h0, h1⟩ := h x hx
  exact Int.emod_eq_of_lt h0 h1
section
variable {s : Sto} {Q : D → Sto → Prop} {E : XT} {ps ws : List Nat} {k t : Nat} {p : Int}
/-- the state, each number modulo p -/
abbrev redR (p : Int) (l : List Int) : List Int := l.map (· % p)
theorem red_in (hp : 2 ≤ p) {l : List Int} : ∀ x ∈ redR p l, 0 ≤ x ∧ x < p := fun x hx => by
  obtain ⟨y, _, rfl⟩ := List.mem_map.mp hx
  exact ⟨Int.emod_nonneg y (by omega), Int.emod_lt_of_pos y (by omega)⟩
theorem red_rD {l : List Int} : (redR p l).map D.int = l.map (rD p) := by
  rw [List.map_map]
  rfl
theorem q_lstate {st : List Int} {tb : Nat → List (List Int)} {ed : D} (hd : dctOf s (.cel t) = some (byL ps fun i => .lst ((tb i).map fun r => .lst (r.map .int)))) (hp : 2 ≤ p) (hp2 : p ≤ 1000000000) (hk : k ≤ 1000) (hst : st.length = k) (hsq : ∀ i ∈ ps, Sq k (tb i)) (hin : ∀ x ∈ st, 0 ≤ x ∧ x < p) (hok : ∀ i ∈ ps, ∀ r ∈ tb i, ∀ y ∈ r, 0 ≤ y ∧ y < p) (hw : ∀ w ∈ ws, w ∈ ps)
    (h : Q (.lst ((redR p (runA (FM p) k tb st ws)).map .int)) s) : RP Q E (m__law_state [.tup [.lst (st.map .int), .cel t, ed], .int p, .str (LS ws)] s) := by
  have hz : sizeLine = 16777216 := by decide
  wtm_at "body"
  unfold b__law_state
  wtm_at "s"
  repeat wtm_at "e"
  refine o_idxT (k := 0) rfl rfl ?_
  repeat wtm_at "e"
  refine o_list rfl ?_
  wtm_at "s"
  repeat wtm_at "e"
  rw [LS_chars]
  refine w_for (fun i r s' => s' = s ∧ ∃ (y : List Int) (x3 x4 : Option D), r = [some (.tup [.lst (st.map .int), .cel t, ed]), some (.int p), some (.str (LS ws)), some (.lst ((redR p y).map .int)), x3, x4, none, none] ∧ y.length = k ∧ runA (FM p) k tb y (ws.drop i) = runA (FM p) k tb st ws) rfl
    ⟨rfl, st, none, none, by rw [show redR p st = st from rD_id hin]; rfl, hst, rfl⟩ ?_ ?_
  · rintro i d r s' hd2 ⟨rfl, y, x3, x4, rfl, hyl, hrun⟩
    have hd2 : (ws.map fun i => D.str (ch i))[i]? = some d := hd2
    rw [List.getElem?_map] at hd2
    cases ew : ws[i]? with
    | none => rw [ew] at hd2; cases hd2
    | some w =>
      rw [ew] at hd2
      cases hd2
      have hil := (List.getElem?_eq_some_iff.mp ew).1
      have hwm := hw w (List.mem_of_getElem? ew)
      have edrop : ws.drop i = w :: ws.drop (i + 1) := by
        rw [List.drop_eq_getElem_cons hil]
        rw [(List.getElem?_eq_some_iff.mp ew).2]
      rw [edrop] at hrun
      have hsw := hsq w hwm
      have hrl := hsw.len
      have hyr : (redR p y).length = k := by rw [List.length_map]; exact hyl
      refine ⟨_, rfl, ?_⟩
      wtm_at "s"
      repeat wtm_at "e"
      refine o_idxT (k := 1) rfl rfl ?_
      repeat wtm_at "e"
      refine o_idxD (n := 0) hd rfl (byL_get hwm) ?_
      repeat wtm_at "e"
      rw [List.length_map, hyr]
      refine w_range1 (by omega) (by omega) ?_
      rw [Int.toNat_natCast]
      refine w_lcX (List.range k) (fun j => .int (0 + (j : Nat))) (fun j => .int (dotZ (y.zip ((tb w).map fun r => r.getD j default)) % p)) rfl rfl (by rw [List.length_range]; omega) (fun j hj => ⟨_, rfl, ?_⟩) ?_
      · have hj := List.mem_range.mp hj
        repeat wtm_at "e"
        rw [List.length_map, hyr]
        refine w_range1 (by omega) (by omega) ?_
        rw [Int.toNat_natCast]
        refine w_lcX (List.range k) (fun i => .int (0 + (i : Nat))) (fun i => .int ((redR p y).getD i default * ((tb w).getD i default).getD j default)) rfl rfl (by rw [List.length_range]; omega) (fun i hi => ⟨_, rfl, ?_⟩) ?_
        · have hi := List.mem_range.mp hi
          have hi1 : i < (redR p y).length := by omega
          have hi2 : i < (tb w).length := by omega
          have hrow := hsw.row _ (List.getElem_mem hi2)
          have hj2 : j < ((tb w)[i]).length := by omega
          have e1 : (redR p y).getD i default = (redR p y)[i] := by rw [List.getD_eq_getElem?_getD, List.getElem?_eq_getElem hi1]; rfl
          have e20 : (tb w).getD i default = (tb w)[i] := by rw [List.getD_eq_getElem?_getD, List.getElem?_eq_getElem hi2]; rfl
          have e2 : ((tb w).getD i default).getD j default = ((tb w)[i])[j] := by rw [e20, List.getD_eq_getElem?_getD, List.getElem?_eq_getElem hj2]; rfl
          have b1 := red_in hp _ (List.getElem_mem hi1)
          have b2 := hok w hwm _ (List.getElem_mem hi2) _ (List.getElem_mem hj2)
          repeat wtm_at "e"
          refine o_idxL (k := i) (d := .int ((redR p y)[i])) (by omega) (by rw [List.getElem?_map, List.getElem?_eq_getElem hi1]; rfl) ?_
          repeat wtm_at "e"
          refine o_idxL (k := i) (d := .lst (((tb w)[i]).map .int)) (by omega) (by rw [List.getElem?_map, List.getElem?_eq_getElem hi2]; rfl) ?_
          repeat wtm_at "e"
          refine o_idxL (k := j) (d := .int (((tb w)[i])[j])) (by omega) (by rw [List.getElem?_map, List.getElem?_eq_getElem hj2]; rfl) ?_
          refine o_mul64 (by omega) (by omega) ?_
          rw [e1, e2]
          exact ⟨rfl, rfl⟩
        · repeat wtm_at "e"
          have e4 : ((List.range k).map fun i => D.int ((redR p y).getD i default * ((tb w).getD i default).getD j default)) = (((redR p y).zip ((tb w).map fun r => r.getD j default)).map fun q => q.1 * q.2).map .int := by
            apply List.ext_getElem
            · rw [List.length_map, List.length_range, List.length_map, List.length_map, List.length_zip, hyr, List.length_map, hrl, Nat.min_self]
            · intro i h1 h2
              rw [List.length_map, List.length_range] at h1
              have hi1 : i < (redR p y).length := by omega
              have hi2 : i < (tb w).length := by omega
              rw [List.getElem_map, List.getElem_map, List.getElem_map, List.getElem_zip, List.getElem_map, List.getElem_range]
              have e1 : (redR p y).getD i default = (redR p y)[i] := by rw [List.getD_eq_getElem?_getD, List.getElem?_eq_getElem hi1]; rfl
              have e20 : (tb w).getD i default = (tb w)[i] := by rw [List.getD_eq_getElem?_getD, List.getElem?_eq_getElem hi2]; rfl
              rw [e1, e20, List.getElem_map, List.getElem_map]
          rw [e4]
          refine o_sum ?_
          rw [sum_dot]
          repeat wtm_at "e"
          refine o_mod (by omega) ?_
          rw [dot_mod]
          exact ⟨rfl, rfl⟩
      · repeat wtm_at "e"
        have e5 : ((List.range k).map fun j => D.int (dotZ (y.zip ((tb w).map fun r => r.getD j default)) % p)) = (redR p (stepA (FM p) k (tb w) y)).map .int := by
          unfold stepA colsA
          rw [List.map_map, List.map_map, List.map_map]
          rfl
        rw [e5]
        exact ⟨rfl, stepA (FM p) k (tb w) y, _, _, rfl, stepA_len, hrun⟩
  · rintro r s' ⟨rfl, y, x3, x4, rfl, hyl, hrun⟩
    have e : (ws.map fun i => D.str (ch i)).length = ws.length := List.length_map ..
    rw [e, List.drop_length] at hrun
    repeat wtm_at "e"
    rw [show y = runA (FM p) k tb st ws from hrun]
    exact h
theorem q_lvalue {st en : List Int} {tb : Nat → List (List Int)} (hd : dctOf s (.cel t) = some (byL ps fun i => .lst ((tb i).map fun r => .lst (r.map .int)))) (hp : 2 ≤ p) (hp2 : p ≤ 1000000000) (hk : k ≤ 1000) (hst : st.length = k) (hen : en.length = k) (hsq : ∀ i ∈ ps, Sq k (tb i)) (hin : ∀ x ∈ st, 0 ≤ x ∧ x < p) (hin2 : ∀ x ∈ en, 0 ≤ x ∧ x < p) (hok : ∀ i ∈ ps, ∀ r ∈ tb i, ∀ y ∈ r, 0 ≤ y ∧ y < p) (hw : ∀ w ∈ ws, w ∈ ps)
    (h : Q (.int (dotZ ((runA (FM p) k tb st ws).zip en) % p)) s) : RP Q E (m__law_value [.tup [.lst (st.map .int), .cel t, .lst (en.map .int)], .int p, .str (LS ws)] s) := by
  have hz : sizeLine = 16777216 := by decide
  wtm_at "body"
  unfold b__law_value
  repeat wtm_at "e"
  refine q_lstate hd hp hp2 hk hst hsq hin hok hw ?_
  repeat wtm_at "e"
  refine o_idxT (k := 2) rfl rfl ?_
  repeat wtm_at "e"
  refine o_zipL ?_
  generalize hy : runA (FM p) k tb st ws = y at h
  have hyl : y.length = k := by rw [← hy]; exact runA_len ws st hst
  have ez : ((((redR p y).map D.int).zip (en.map D.int)).map fun q => D.tup [q.1, q.2]) = ((redR p y).zip en).map fun q => D.tup [.int q.1, .int q.2] := by
    rw [List.zip_map, List.map_map]
    rfl
  rw [ez]
  refine w_lcX ((redR p y).zip en) (fun q => D.tup [.int q.1, .int q.2]) (fun q => .int (q.1 * q.2)) rfl rfl (by rw [List.length_zip]; omega) (fun q hq => ⟨_, rfl, ?_⟩) ?_
  · have hm := List.of_mem_zip (show (q.1, q.2) ∈ _ from hq)
    have b1 := red_in hp _ hm.1
    have b2 := hin2 _ hm.2
    repeat wtm_at "e"
    refine o_mul64 (by omega) (by omega) ?_
    exact ⟨rfl, rfl⟩
  · repeat wtm_at "e"
    rw [show (((redR p y).zip en).map fun q => D.int (q.1 * q.2)) = (((redR p y).zip en).map fun q => q.1 * q.2).map .int by rw [List.map_map]; rfl]
    refine o_sum ?_
    rw [sum_dot]
    repeat wtm_at "e"
    refine o_mod (by omega) ?_
    rw [dot_mod]
    exact h
theorem q_madeM {st en : List Int} {tb : Nat → List (List Int)} (hp : PrimeOk p) (P : Parts (FM p) ps k st en tb) (ht : t < s.length) (hd : dctOf s (.cel t) = some (byL ps fun i => lstR (FM p) (tb i))) (h : Q (machD (FM p) ps k st en tb) (s ++ [none] ++ [none])) :
    RP Q E (m__law_made [.tup [.lst (st.map (rD p)), .cel t, .lst (en.map (rD p))], .int p, .str (LS ps)] s) := by
  wtm_at "body"
  unfold b__law_made
  repeat wtm_at "e"
  refine q_newM hp ?_
  repeat wtm_at "e"
  refine o_idxT (k := 0) rfl rfl ?_
  repeat wtm_at "e"
  refine o_idxT (k := 1) rfl rfl ?_
  repeat wtm_at "e"
  refine o_idxT (k := 2) rfl rfl ?_
  repeat wtm_at "e"
  refine q_init (k := FM p) (FM_ok hp.1 hp.2.1) P (by rw [List.length_append]; omega) ?_ h
  exact (dctOf_cel (List.getElem?_append_left ht)).trans hd
end
end G

set_option Elab.async false
set_option linter.all false
set_option maxRecDepth 100000
set_option maxHeartbeats 4000000
namespace G
open Mp Pl
open PySem (Str sizeLine)
local macro_rules | `(tactic| wtm_at "e") => `(tactic| first
  | with_reducible refine w_set ?_
  | with_reducible refine w_bin ?_
  | ((with_reducible refine w_v (d := ?dv) ?hv ?_); (case hv => exact rfl))
  | with_reducible refine w_c ?_
  | with_reducible refine w_cons ?_
  | with_reducible refine w_nil ?_
  | with_reducible refine w_arg ?_
  | with_reducible refine w_call ?_
  | with_reducible refine w_if ?_
  | with_reducible refine w_ret ?_
  | with_reducible refine w_skip ?_
  | with_reducible refine w_bl ?_
  | with_reducible refine w_tru ?_
  | with_reducible refine w_attr ?_
  | with_reducible refine w_meth ?_
  | with_reducible refine w_chain ?_
  | with_reducible refine w_and ?_
  | with_reducible refine w_or ?_
  | with_reducible refine w_not ?_
  | with_reducible refine w_notT ?_
  | with_reducible refine w_andT ?_
  | with_reducible refine w_orT ?_
  | with_reducible refine w_ifM ?_
  | with_reducible refine w_expr ?_
  | with_reducible refine w_un ?_
  | with_reducible refine w_par2 ?_
  | with_reducible refine w_par3 ?_
  | with_reducible refine w_asg ?_
  | with_reducible refine w_aug ?_
  | with_reducible refine w_sub ?_
  | with_reducible refine w_fld ?_
  | with_reducible refine w_raise ?_
  | with_reducible refine w_raise0 ?_
  | with_reducible refine w_try ?_
  | with_reducible refine w_make ?_
  | with_reducible refine w_tryAs ?_
  | with_reducible refine w_exn ?_
  | ((with_reducible refine o_isx (b := ?bv) ?h1 ?_); (case h1 => exact rfl))
  | with_reducible refine w_superS ?_
  | with_reducible refine w_super ?_
  | with_reducible refine w_star ?_
  | with_reducible refine w_for0 ?_
  | with_reducible refine w_lc0 ?_
  | with_reducible refine w_seqI ?_
  | with_reducible refine w_argI ?_
  | with_reducible refine w_opt ?_
  | with_reducible refine w_sli ?_
  | with_reducible refine w_pure ?_
  | with_reducible refine w_disp ?_
  | with_reducible refine w_pairs1 ?_
  | with_reducible refine w_pairs0 ?_
  | with_reducible refine w_retN ?_
  | with_reducible refine w_cnt ?_
  | with_reducible refine w_brk ?_
  | with_reducible refine o_addI ?_
  | with_reducible refine o_addI' ?_
  | with_reducible refine o_sub ?_
  | with_reducible refine o_lt ?_
  | with_reducible refine o_le ?_
  | with_reducible refine o_gt ?_
  | with_reducible refine o_ge ?_
  | with_reducible refine o_eqI ?_
  | with_reducible refine o_neI ?_
  | with_reducible refine o_eqS ?_
  | with_reducible refine o_neS ?_
  | with_reducible refine o_int ?_
  | with_reducible refine o_intB ?_
  | with_reducible refine o_neg ?_
  | with_reducible refine o_abs ?_
  | with_reducible refine o_newL ?_
  | with_reducible refine o_max2 ?_
  | with_reducible refine o_min2 ?_
  | with_reducible refine o_lenL ?_
  | with_reducible refine o_lenT ?_
  | ((with_reducible refine o_tup ?hv ?_); (case hv => first | exact Nat.le_of_ble_eq_true rfl | assumption))
  | ((with_reducible refine o_lst ?hv ?_); (case hv => first | exact Nat.le_of_ble_eq_true rfl | assumption))
  | ((with_reducible refine o_isi (t := ?tv) (b := ?bv) ?h1 ?h2 ?_); (case h1 => exact rfl); (case h2 => exact rfl))
  | ((with_reducible refine o_fld (C := ?cv) (fs := ?fv) (d := ?dv) ?h1 ?h2 ?h3 ?_); (case h1 => exact rfl); (case h2 => exact rfl); (case h3 => exact rfl))
  | ((with_reducible refine Exists.intro ?kv (And.intro ?ha ?_)); (case ha => exact rfl)))
local macro_rules | `(tactic| wtm_at "body") => `(tactic| (refine w_body rfl rfl ?_; dsimp only [List.length_cons, List.length_nil, List.drop, List.append_nil, List.map_cons, List.map_nil, List.map, List.cons_append, List.nil_append, Nat.reduceAdd, Nat.reduceSub, List.replicate]))
local macro_rules | `(tactic| wtm_at "meth") => `(tactic| refine ⟨_, _, _, rfl, rfl, rfl, ?_⟩)
local macro_rules | `(tactic| wtm_at "w") => `(tactic| first | with_reducible refine w_seq ?_ | wtm_at "e")
local macro_rules | `(tactic| wtm_at "s") => `(tactic| ((repeat wtm_at "e"); (with_reducible refine w_seq ?_)))
local macro_rules | `(tactic| wtm_at "f") => `(tactic| ((repeat wtm_at "e"); (with_reducible show FP _ _)))
/-! long words, odd words -/
open PySem (PyData) in
structure Shown (s : Sto) (d : D) : Prop where
  ro : RO s d
  ok : PyData.strOk (rpT s d) = true
section
variable {s : Sto} {d : D}
open PySem (PyData)
theorem rp_of {p : PyData} (e : rdP s 99 d = some p) : rpT s d = p.shown := by
  unfold rpT
  rw [e]
theorem sh_txt {cs : List Nat} (h : ∀ c ∈ cs, c < 128) (hl : cs.length ≤ 1000) : Shown s (.str (CS cs)) := by
  have e : rdP s 99 (.str (CS cs)) = some (.str (CS cs)) := by simp only [rdP]
  have h1 := repr_len h
  refine ⟨ro_of e rfl rfl (by show 0 < 60; decide) ?_, ?_⟩
  · show (PySem.reprText (CS cs)).length ≤ 100000
    omega
  · rw [rp_of e]
    exact repr_ok h
theorem sh_of {p : PyData} (e : rdP s 99 d = some p) (h1 : p.showable = true) (h2 : p.depth < 60) (h3 : p.shown.length ≤ 1000000) (h4 : PyData.strOk p.shown = true) : Shown s d :=
  ⟨⟨p, e, h1, h2, Nat.le_trans h3 (by decide)⟩, by rw [rp_of e]; exact h4⟩
theorem sh_non : Shown s .non := sh_of (p := .none) (by simp only [rdP]) rfl (by decide) (by decide +kernel) (by decide +kernel)
theorem sh_bl {b : Bool} : Shown s (.bl b) := sh_of (p := .bool b) (by simp only [rdP]) rfl (by show 0 < 60; decide) (by cases b <;> decide +kernel) (by cases b <;> decide +kernel)
theorem sh_3 : Shown s (.int 3) := sh_of (p := .int 3) (by simp only [rdP]) (by decide +kernel) (by decide +kernel) (by decide +kernel) (by decide +kernel)
theorem sh_t0 : Shown s (.tup []) := sh_of (p := .tuple []) (by simp only [rdP, rdPs]; rfl) (by decide +kernel) (by decide +kernel) (by decide +kernel) (by decide +kernel)
theorem sh_l2 : Shown s (.lst [.str "", .str ""]) := sh_of (p := .list [.str "", .str ""]) (by simp only [rdP, rdPs]; rfl) (by decide +kernel) (by decide +kernel) (by decide +kernel) (by decide +kernel)
theorem sh_d0 {k : Nat} (h : s[k]? = some (some (.dct []))) : Shown s (.cel k) := by
  refine sh_of (p := .dict []) ?_ (by decide +kernel) (by decide +kernel) (by decide +kernel) (by decide +kernel)
  simp only [rdP, h, List.map_nil, rdPs]
  rfl
theorem sh_l1 {i : Nat} (hi : i < 26) : Shown s (.lst [.str (ch i)]) := by
  have h1 : (List.range 26).all (fun i => decide ((PyData.list [.str (ch i)]).showable = true ∧ (PyData.list [.str (ch i)]).depth < 60 ∧ (PyData.list [.str (ch i)]).shown.length ≤ 1000000 ∧ PyData.strOk (PyData.list [.str (ch i)]).shown = true)) = true := by decide +kernel
  rw [List.all_eq_true] at h1
  obtain ⟨a, b, c, d⟩ := of_decide_eq_true (h1 i (List.mem_range.mpr hi))
  exact sh_of (p := .list [.str (ch i)]) (by simp only [rdP, rdPs]; rfl) a b c d
end
section
variable {n : Nat} {b : Int} {s B : Sto} {Q : D → Sto → Prop} {E : XT} {ps : List Nat}
theorem q_long_word (lp : Lets ps) (pn : Pen s n b) (hb : b + 20 ≤ 1000000000) (h : ∀ (ws : List Nat) s', ws.length ≤ 160 → (∀ w ∈ ws, w ∈ ps) → PF n s s' (b + 10) → Q (.str (LS ws)) s') : RP Q E (m__law_long_word [.cel n, .str (LS ps)] s) := by
  have hz : sizeLine = 16777216 := by decide
  have h1 := lp.pos
  have h4 := lp.few
  have e0 : ps[0]? = some ps[0] := List.getElem?_eq_getElem (by omega)
  have m0 : ps[0] ∈ ps := List.getElem_mem (by omega)
  obtain ⟨pl, el⟩ : ∃ x, ps.getLast? = some x := by
    cases e : ps.getLast? with
    | none => rw [List.getLast?_eq_none_iff] at e; rw [e] at h1; simp at h1
    | some x => exact ⟨x, rfl⟩
  have ml : pl ∈ ps := List.mem_of_getLast? el
  wtm_at "body"
  unfold b__law_long_word
  wtm_at "s"
  repeat wtm_at "e"
  refine q_word pn (by omega) (by omega) (by omega) (by decide) (by decide) fun ws s1 hwl hws pf1 => ?_
  repeat wtm_at "e"
  refine idx_LS (k := 0) (p := ps[0]) (by omega) rfl e0 ?_
  refine o_addS (by rw [LS_len, ch_LS, LS_len]; simp; omega) ?_
  rw [ch_LS, LS_app]
  repeat wtm_at "e"
  refine o_mulX (n := 17) rfl (by decide) (by decide) (by rw [LS_len]; simp) (by rw [LS_len]; simp; omega) ?_
  rw [LS_rep]
  repeat wtm_at "e"
  refine idx_last (by omega) el ?_
  rw [ch_LS]
  repeat wtm_at "e"
  refine o_mulX (n := 160) rfl (by decide) (by decide) (by rw [LS_len]; simp) (by rw [LS_len]; simp) ?_
  rw [LS_rep]
  repeat wtm_at "e"
  refine o_mulX (n := 40) rfl (by decide) (by decide) (by rw [LS_len]; omega) (by rw [LS_len]; omega) ?_
  rw [LS_rep]
  repeat wtm_at "e"
  refine q_pick pf1.pen (by omega) (Nat.le_of_ble_eq_true rfl) (Nat.le_of_ble_eq_true rfl) fun d s2 hd p2 f2 l2 => ?_
  have pf : PF n s s2 (b + 10) := ⟨p2.mono (by omega), pf1.fr.trans f2, l2.trans pf1.len⟩
  simp only [List.mem_cons, List.not_mem_nil, or_false] at hd
  rcases hd with rfl | rfl | rfl | rfl | rfl | rfl
  · exact h ws s2 (by omega) hws pf
  · exact h ws s2 (by omega) hws pf
  · exact h ws s2 (by omega) hws pf
  · refine h _ s2 (by rw [flat_len, List.length_append, List.length_singleton]; omega) (fun w hw => ?_) pf
    have := flat_mem hw
    rw [List.mem_append, List.mem_singleton] at this
    rcases this with z | z
    · exact hws w z
    · rw [z]; exact m0
  · refine h _ s2 (by rw [flat_len, List.length_singleton]; omega) (fun w hw => ?_) pf
    have := flat_mem hw
    rw [List.mem_singleton] at this
    rw [this]; exact ml
  · exact h _ s2 (by rw [flat_len]; omega) (fun w hw => flat_mem hw) pf
theorem missing (lp : Lets ps) : ∃ a z, ((List.range 26).filter fun i => decide (i ∉ ps))[0]? = some a ∧ ((List.range 26).filter fun i => decide (i ∉ ps)).getLast? = some z ∧ a ∉ ps ∧ z ∉ ps ∧ a < 26 ∧ z < 26 := by
  have h4 := lp.few
  generalize hm : (List.range 26).filter (fun i => decide (i ∉ ps)) = m
  have mem : ∀ x ∈ m, x ∉ ps ∧ x < 26 := fun x hx => by
    rw [← hm, List.mem_filter] at hx
    exact ⟨of_decide_eq_true hx.2, List.mem_range.mp hx.1⟩
  cases m with
  | nil =>
    exfalso
    rw [List.filter_eq_nil_iff] at hm
    have sub : List.range 26 ⊆ ps := fun x hx => by
      have := hm x hx
      simpa using this
    have := (List.nodup_range (n := 26)).length_le_of_subset sub
    rw [List.length_range] at this
    omega
  | cons a m =>
    obtain ⟨z, ez⟩ : ∃ z, (a :: m).getLast? = some z := ⟨_, List.getLast?_eq_some_getLast (by simp)⟩
    have hz := mem z (List.mem_of_getLast? ez)
    have ha := mem a List.mem_cons_self
    exact ⟨a, z, rfl, ez, ha.1, hz.1, ha.2, hz.2⟩
structure OddW (ps : List Nat) (s : Sto) (d : D) : Prop where
  no : NoWord ps s d
  sh : Shown s d
theorem odd_txt (cs : List Nat) (hc : cs.all (fun c => decide (c < 128)) = true) (hl : cs.length ≤ 1000) (h : 160 < cs.length ∨ ∃ c ∈ cs, c ∉ ps.map (97 + ·)) : OddW ps s (.str (CS cs)) := by
  rw [List.all_eq_true] at hc
  exact ⟨.txt (by omega) h, sh_txt (fun c h => of_decide_eq_true (hc c h)) hl⟩
theorem no_small {c : Nat} (h : c < 97) : c ∉ ps.map (97 + ·) := fun z => by
  obtain ⟨i, _, e⟩ := List.mem_map.mp z
  omega
theorem no_letter {a : Nat} (h : a ∉ ps) : 97 + a ∉ ps.map (97 + ·) := fun z => by
  obtain ⟨i, hi, e⟩ := List.mem_map.mp z
  have : i = a := by omega
  exact h (this ▸ hi)
theorem q_odd_word (lp : Lets ps) (ph : PH n B s b) (hnB : n < B.length) (hb : b + 20 ≤ 1000000000) (h : ∀ d s', (∀ s'', Fr n s' s'' → OddW ps s'' d) → PH n B s' (b + 1) → Q d s') : RP Q E (m__law_odd_word [.cel n, .str (LS ps)] s) := by
  have hz : sizeLine = 16777216 := by decide
  have h1 := lp.pos
  have h4 := lp.few
  have hBl := ph.fr.1
  have e0 : ps[0]? = some ps[0] := List.getElem?_eq_getElem (by omega)
  have m0 : ps[0] < 26 := lp.lt _ (List.getElem_mem (by omega))
  obtain ⟨pl, el⟩ : ∃ x, ps.getLast? = some x := by
    cases e : ps.getLast? with
    | none => rw [List.getLast?_eq_none_iff] at e; rw [e] at h1; simp at h1
    | some x => exact ⟨x, rfl⟩
  have ml : pl < 26 := lp.lt _ (List.mem_of_getLast? el)
  obtain ⟨ma, mz, ea, ez, na, nz, la, lz⟩ := missing lp
  wtm_at "body"
  unfold b__law_odd_word
  wtm_at "s"
  repeat wtm_at "e"
  refine idx_LS (k := 0) (p := ps[0]) (by omega) rfl e0 ?_
  repeat wtm_at "e"
  refine o_mulX (n := 161) rfl (by decide) (by decide) (by rw [ch_LS, LS_len]; simp) (by rw [ch_LS, LS_len]; simp) ?_
  repeat wtm_at "e"
  refine idx_LS (k := 0) (p := ps[0]) (by omega) rfl e0 ?_
  repeat wtm_at "e"
  refine w_disp0 ?_
  repeat wtm_at "e"
  refine idx_LS (k := 0) (p := ps[0]) (by omega) rfl e0 ?_
  repeat wtm_at "e"
  refine o_addS (by rw [ch_LS, LS_len]; show 1 + 1 ≤ _; omega) ?_
  repeat wtm_at "e"
  wtm_at "s"
  repeat wtm_at "e"
  refine w_lcY (List.range 26) (fun i => .str (ch i)) (fun i => .str (ch i)) (fun i => decide (i ∉ ps)) (by rw [show (("abcdefghijklmnopqrstuvwxyz" : Str)) = LS (List.range 26) from abc, LS_chars]) rfl (by rw [List.length_range]; omega) (fun i hi => ⟨_, rfl, ?_, fun _ => ?_⟩) ?_
  · repeat wtm_at "e"
    refine o_ninS ?_
    rw [inStr_LS]
    repeat wtm_at "e"
    exact ⟨rfl, by rw [Bool.eq_iff_iff]; simp⟩
  · repeat wtm_at "e"
    exact ⟨rfl, rfl⟩
  repeat wtm_at "e"
  refine o_idxL (k := 0) (d := .str (ch ma)) rfl (by rw [List.getElem?_map, ea]; rfl) ?_
  repeat wtm_at "e"
  refine idx_last (by omega) el ?_
  repeat wtm_at "e"
  refine idxL_last (d := .str (ch mz)) (by rw [List.getLast?_map, ez]; rfl) ?_
  refine o_addS (by rw [ch_LS, LS_len, ch_LS, LS_len]; show 1 + 1 ≤ _; omega) ?_
  repeat wtm_at "e"
  refine idx_LS (k := 0) (p := ps[0]) (by omega) rfl e0 ?_
  repeat wtm_at "e"
  refine o_addS (by rw [ch_LS, LS_len]; show 1 + 1 ≤ _; omega) ?_
  repeat wtm_at "e"
  refine o_addL (by show 12 + 3 ≤ _; omega) ?_
  repeat wtm_at "e"
  refine q_pick (ph.pen.app _) (by omega) (by show 0 < 15; decide) (by show 15 < 1000000; decide) fun d s2 hd p2 f2 l2 => ?_
  have ph2 : PH n B s2 (b + 1) := ⟨p2, (fr_app ph.fr).trans f2⟩
  have c1 : ∀ s'', Fr n s2 s'' → s''[s.length]? = some (some (.dct [])) := fun s'' f => by
    rw [f.2 s.length (by rw [l2, List.length_append]; simp) (by omega), f2.2 s.length (by simp) (by omega)]
    simp
  refine h d s2 (fun s'' f => ?_) ph2
  have hd : d ∈ [D.non, .bl true, .int 3, .str "A", .str " ", .str (repS (ch ps[0]) 161), .lst [.str (ch ps[0])], .tup [], .cel s.length, .str (ch ps[0] ++ "1"), .str "-", .lst [.str "", .str ""]] ++ [D.str (ch ma), .str (ch pl ++ ch mz), .str (ch ps[0] ++ "\n")] := hd
  simp only [List.mem_append, List.mem_cons, List.not_mem_nil, or_false] at hd
  rcases hd with ((rfl | rfl | rfl | rfl | rfl | rfl | rfl | rfl | rfl | rfl | rfl | rfl) | (rfl | rfl | rfl))
  · exact ⟨.non, sh_non⟩
  · exact ⟨.bl, sh_bl⟩
  · exact ⟨.int, sh_3⟩
  · exact odd_txt [65] rfl (by decide) (.inr ⟨65, by simp, no_small (by decide)⟩)
  · exact odd_txt [32] rfl (by decide) (.inr ⟨32, by simp, no_small (by decide)⟩)
  · rw [ch_CS, repS_CS]
    refine odd_txt _ ?_ (by rw [flat_len]; simp) (.inl (by rw [flat_len]; simp))
    rw [List.all_eq_true]
    intro c hc
    have := flat_mem hc
    rw [List.mem_singleton] at this
    exact decide_eq_true (by omega)
  · exact ⟨.lst, sh_l1 m0⟩
  · exact ⟨.tup, sh_t0⟩
  · exact ⟨.dct (c1 s'' f), sh_d0 (c1 s'' f)⟩
  · exact odd_txt [97 + ps[0], 49] (by simp; omega) (by simp) (.inr ⟨49, by simp, no_small (by decide)⟩)
  · exact odd_txt [45] rfl (by decide) (.inr ⟨45, by simp, no_small (by decide)⟩)
  · exact ⟨.lst, sh_l2⟩
  · exact odd_txt [97 + ma] (by simp; omega) (by simp) (.inr ⟨97 + ma, by simp, no_letter na⟩)
  · exact odd_txt [97 + pl, 97 + mz] (by simp; omega) (by simp) (.inr ⟨97 + mz, by simp, no_letter nz⟩)
  · exact odd_txt [97 + ps[0], 10] (by simp; omega) (by simp) (.inr ⟨10, by simp, no_small (by decide)⟩)
end
end G

set_option Elab.async false
set_option linter.all false
set_option maxRecDepth 100000
set_option maxHeartbeats 4000000
namespace G
open Mp Pl
open PySem (Str sizeLine)
local macro_rules | `(tactic| wtm_at "e") => `(tactic| first
  | with_reducible refine w_set ?_
  | with_reducible refine w_bin ?_
  | ((with_reducible refine w_v (d := ?dv) ?hv ?_); (case hv => exact rfl))
  | with_reducible refine w_c ?_
  | with_reducible refine w_cons ?_
  | with_reducible refine w_nil ?_
  | with_reducible refine w_arg ?_
  | with_reducible refine w_call ?_
  | with_reducible refine w_if ?_
  | with_reducible refine w_ret ?_
  | with_reducible refine w_skip ?_
  | with_reducible refine w_bl ?_
  | with_reducible refine w_tru ?_
  | with_reducible refine w_attr ?_
  | with_reducible refine w_meth ?_
  | with_reducible refine w_chain ?_
  | with_reducible refine w_and ?_
  | with_reducible refine w_or ?_
  | with_reducible refine w_not ?_
  | with_reducible refine w_notT ?_
  | with_reducible refine w_andT ?_
  | with_reducible refine w_orT ?_
  | with_reducible refine w_ifM ?_
  | with_reducible refine w_expr ?_
  | with_reducible refine w_un ?_
  | with_reducible refine w_par2 ?_
  | with_reducible refine w_par3 ?_
  | with_reducible refine w_asg ?_
  | with_reducible refine w_aug ?_
  | with_reducible refine w_sub ?_
  | with_reducible refine w_fld ?_
  | with_reducible refine w_raise ?_
  | with_reducible refine w_raise0 ?_
  | with_reducible refine w_try ?_
  | with_reducible refine w_make ?_
  | with_reducible refine w_tryAs ?_
  | with_reducible refine w_exn ?_
  | ((with_reducible refine o_isx (b := ?bv) ?h1 ?_); (case h1 => exact rfl))
  | with_reducible refine w_superS ?_
  | with_reducible refine w_super ?_
  | with_reducible refine w_star ?_
  | with_reducible refine w_for0 ?_
  | with_reducible refine w_lc0 ?_
  | with_reducible refine w_seqI ?_
  | with_reducible refine w_argI ?_
  | with_reducible refine w_opt ?_
  | with_reducible refine w_sli ?_
  | with_reducible refine w_pure ?_
  | with_reducible refine w_disp ?_
  | with_reducible refine w_pairs1 ?_
  | with_reducible refine w_pairs0 ?_
  | with_reducible refine w_retN ?_
  | with_reducible refine w_cnt ?_
  | with_reducible refine w_brk ?_
  | with_reducible refine o_addI ?_
  | with_reducible refine o_addI' ?_
  | with_reducible refine o_sub ?_
  | with_reducible refine o_lt ?_
  | with_reducible refine o_le ?_
  | with_reducible refine o_gt ?_
  | with_reducible refine o_ge ?_
  | with_reducible refine o_eqI ?_
  | with_reducible refine o_neI ?_
  | with_reducible refine o_eqS ?_
  | with_reducible refine o_neS ?_
  | with_reducible refine o_int ?_
  | with_reducible refine o_intB ?_
  | with_reducible refine o_neg ?_
  | with_reducible refine o_abs ?_
  | with_reducible refine o_newL ?_
  | with_reducible refine o_max2 ?_
  | with_reducible refine o_min2 ?_
  | with_reducible refine o_lenL ?_
  | with_reducible refine o_lenT ?_
  | ((with_reducible refine o_tup ?hv ?_); (case hv => first | exact Nat.le_of_ble_eq_true rfl | assumption))
  | ((with_reducible refine o_lst ?hv ?_); (case hv => first | exact Nat.le_of_ble_eq_true rfl | assumption))
  | ((with_reducible refine o_isi (t := ?tv) (b := ?bv) ?h1 ?h2 ?_); (case h1 => exact rfl); (case h2 => exact rfl))
  | ((with_reducible refine o_fld (C := ?cv) (fs := ?fv) (d := ?dv) ?h1 ?h2 ?h3 ?_); (case h1 => exact rfl); (case h2 => exact rfl); (case h3 => exact rfl))
  | ((with_reducible refine Exists.intro ?kv (And.intro ?ha ?_)); (case ha => exact rfl)))
local macro_rules | `(tactic| wtm_at "body") => `(tactic| (refine w_body rfl rfl ?_; dsimp only [List.length_cons, List.length_nil, List.drop, List.append_nil, List.map_cons, List.map_nil, List.map, List.cons_append, List.nil_append, Nat.reduceAdd, Nat.reduceSub, List.replicate]))
local macro_rules | `(tactic| wtm_at "meth") => `(tactic| refine ⟨_, _, _, rfl, rfl, rfl, ?_⟩)
local macro_rules | `(tactic| wtm_at "w") => `(tactic| first | with_reducible refine w_seq ?_ | wtm_at "e")
local macro_rules | `(tactic| wtm_at "s") => `(tactic| ((repeat wtm_at "e"); (with_reducible refine w_seq ?_)))
local macro_rules | `(tactic| wtm_at "f") => `(tactic| ((repeat wtm_at "e"); (with_reducible show FP _ _)))
/-! the law -/
structure Mach where
  k : Nat
  st : List Int
  en : List Int
  tb : Nat → List (List Int)
  t : Nat
def Mach.D (m : Mach) : D := .tup [.lst (m.st.map .int), .cel m.t, .lst (m.en.map .int)]
def Mach.M (p : Int) (ps : List Nat) (m : Mach) : Mp.D := machD (FM p) ps m.k m.st m.en m.tb
structure PlainOk (p : Int) (ps : List Nat) (B s : Sto) (m : Mach) : Prop where
  k4 : m.k ≤ 4
  st : m.st.length = m.k
  en : m.en.length = m.k
  sq : ∀ i ∈ ps, Sq m.k (m.tb i)
  ist : ∀ x ∈ m.st, 0 ≤ x ∧ x < p
  ien : ∀ x ∈ m.en, 0 ≤ x ∧ x < p
  itb : ∀ i ∈ ps, ∀ r ∈ m.tb i, ∀ x ∈ r, 0 ≤ x ∧ x < p
  low : B.length ≤ m.t
  cel : s[m.t]? = some (some (.dct (byL ps fun i => .lst ((m.tb i).map fun r => .lst (r.map .int)))))
section
variable {n : Nat} {b p : Int} {s s' B : Sto} {ps ws : List Nat} {m : Mach}
theorem dct_of {t : Nat} {m : List (L2.Key × D)} (h : s[t]? = some (some (.dct m))) : dctOf s (.cel t) = some m := by
  unfold dctOf
  dsimp only
  rw [h]
theorem PlainOk.fr (h : PlainOk p ps B s m) (f : Fr n s s') (hn : n < B.length) : PlainOk p ps B s' m :=
  ⟨h.k4, h.st, h.en, h.sq, h.ist, h.ien, h.itb, h.low, by rw [f.2 m.t (List.getElem?_eq_some_iff.mp h.cel).1 (by have := h.low; omega)]; exact h.cel⟩
theorem PlainOk.lt (h : PlainOk p ps B s m) : m.t < s.length := (List.getElem?_eq_some_iff.mp h.cel).1
theorem byL_congr {T : Type} {f g : Nat → T} (h : ∀ i ∈ ps, f i = g i) : byL ps f = byL ps g := by
  unfold byL
  apply List.map_congr_left
  intro i hi
  rw [h i hi]
theorem PlainOk.tab (h : PlainOk p ps B s m) : dctOf s (.cel m.t) = some (byL ps fun i => lstR (FM p) (m.tb i)) := by
  rw [dct_of h.cel]
  congr 1
  apply byL_congr
  intro i hi
  unfold lstR
  congr 1
  apply List.map_congr_left
  intro r hr
  rw [rD_map (h.itb i hi r hr)]
  rfl
theorem PlainOk.parts (h : PlainOk p ps B s m) (lp : Lets ps) : Parts (FM p) ps m.k m.st m.en m.tb :=
  ⟨lp, h.st, h.en, h.sq, fun _ _ => trivial, fun _ _ => trivial, fun _ _ _ _ _ _ => trivial, by have := h.k4; omega⟩
theorem PlainOk.fine (h : PlainOk p ps B s m) (lp : Lets ps) (hp : PrimeOk p) : Fine (FM p) ps m.k m.st m.en m.tb :=
  ⟨FM_ok hp.1 hp.2.1, lp.few, h.st, h.en, h.sq, by have := h.k4; omega, fun _ _ _ _ _ _ => trivial, fun _ _ => trivial⟩
theorem Mach.eqD (h : PlainOk p ps B s m) : m.D = .tup [.lst (m.st.map (rD p)), .cel m.t, .lst (m.en.map (rD p))] := by
  unfold Mach.D
  rw [rD_map h.ist, rD_map h.ien]
variable {Q : D → Sto → Prop} {E : XT}
theorem flat_mod (hp : PrimeOk p) (z : Int) : Flat (.int (z % p)) := by
  have h1 := Int.emod_nonneg z (show p ≠ 0 by have := hp.1; omega)
  have h2 := Int.emod_lt_of_pos z (show 0 < p by have := hp.1; omega)
  have h3 := hp.2.1
  refine flatI (Nat.lt_of_lt_of_le (show (z % p).natAbs < 2 ^ 30 by omega) (Nat.pow_le_pow_right (by decide) (by decide)))
theorem two_of {ms : List Mach} (h : ms.length = 2) : ∃ a b, ms = [a, b] := by
  match ms, h with
  | [a, b], _ => exact ⟨a, b, rfl⟩
theorem law_ok {ns : List Int} : ∃ s', m_law [.rol (ns.map .int)] (s0T tl0) = .ok (.bl true) s' := by
  have hz : sizeLine = 16777216 := by decide
  suffices hw : RP (fun d _ => d = .bl true) noX (m_law [.rol (ns.map .int)] (s0T tl0)) by
    obtain ⟨d, s', e, rfl⟩ := hw.ex
    exact ⟨s', e⟩
  have e00 : (s0T tl0) = [some (.tab "law")] := rfl
  rw [e00]
  wtm_at "body"
  unfold b_law
  wtm_at "s"
  repeat wtm_at "e"
  refine q_pen fun c s0 pen0 es0 => ?_
  have t0 : s0[0]? = some (some (.tab "law")) := by rw [es0]; rfl
  wtm_at "s"
  repeat wtm_at "e"
  refine RP.of (a := .int ((ns.map D.int).length : Nat)) rfl ?_
  repeat wtm_at "e"
  generalize hN : (4 + if ((ns.map D.int).length : Int) < 4 then ((ns.map D.int).length : Int) else 4) = N
  have hN1 : 0 ≤ N ∧ N ≤ 8 := by
    rw [← hN]
    split <;> omega
  refine w_range1 (by omega) (by omega) ?_
  refine w_for (fun i r s' => Pen s' 1 (1000 * i) ∧ s'[0]? = some (some (.tab "law")) ∧ ∃ x2 x3 x4 x5 x6 x7 x8 x9 x10 x11 : Option D, r = [some (.rol (ns.map .int)), some (.cel 1), x2, x3, x4, x5, x6, x7, x8, x9, x10, x11]) rfl ⟨pen0.mono (by simp), t0, _, _, _, _, _, _, _, _, _, _, rfl⟩ ?_ ?_
  rotate_left
  · rintro r s' ⟨_, _, x2, x3, x4, x5, x6, x7, x8, x9, x10, x11, rfl⟩
    repeat wtm_at "e"
    rfl
  rintro i d r s hd ⟨pen, ht, x2, x3, x4, x5, x6, x7, x8, x9, x10, x11, rfl⟩
  obtain ⟨hi, rfl⟩ := intL_get hd
  have hi8 : i < 8 := by omega
  have hB := pen.lt
  refine ⟨_, rfl, ?_⟩
  wtm_at "s"
  repeat wtm_at "e"
  refine q_primeP pen (by omega) fun p s1 hpr pk pf1 => ?_
  repeat wtm_at "e"
  refine q_letters pf1.pen (by omega) (by decide) (by decide) fun ps s2 lp ph2 => ?_
  have ph2 : PH 1 s s2 (1000 * i + 28) := pf1.ph.go ph2 (by omega)
  wtm_at "s"
  repeat wtm_at "e"
  refine w_range1 (by decide) (by decide) ?_
  refine w_lc (c := ⟨intL 0 (2 : Int).toNat, none⟩) (fun j l s' => ∃ ms : List Mach, l = ms.map Mach.D ∧ ms.length = j ∧ j ≤ 2 ∧ (∀ m ∈ ms, PlainOk p ps s s' m) ∧ PH 1 s s' (1000 * i + 28 + 200 * j)) rfl ⟨[], rfl, rfl, by decide, fun _ z => (by cases z), ph2.mono (by simp)⟩ ?_ ?_
  · rintro j d l s' hd ⟨ms, rfl, hl, hj, hms, ph'⟩
    obtain ⟨hj2, rfl⟩ := intL_get hd
    have hj2 : j < 2 := hj2
    refine ⟨_, rfl, fun _ => ?_, fun z => (by cases z)⟩
    repeat wtm_at "e"
    refine q_draw ph'.pen (by omega) (by decide) (by decide) fun kz s3 hk0 hk1 p3 f3 l3 => ?_
    obtain ⟨k, rfl⟩ : ∃ k : Nat, kz = k := ⟨kz.toNat, by omega⟩
    have ph3 : PH 1 s s3 (1000 * i + 28 + 200 * j + 1) := ph'.go ⟨p3, f3⟩ (by omega)
    repeat wtm_at "e"
    refine q_plain pk.1 pk.2.1 lp (by omega) (PH.of p3) p3.lt (by omega) fun st en tb t s4 hst hen hsq hPst hPen hPtb htB hs4 ph4 => ?_
    have hl3 := ph3.fr.1
    refine ⟨by rw [List.length_map]; omega, ms ++ [⟨k, st, en, tb, t⟩], by rw [List.map_append]; rfl, by rw [List.length_append, hl]; rfl, hj2, fun m hm => ?_, ph3.go ph4 (by omega)⟩
    rcases List.mem_append.mp hm with hm | hm
    · exact ((hms m hm).fr f3 hB).fr ph4.fr hB
    · rw [List.mem_singleton] at hm
      subst hm
      exact ⟨by show k ≤ 4; omega, hst, hen, hsq, hPst, hPen, hPtb, by show s.length ≤ t; omega, hs4⟩
  rintro l s3 ⟨ms, rfl, hl, _, hms, ph3⟩
  obtain ⟨a, b, rfl⟩ := two_of hl
  have ph3 : PH 1 s s3 (1000 * i + 428) := ph3.mono (by show _ + 200 * ((2 : Nat) : Int) ≤ _; omega)
  have hao := hms a (by simp)
  have hbo := hms b (by simp)
  wtm_at "s"
  repeat wtm_at "e"
  have gives : ∀ (m : Mach) (s' : Sto) (R : D → Sto → Prop), PlainOk p ps s s' m → R (m.M p ps) (s' ++ [none] ++ [none]) → RP R noX (m__law_made [m.D, .int p, .str (LS ps)] s') := fun m s' R hm hR => by
    rw [Mach.eqD hm]
    exact q_madeM pk (hm.parts lp) hm.lt hm.tab hR
  refine w_lc (c := ⟨[a, b].map Mach.D, none⟩) (fun j l s' => l = ([a, b].take j).map (Mach.M p ps) ∧ PH 1 s s' (1000 * i + 428) ∧ PlainOk p ps s s' a ∧ PlainOk p ps s s' b) rfl ⟨rfl, ph3, hao, hbo⟩ ?_ ?_
  · rintro j d l s' hd ⟨rfl, ph', ha', hb'⟩
    refine ⟨_, rfl, fun _ => ?_, fun z => (by cases z)⟩
    have hj : j = 0 ∨ j = 1 := by
      have := (List.getElem?_eq_some_iff.mp hd).1
      simp at this
      omega
    have ff : ∀ {m : Mach}, PlainOk p ps s s' m → PlainOk p ps s (s' ++ [none] ++ [none]) m := fun h => h.fr (n := 1) (fr_app (fr_app Fr.refl)) hB
    repeat wtm_at "e"
    rcases hj with rfl | rfl
    · cases hd
      refine gives a s' _ ha' ⟨by simp; omega, rfl, ph'.app.app, ff ha', ff hb'⟩
    · cases hd
      refine gives b s' _ hb' ⟨by simp; omega, rfl, ph'.app.app, ff ha', ff hb'⟩
  rintro l s4 ⟨rfl, ph4, ha4, hb4⟩
  repeat wtm_at "e"
  wtm_at "f"
  with_reducible refine w_mid (fun r s' => PH 1 s s' (1000 * i + 600) ∧ PlainOk p ps s s' a ∧ PlainOk p ps s s' b ∧ ∃ x5 x8 x9 : Option D, r = [some (.rol (ns.map .int)), some (.cel 1), some (.int (0 + (i : Nat))), some (.lst [a.D, b.D]), some (.lst [a.M p ps, b.M p ps]), x5, some (.int p), some (.str (LS ps)), x8, x9, x10, x11]) ?_ ?_
  · repeat wtm_at "e"
    refine w_range1 (by decide) (by decide) ?_
    refine w_for (fun j r s' => j ≤ 4 ∧ PH 1 s s' (1000 * i + 428 + 20 * j) ∧ PlainOk p ps s s' a ∧ PlainOk p ps s s' b ∧ ∃ x5 x8 x9 : Option D, r = [some (.rol (ns.map .int)), some (.cel 1), some (.int (0 + (i : Nat))), some (.lst [a.D, b.D]), some (.lst [a.M p ps, b.M p ps]), x5, some (.int p), some (.str (LS ps)), x8, x9, x10, x11]) rfl ⟨by decide, ph4.mono (by simp), ha4, hb4, _, _, _, rfl⟩ ?_ ?_
    rotate_left
    · rintro r s' ⟨_, ph', ha', hb', x5, x8, x9, rfl⟩
      exact ⟨ph'.mono (by show _ + 20 * ((4 : Nat) : Int) ≤ _; omega), ha', hb', _, _, _, rfl⟩
    rintro j d r s5 hd ⟨hj, ph5, ha5, hb5, x5, x8, x9, rfl⟩
    obtain ⟨hj4, rfl⟩ := intL_get hd
    have hj4 : j < 4 := hj4
    refine ⟨_, rfl, ?_⟩
    wtm_at "s"
    repeat wtm_at "e"
    refine q_long_word lp ph5.pen (by omega) fun ws s6 hwl hws pf6 => ?_
    have ph6 : PH 1 s s6 (1000 * i + 428 + 20 * (j + 1 : Nat)) := ph5.go pf6.ph (by omega)
    have ha6 := ha5.fr pf6.fr hB
    have hb6 := hb5.fr pf6.fr hB
    repeat wtm_at "e"
    refine w_for (fun _ r s' => s' = s6 ∧ ∃ x9 : Option D, r = [some (.rol (ns.map .int)), some (.cel 1), some (.int (0 + (i : Nat))), some (.lst [a.D, b.D]), some (.lst [a.M p ps, b.M p ps]), some (.int (0 + (j : Nat))), some (.int p), some (.str (LS ps)), some (.str (LS ws)), x9, x10, x11]) rfl ⟨rfl, _, rfl⟩ ?_ ?_
    rotate_left
    · rintro r s' ⟨rfl, x9, rfl⟩
      exact ⟨hj4, ph6, ha6, hb6, _, _, _, rfl⟩
    rintro e d r s' hd ⟨rfl, x9, rfl⟩
    have hd : [D.int 0, .int 1, .int 0][e]? = some d := hd
    have hcase : ∃ (f : Nat) (m : Mach), d = .int f ∧ [a.D, b.D][f]? = some m.D ∧ [a.M p ps, b.M p ps][f]? = some (m.M p ps) ∧ PlainOk p ps s s' m := by
      have hm := List.mem_of_getElem? hd
      simp only [List.mem_cons, List.not_mem_nil, or_false] at hm
      rcases hm with rfl | rfl | rfl
      · exact ⟨0, a, rfl, rfl, rfl, ha6⟩
      · exact ⟨1, b, rfl, rfl, rfl, hb6⟩
      · exact ⟨0, a, rfl, rfl, rfl, ha6⟩
    obtain ⟨f, m, rfl, i1, i2, hm⟩ := hcase
    have F := hm.fine lp pk
    have hk4 := hm.k4
    refine ⟨_, rfl, ?_⟩
    wtm_at "s"
    repeat wtm_at "e"
    refine o_idxL rfl i2 ?_
    repeat wtm_at "e"
    refine ⟨_, _, _, rfl, rfl, rfl, ?_⟩
    repeat wtm_at "e"
    refine q_value_of F hws hwl (wayM ws m.st) ?_
    repeat wtm_at "e"
    refine o_reprX (ro_flat (flat_mod pk _)) ?_
    repeat wtm_at "e"
    refine o_idxL rfl i1 ?_
    repeat wtm_at "e"
    refine q_lvalue (dct_of hm.cel) pk.1 pk.2.1 (by omega) hm.st hm.en hm.sq hm.ist hm.ien hm.itb hws ?_
    repeat wtm_at "e"
    refine o_reprX (ro_flat (flat_mod pk _)) ?_
    show RP _ _ (neD (.str (rpT s' (.int (dotZ ((runA (FM p) m.k m.tb m.st ws).zip m.en) % (p : Int))))) (.str (rpT s' (.int (dotZ ((runA (FM p) m.k m.tb m.st ws).zip m.en) % (p : Int))))) s')
    repeat wtm_at "e"
    refine ⟨fun z => ?_, fun _ => ?_⟩
    · simp at z
    repeat wtm_at "e"
    refine o_idxL rfl i2 ?_
    repeat wtm_at "e"
    refine ⟨_, _, _, rfl, rfl, rfl, ?_⟩
    repeat wtm_at "e"
    refine q_state_after F hws hwl (wayM ws m.st) ?_
    have rot : RO s' (.tup ((runA (FM p) m.k m.tb m.st ws).map (rD p))) := by
      refine ro_tup (fun d hd => ?_) (by rw [List.length_map, runA_len ws m.st hm.st]; omega)
      obtain ⟨z, _, rfl⟩ := List.mem_map.mp hd
      exact flat_mod pk z
    repeat wtm_at "e"
    refine o_reprX rot ?_
    repeat wtm_at "e"
    refine o_idxL rfl i1 ?_
    repeat wtm_at "e"
    refine q_lstate (dct_of hm.cel) pk.1 pk.2.1 (by omega) hm.st hm.sq hm.ist hm.itb hws ?_
    rw [red_rD]
    repeat wtm_at "e"
    refine o_tuple rfl ?_
    repeat wtm_at "e"
    refine o_reprX rot ?_
    repeat wtm_at "e"
    refine ⟨fun z => ?_, fun _ => ?_⟩
    · exact absurd (show _ = _ from rfl) (of_decide_eq_false ((Bool.not_eq_true' _).mp z))
    repeat wtm_at "e"
    exact ⟨rfl, _, rfl⟩
  rintro r s5 ⟨ph5, ha5, hb5, x5, x8, x9, rfl⟩
  wtm_at "s"
  repeat wtm_at "e"
  refine q_odd_word lp ph5 hB (by omega) fun o s6 ho ph6 => ?_
  repeat wtm_at "e"
  refine q_draw ph6.pen (by omega) (by decide) (by decide) fun kz s7 hk0 hk1 p7 f7 l7 => ?_
  have ph7 : PH 1 s s7 (1000 * i + 602) := ph6.go ⟨p7, f7⟩ (by omega)
  have hod := ho s7 f7
  have ht7 : s7[0]? = some (some (.tab "law")) := by
    rw [ph7.fr.2 0 (by omega) (by decide)]
    exact ht
  have hcase : ∃ (f : Nat) (m : Mach), kz = (f : Nat) ∧ [a.M p ps, b.M p ps][f]? = some (m.M p ps) := by
    have : kz = 0 ∨ kz = 1 := by omega
    rcases this with rfl | rfl
    · exact ⟨0, a, rfl, rfl⟩
    · exact ⟨1, b, rfl, rfl⟩
  obtain ⟨f, m, rfl, i2⟩ := hcase
  wtm_at "s"
  repeat wtm_at "e"
  refine q_refused ht7 ?_ hod.sh.ro ?_
  · repeat wtm_at "e"
    refine o_idxL rfl i2 ?_
    repeat wtm_at "e"
    refine ⟨_, _, _, rfl, rfl, rfl, ?_⟩
    repeat wtm_at "e"
    exact q_value_no hod.no ⟨rfl, rfl, rfl⟩
  repeat wtm_at "e"
  refine o_reprX hod.sh.ro ?_
  repeat wtm_at "e"
  refine o_neSB hod.sh.ok hod.sh.ok ?_
  repeat wtm_at "e"
  refine ⟨fun z => ?_, fun _ => ?_⟩
  · simp at z
  repeat wtm_at "e"
  refine q_refused ht7 ?_ hod.sh.ro ?_
  · repeat wtm_at "e"
    refine o_idxL rfl i2 ?_
    repeat wtm_at "e"
    refine ⟨_, _, _, rfl, rfl, rfl, ?_⟩
    repeat wtm_at "e"
    exact q_state_no hod.no ⟨rfl, rfl, rfl⟩
  repeat wtm_at "e"
  refine o_reprX hod.sh.ro ?_
  repeat wtm_at "e"
  refine o_neSB hod.sh.ok hod.sh.ok ?_
  repeat wtm_at "e"
  refine ⟨fun z => ?_, fun _ => ?_⟩
  · simp at z
  repeat wtm_at "e"
  exact ⟨ph7.pen.mono (by rw [Int.natCast_succ]; omega), ht7, _, _, _, _, _, _, _, _, _, _, rfl⟩
end
end G

set_option Elab.async false
set_option linter.all false
set_option maxRecDepth 100000
set_option maxHeartbeats 0
open PySem PySem.W PySem.Calls PyProof.Rows
theorem PySem.Challenge.cw_firstanswers_k18_values_modulo_a_prime_holds : PySem.Challenge.rw_firstanswers_k18_values_modulo_a_prime.Holds := by
  w_on; o_law
  refine HandSHeadRun.head_any (r := OpenLaw.row PySem.Challenge.rw_firstanswers_k18_values_modulo_a_prime) (q := view (OpenLaw.row PySem.Challenge.rw_firstanswers_k18_values_modulo_a_prime).prog [69]) (H := G.hk) (ob := G.ob) (M := 20000) (loose := G.loose) (d := HandSHeadRun.topDef (OpenLaw.row PySem.Challenge.rw_firstanswers_k18_values_modulo_a_prime).prog 69) (kwd := []) G.ob_eq
    (by kernel_rfl) (fun s => by kernel_rfl) G.run (by kernel_rfl) (by kernel_rfl) (by kernel_rfl) (by rfl) (by first | assumption | decide +kernel) (by decide +kernel) ⟨rfl, rfl, rfl, rfl, rfl, by decide +kernel⟩ ?hw ?hc
  case hw => w_witness2
  case hc =>
    refine Mp.walk_endT (tl := G.tl0) (l := PySem.Challenge.rw_firstanswers_k18_values_modulo_a_prime) (n := 63) (k := 12) (m := G.m_law) rfl (by decide) (by kernel_rfl) ⟨⟨rfl, by decide, by decide⟩, rfl⟩ ?F (fun ns _ _ => G.law_ok)
    intro w mg fa h Y N hmg0
    obtain ⟨K, KX, c, T⟩ := Y
    have hmg : mg ("law" : PySem.Str) = some (.ref fa) := by
      have e : (HandSHeadRun.topDef (OpenLaw.row PySem.Challenge.rw_firstanswers_k18_values_modulo_a_prime).prog 69).name = ("law" : PySem.Str) := by kernel_rfl
      rw [← e]
      exact hmg0
    have Z : G.FX K mg := ⟨c, h, KX, N⟩
    have e := hmg.symm.trans (G.z115 Z)
    cases e
    exact ⟨K, KX, T, fun base _ _ TB => G.f_law Z TB⟩

