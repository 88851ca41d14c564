import PyProof.Rows.All
import Wide.All
import OpenK.AllK
import Wide.FinOn
import HandS.ForMost
import HandS.ForExc
import HandS.Wide
import HandS.Zip
import HandS.CallSlots
import HandS.HeadHook1
import HandS.HeadHook2
import HandS.Lambda
import HandS.Flow
import HandS.TupAny
import HandS.IsInst
import HandS.Style
import HandS.Property
import HandS.Star
import HandS.ExcInit
import HandS.TryMany
import HandS.HeadWalk
import KE.KExcInit
import HandS.ExcField
import KE.KSuper
import HandS.NestedK
import HandS.RaiseMore
import HandS.Deep
import HandS.Ends
import HandS.EndBits
import HandS.Head0
import HandS.Head1
import HandS.Head2
import HandS.HeadEnd
import HandS.ExcIs
import HandS.DictComp
import HandS.SortInts
import HandS.More
import HandS.Dict
import HandS.Conv
import HandS.HeadNt
import PyProof.DictUpdate
import HandS.SlotsOwn
import HandS.TupMul
import HandS.DictEq
import PyProof.Rows.SortShellAny
import KE.SortKeyHeap
import HandS.Exc
import HandS.ExcValue
import HandS.TupLe
import HandS.ListItems
import KE.KDictList
import PyProof.Rows.StrOr
import PyProof.ReprRoads
import OpenK.KOwn
import KE.GoesRaise
import PyProof.EnumMake
import PyProof.Draws
import KE.GoesMore
import KE.GoesZip
import KE.GoesEnum
import HandS.Replace
import PyProof.ListStr
import KE.KDictZip
import HandS.FStr
import HandS.DeepEq
import PySem.Challenge.RW_firstanswers_k09_words_compared
set_option Elab.async false
set_option linter.all false
set_option maxRecDepth 100000
set_option maxHeartbeats 0
namespace G
open PySem PySem.W PySem.Calls PyProof.Rows
theorem okl (H : (OpenLaw.row PySem.Challenge.rw_firstanswers_k09_words_compared).wellSaid = true → (OpenLaw.row PySem.Challenge.rw_firstanswers_k09_words_compared).Holds) : PySem.Challenge.rw_firstanswers_k09_words_compared.Holds := by
  w_on; o_law
  exact H (by assumption)
end G
set_option Elab.async false
set_option linter.all false
set_option maxRecDepth 100000
set_option maxHeartbeats 4000000
/-! Mp: data trees over the hand layer. A def's text becomes a plain function on data; this part: data, worlds, what is wanted behind a computation. -/
namespace Mp
open PySem PySem.Spec PyProof.Rows L2
/-! ### data -/
inductive D where
  | non | bl (b : Bool) | int (i : Int) | str (z : Str)
  | ty (n : String)
  | glo (x : Str)
  | tup (l : List D) | lst (l : List D) | rol (l : List D)
  | dct (l : List (Key × D))
  | ins (C : Str) (fs : List (Str × D))
  | exn (a : Addr) (d : Option Addr) (C : Str) (fs : List (Str × D))
  | cel (n : Nat)
  | clo (f c : Addr) (q : Str) (t : L2.St) (r : List (Option D))
/-- what a mutable cell holds -/
inductive Ct where
  | lst (l : List D) | dct (l : List (Key × D)) | ins (C : Str) (fs : List (Str × D)) | rod (l : List (Key × D)) | tab (x : Str)
abbrev Sto := List (Option Ct)
abbrev En := List (Option D)
inductive Res (T : Type) where
  | ok (a : T) (s : Sto) | exc (C : Str) (fs : List (Str × D)) (s : Sto) | bad
abbrev DM (T : Type) := En → Sto → Res T
abbrev DE := DM D
inductive Fl where
  | nx (r : En) (s : Sto) | rt (d : D) (s : Sto) | bk (r : En) (s : Sto) | ct (r : En) (s : Sto)
  | exc (C : Str) (fs : List (Str × D)) (r : En) (s : Sto) | bad
abbrev DS := En → Sto → Fl
abbrev DG := D → En → Sto → Option (En × Sto)
def bindM {T U : Type} (m : DM T) (f : T → DM U) : DM U := fun r s => match m r s with
  | .ok a s' => f a r s'
  | .exc C fs s' => .exc C fs s'
  | .bad => .bad
def pureM {T : Type} (a : T) : DM T := fun _ s => .ok a s
/-! ### worlds -/
structure Wd where
  A : Nat → Option Addr
  Z : Addr → Prop
  P : Addr → Prop
  H : Hp
abbrev Frag := PySem.W.Frag
/-- a written list, tuple -/
def KL (K : Frag) (a : Addr) (xs : List V) : Prop := ∃ (o : Obj) (its : Array Value) (n : Nat), K.lookup a = some o ∧ o.cls = .type "list" ∧ o.dict = none ∧ o.data = .seq its n ∧ its.size ≤ sizeLine ∧ Vals xs its.toList
def KT (K : Frag) (a : Addr) (xs : List V) : Prop := ∃ (o : Obj) (its : Array Value) (n : Nat), K.lookup a = some o ∧ o.cls = .type "tuple" ∧ o.data = .seq its n ∧ its.size ≤ sizeLine ∧ Vals xs its.toList
def LAt (K : Frag) (w : Wd) (a : Addr) (xs : List V) : Prop := (w.Z a ∧ Rd w.H a (.lst xs)) ∨ KL K a xs
def TAt (K : Frag) (w : Wd) (a : Addr) (xs : List V) : Prop := (w.Z a ∧ Rd w.H a (.tup xs)) ∨ KT K a xs
theorem LAt.sq {K : Frag} {w : Wd} {a : Addr} {xs : List V} (h : LAt K w a xs) : SqL K w.H a xs := h.elim (fun h => .inl h.2) .inr
theorem TAt.sq {K : Frag} {w : Wd} {a : Addr} {xs : List V} (h : TAt K w a xs) : SqT K w.H a xs := h.elim (fun h => .inl h.2) .inr
/-- all that Rep leans on is kept -/
structure Ex0 (w w' : Wd) : Prop where
  A : ∀ n a, w.A n = some a → w'.A n = some a
  Z : ∀ a, w.Z a → w'.Z a
  H : ∀ a, w.Z a → w'.H a = w.H a
/-- .. and what is pinned -/
structure Ext (w w' : Wd) : Prop extends Ex0 w w' where
  P : ∀ a, w.P a → w'.P a
  HP : ∀ a, w.P a → w'.H a = w.H a
theorem Ext.refl (w : Wd) : Ext w w := ⟨⟨fun _ _ h => h, fun _ h => h, fun _ _ => rfl⟩, fun _ h => h, fun _ _ => rfl⟩
theorem Ext.trans {a b c : Wd} (h : Ext a b) (k : Ext b c) : Ext a c := ⟨⟨fun n x e => k.A n x (h.A n x e), fun x e => k.Z x (h.Z x e), fun x e => (k.H x (h.Z x e)).trans (h.H x e)⟩, fun x e => k.P x (h.P x e), fun x e => (k.HP x (h.P x e)).trans (h.HP x e)⟩
theorem Ex0.rd {w w' : Wd} (e : Ex0 w w') {a : Addr} {u : HO} (z : w.Z a) (h : Rd w.H a u) : Rd w'.H a u := by
  unfold Rd at h ⊢
  rw [e.H a z]
  exact h
theorem LAt.ex0 {K : Frag} {w w' : Wd} (e : Ex0 w w') {a : Addr} {xs : List V} (h : LAt K w a xs) : LAt K w' a xs := h.elim (fun h => .inl ⟨e.Z a h.1, e.rd h.1 h.2⟩) .inr
theorem TAt.ex0 {K : Frag} {w w' : Wd} (e : Ex0 w w') {a : Addr} {xs : List V} (h : TAt K w a xs) : TAt K w' a xs := h.elim (fun h => .inl ⟨e.Z a h.1, e.rd h.1 h.2⟩) .inr
theorem LAt.ext {K : Frag} {w w' : Wd} (e : Ext w w') {a : Addr} {xs : List V} (h : LAt K w a xs) : LAt K w' a xs := h.ex0 e.toEx0
theorem TAt.ext {K : Frag} {w w' : Wd} (e : Ext w w') {a : Addr} {xs : List V} (h : TAt K w a xs) : TAt K w' a xs := h.ex0 e.toEx0
mutual
inductive Rep (K : Frag) (w : Wd) : V → D → Prop
  | non : Rep K w .non .non
  | bl (b : Bool) : Rep K w (.bl b) (.bl b)
  | int (i : Int) : Rep K w (.int i) (.int i)
  | str (z : Str) : Rep K w (.str z) (.str z)
  | ty (n : String) : Rep K w (.ty n) (.ty n)
  | glo (x : Str) : Rep K w (.ref (He.ga K x)) (.glo x)
  | tup {a : Addr} {vs : List V} {ds : List D} : TAt K w a vs → Reps K w vs ds → Rep K w (.ref a) (.tup ds)
  | lst {a : Addr} {vs : List V} {ds : List D} : w.Z a → w.H a = some (.lst vs) → Reps K w vs ds → Rep K w (.ref a) (.lst ds)
  | rol {a : Addr} {vs : List V} {ds : List D} : LAt K w a vs → Reps K w vs ds → Rep K w (.ref a) (.rol ds)
  | dct {a : Addr} {o : Obj} {ks : List Key} {vs : List V} {ds : List D} : w.Z a → w.H a = some (.frz o (.dK (ks.zip vs))) → ks.length = vs.length → Reps K w vs ds → Rep K w (.ref a) (.dct (ks.zip ds))
  | ins {a dx : Addr} {C : Str} {ks : List Str} {vs : List V} {ds : List D} : w.Z a → w.H a = some (.ins (He.ga K C) dx (ks.zip vs)) → ks.length = vs.length → Reps K w vs ds → Rep K w (.ref a) (.ins C (ks.zip ds))
  | exn0 {a : Addr} {C : Str} : Rep K w (.ref a) (.exn a none C [])
  | exn {a dx : Addr} {C : Str} {ks : List Str} {vs : List V} {ds : List D} : w.Z dx → w.H dx = some (.xd (ks.zip vs)) → ks.length = vs.length → Reps K w vs ds → Rep K w (.ref a) (.exn a (some dx) C (ks.zip ds))
  | cel {n : Nat} {a : Addr} : w.A n = some a → Rep K w (.ref a) (.cel n)
  | clo {f c : Addr} {q : Str} {t : L2.St} {r : List (Option D)} : w.Z c → w.H c = some (LamX.CodeO c q) → RepE K w t r → Rep K w (.ref f) (.clo f c q t r)
inductive Reps (K : Frag) (w : Wd) : List V → List D → Prop
  | nil : Reps K w [] []
  | cons {v : V} {d : D} {vs : List V} {ds : List D} : Rep K w v d → Reps K w vs ds → Reps K w (v :: vs) (d :: ds)
inductive RepE (K : Frag) (w : Wd) : List (Option V) → List (Option D) → Prop
  | nil : RepE K w [] []
  | non {v : Option V} {t : List (Option V)} {r : List (Option D)} : RepE K w t r → RepE K w (v :: t) (none :: r)
  | som {v : V} {d : D} {t : List (Option V)} {r : List (Option D)} : Rep K w v d → RepE K w t r → RepE K w (some v :: t) (some d :: r)
end
mutual
theorem Rep.ex0 {K : Frag} {w w' : Wd} (e : Ex0 w w') : ∀ {v : V} {d : D}, Rep K w v d → Rep K w' v d
  | _, _, .non => .non
  | _, _, .bl b => .bl b
  | _, _, .int i => .int i
  | _, _, .str z => .str z
  | _, _, .ty n => .ty n
  | _, _, .glo x => .glo x
  | _, _, .tup h r => .tup (h.ex0 e) (r.ex0 e)
  | _, _, .lst z h r => .lst (e.Z _ z) ((e.H _ z).trans h) (r.ex0 e)
  | _, _, .rol h r => .rol (h.ex0 e) (r.ex0 e)
  | _, _, .dct z h l r => .dct (e.Z _ z) ((e.H _ z).trans h) l (r.ex0 e)
  | _, _, .ins z h l r => .ins (e.Z _ z) ((e.H _ z).trans h) l (r.ex0 e)
  | _, _, .exn0 => .exn0
  | _, _, .exn z h l r => .exn (e.Z _ z) ((e.H _ z).trans h) l (r.ex0 e)
  | _, _, .cel h => .cel (e.A _ _ h)
  | _, _, .clo z h r => .clo (e.Z _ z) ((e.H _ z).trans h) (r.ex0 e)
theorem Reps.ex0 {K : Frag} {w w' : Wd} (e : Ex0 w w') : ∀ {vs : List V} {ds : List D}, Reps K w vs ds → Reps K w' vs ds
  | _, _, .nil => .nil
  | _, _, .cons h r => .cons (h.ex0 e) (r.ex0 e)
theorem RepE.ex0 {K : Frag} {w w' : Wd} (e : Ex0 w w') : ∀ {t : List (Option V)} {r : List (Option D)}, RepE K w t r → RepE K w' t r
  | _, _, .nil => .nil
  | _, _, .non h => .non (h.ex0 e)
  | _, _, .som h r => .som (h.ex0 e) (r.ex0 e)
end
theorem Rep.ext {K : Frag} {w w' : Wd} (e : Ext w w') {v : V} {d : D} (h : Rep K w v d) : Rep K w' v d := h.ex0 e.toEx0
theorem Reps.ext {K : Frag} {w w' : Wd} (e : Ext w w') {v : List V} {d : List D} (h : Reps K w v d) : Reps K w' v d := h.ex0 e.toEx0
theorem Reps.length {K : Frag} {w : Wd} : ∀ {vs : List V} {ds : List D}, Reps K w vs ds → vs.length = ds.length
  | _, _, .nil => rfl
  | _, _, .cons _ r => congrArg (· + 1) r.length
theorem Reps.get {K : Frag} {w : Wd} : ∀ {vs : List V} {ds : List D} {i : Nat} {d : D}, Reps K w vs ds → ds[i]? = some d → ∃ v, vs[i]? = some v ∧ Rep K w v d
  | _, _, _, _, .nil, h => by simp at h
  | _, _, 0, _, .cons h _, e => by
    simp at e
    subst e
    exact ⟨_, rfl, h⟩
  | _, _, i + 1, _, .cons _ r, e => by
    simp at e
    obtain ⟨v, h1, h2⟩ := r.get e
    exact ⟨v, by simpa using h1, h2⟩
theorem Reps.append {K : Frag} {w : Wd} : ∀ {vs us : List V} {ds es : List D}, Reps K w vs ds → Reps K w us es → Reps K w (vs ++ us) (ds ++ es)
  | _, _, _, _, .nil, r => r
  | _, _, _, _, .cons h t, r => .cons h (t.append r)
theorem Reps.set {K : Frag} {w : Wd} {v : V} {d : D} (r : Rep K w v d) : ∀ {vs : List V} {ds : List D} (i : Nat), Reps K w vs ds → Reps K w (vs.set i v) (ds.set i d)
  | _, _, _, .nil => .nil
  | _, _, 0, .cons _ t => .cons r t
  | _, _, i + 1, .cons h t => .cons h (t.set r i)
theorem Reps.drop {K : Frag} {w : Wd} : ∀ {vs : List V} {ds : List D} (n : Nat), Reps K w vs ds → Reps K w (vs.drop n) (ds.drop n)
  | _, _, 0, r => r
  | _, _, _ + 1, .nil => .nil
  | _, _, n + 1, .cons _ t => t.drop n
theorem Reps.take {K : Frag} {w : Wd} : ∀ {vs : List V} {ds : List D} (n : Nat), Reps K w vs ds → Reps K w (vs.take n) (ds.take n)
  | _, _, 0, _ => .nil
  | _, _, _ + 1, .nil => .nil
  | _, _, n + 1, .cons h t => .cons h (t.take n)
/-! ### pairs -/
inductive KVR (K : Frag) (w : Wd) {T : Type} : List (T × V) → List (T × D) → Prop
  | nil : KVR K w [] []
  | cons {k : T} {v : V} {d : D} {l : List (T × V)} {m : List (T × D)} : Rep K w v d → KVR K w l m → KVR K w ((k, v) :: l) ((k, d) :: m)
section
variable {K : Frag} {w w' : Wd} {T : Type}
theorem KVR.ex0 (e : Ex0 w w') : ∀ {l : List (T × V)} {m : List (T × D)}, KVR K w l m → KVR K w' l m
  | _, _, .nil => .nil
  | _, _, .cons h r => .cons (h.ex0 e) (r.ex0 e)
theorem KVR.ext (e : Ext w w') {l : List (T × V)} {m : List (T × D)} (h : KVR K w l m) : KVR K w' l m := h.ex0 e.toEx0
theorem KVR.of_zip : ∀ {ks : List T} {vs : List V} {ds : List D}, ks.length = vs.length → Reps K w vs ds → KVR K w (ks.zip vs) (ks.zip ds)
  | [], _, _, _, _ => .nil
  | k :: ks, _, _, hl, .nil => by cases hl
  | k :: ks, _, _, hl, .cons h r => .cons h (KVR.of_zip (by simpa using hl) r)
theorem KVR.to_zip : ∀ {l : List (T × V)} {m : List (T × D)}, KVR K w l m → ∃ (ks : List T) (vs : List V) (ds : List D), l = ks.zip vs ∧ m = ks.zip ds ∧ ks.length = vs.length ∧ Reps K w vs ds
  | _, _, .nil => ⟨[], [], [], rfl, rfl, rfl, .nil⟩
  | _, _, .cons (k := k) h r => by
    obtain ⟨ks, vs, ds, rfl, rfl, hl, hr⟩ := r.to_zip
    exact ⟨k :: ks, _ :: vs, _ :: ds, rfl, rfl, by simp [hl], .cons h hr⟩
theorem KVR.length : ∀ {l : List (T × V)} {m : List (T × D)}, KVR K w l m → l.length = m.length
  | _, _, .nil => rfl
  | _, _, .cons _ r => congrArg (· + 1) r.length
theorem KVR.keys : ∀ {l : List (T × V)} {m : List (T × D)}, KVR K w l m → l.map (·.1) = m.map (·.1)
  | _, _, .nil => rfl
  | _, _, .cons _ r => by simp [r.keys]
theorem KVR.vals : ∀ {l : List (T × V)} {m : List (T × D)}, KVR K w l m → Reps K w (l.map (·.2)) (m.map (·.2))
  | _, _, .nil => .nil
  | _, _, .cons h r => .cons h r.vals
theorem Rep.dctK {a : Addr} {o : Obj} {l : List (Key × V)} {m : List (Key × D)} (z : w.Z a) (h : w.H a = some (.frz o (.dK l))) (r : KVR K w l m) : Rep K w (.ref a) (.dct m) := by
  obtain ⟨ks, vs, ds, rfl, rfl, hl, hr⟩ := r.to_zip
  exact .dct z h hl hr
theorem Rep.insK {a dx : Addr} {C : Str} {l : List (Str × V)} {m : List (Str × D)} (z : w.Z a) (h : w.H a = some (.ins (He.ga K C) dx l)) (r : KVR K w l m) : Rep K w (.ref a) (.ins C m) := by
  obtain ⟨ks, vs, ds, rfl, rfl, hl, hr⟩ := r.to_zip
  exact .ins z h hl hr
theorem Rep.dct_inv {v : V} {m : List (Key × D)} (h : Rep K w v (.dct m)) : ∃ a o l, v = .ref a ∧ w.Z a ∧ w.H a = some (.frz o (.dK l)) ∧ KVR K w l m := by
  cases h with
  | dct z h hl r => exact ⟨_, _, _, rfl, z, h, KVR.of_zip hl r⟩
theorem Rep.ins_inv {v : V} {C : Str} {m : List (Str × D)} (h : Rep K w v (.ins C m)) : ∃ a dx l, v = .ref a ∧ w.Z a ∧ w.H a = some (.ins (He.ga K C) dx l) ∧ KVR K w l m := by
  cases h with
  | ins z h hl r => exact ⟨_, _, _, rfl, z, h, KVR.of_zip hl r⟩
end
/-! ### the store, the slots -/
/-- the code object of a def of the module, its table, the name of the lambdas in it -/
def codeV (K : Frag) (x : Str) : Value := match K.lookup (He.ga K x) with
  | some ⟨_, _, .func fd, _⟩ => fd.code
  | _ => .none
def codeA (K : Frag) (x : Str) : Addr := match codeV K x with
  | .ref c => c
  | _ => 0
def tabA (K : Frag) (x : Str) : Addr := match K.lookup (codeA K x) with
  | some ⟨_, _, .fields vs, _⟩ => (match (vs[11]? : Option Value) with
    | some (.ref P) => P
    | _ => 0)
  | _ => 0
def lamQ (x : Str) : Str := x ++ ".<locals>." ++ "<lambda>"
def CtR (K : Frag) (w : Wd) (a : Addr) : Ct → Prop
  | .lst ds => ∃ vs, w.H a = some (.lst vs) ∧ Reps K w vs ds
  | .dct m => ∃ l, w.H a = some (.dK l) ∧ KVR K w l m
  | .ins C m => ∃ (dx : Addr) (l : List (Str × V)), w.H a = some (.ins (He.ga K C) dx l) ∧ KVR K w l m
  | .rod m => ∃ (o : Obj) (l : List (Key × V)), w.Z a ∧ w.H a = some (.frz o (.dK l)) ∧ KVR K w l m
  | .tab x => a = tabA K x ∧ ∃ ps : Array Value, w.H a = some (.tbl ps) ∧ TriplesOk ps.toList ∧ ∀ (pos : Pos) (cv : Value), codeAmong pos ps.toList = some cv → ∃ c, cv = .ref c ∧ w.Z c ∧ w.H c = some (LamX.CodeO c (lamQ x))
/-- but for read-only ones, cells are not frozen -/
def NZ (w : Wd) (a : Addr) : Ct → Prop
  | .rod _ => True
  | _ => ¬ w.Z a
theorem NZ.mono {w w' : Wd} {a : Addr} (k : w'.Z a → w.Z a) : ∀ {c : Ct}, NZ w a c → NZ w' a c
  | .lst _, h => fun z => h (k z)
  | .dct _, h => fun z => h (k z)
  | .ins _ _, h => fun z => h (k z)
  | .tab _, h => fun z => h (k z)
  | .rod _, _ => trivial
theorem NZ.of {w : Wd} {a : Addr} (h : ¬ w.Z a) : ∀ {c : Ct}, NZ w a c
  | .lst _ => h
  | .dct _ => h
  | .ins _ _ => h
  | .tab _ => h
  | .rod _ => trivial
structure StR (K : Frag) (w : Wd) (s : Sto) : Prop where
  at_ : ∀ n ct, s[n]? = some (some ct) → ∃ a, w.A n = some a ∧ NZ w a ct ∧ CtR K w a ct
  np : ∀ n ct a, s[n]? = some (some ct) → w.A n = some a → ¬ w.P a
  pz : ∀ a, w.P a → ¬ w.Z a ∧ w.H a ≠ none
  inj : ∀ n m a c d, s[n]? = some (some c) → s[m]? = some (some d) → w.A n = some a → w.A m = some a → n = m
  fz : ∀ a, w.Z a → w.H a ≠ none
  new : ∀ n, s.length ≤ n → w.A n = none
def EnvR (K : Frag) (w : Wd) (r : En) (t : L2.St) : Prop := r.length = t.length ∧ ∀ (i : Nat) (d : D), r[i]? = some (some d) → ∃ v, t[i]? = some (some v) ∧ Rep K w v d
theorem EnvR.ex0 {K : Frag} {w w' : Wd} (e : Ex0 w w') {r : En} {t : L2.St} (h : EnvR K w r t) : EnvR K w' r t := ⟨h.1, fun i d q => let ⟨v, h1, h2⟩ := h.2 i d q; ⟨v, h1, h2.ex0 e⟩⟩
theorem EnvR.ext {K : Frag} {w w' : Wd} (e : Ext w w') {r : En} {t : L2.St} (h : EnvR K w r t) : EnvR K w' r t := h.ex0 e.toEx0
theorem EnvR.set {K : Frag} {w : Wd} {r : En} {t : L2.St} (h : EnvR K w r t) {v : V} {d : D} (q : Rep K w v d) (i : Nat) : EnvR K w (r.set i (some d)) (t.set i (some v)) := by
  refine ⟨by rw [List.length_set, List.length_set, h.1], fun j e hj => ?_⟩
  by_cases hij : i = j
  · subst hij
    by_cases hl : i < r.length
    · rw [List.getElem?_set_self hl] at hj
      cases hj
      exact ⟨v, by rw [List.getElem?_set_self (h.1 ▸ hl)], q⟩
    · rw [List.getElem?_eq_none (by rw [List.length_set]; omega)] at hj
      cases hj
  · rw [List.getElem?_set_ne hij] at hj
    obtain ⟨u, h1, h2⟩ := h.2 j e hj
    exact ⟨u, by rw [List.getElem?_set_ne hij]; exact h1, h2⟩
theorem EnvR.unset {K : Frag} {w : Wd} {r : En} {t : L2.St} (h : EnvR K w r t) (i : Nat) : EnvR K w (r.set i none) (t.set i none) := by
  refine ⟨by rw [List.length_set, List.length_set, h.1], fun j e hj => ?_⟩
  by_cases hij : i = j
  · subst hij
    by_cases hl : i < r.length
    · rw [List.getElem?_set_self hl] at hj
      cases hj
    · rw [List.getElem?_eq_none (by rw [List.length_set]; omega)] at hj
      cases hj
  · rw [List.getElem?_set_ne hij] at hj
    obtain ⟨u, h1, h2⟩ := h.2 j e hj
    exact ⟨u, by rw [List.getElem?_set_ne hij]; exact h1, h2⟩
/-! ### worlds that go on -/
/-- a new object, frozen at once -/
def Wd.frz (w : Wd) (p : Addr) (o : HO) : Wd := ⟨w.A, fun a => w.Z a ∨ a = p, w.P, upd w.H p o⟩
theorem Wd.frz_ext {K : Frag} {w : Wd} {s : Sto} (st : StR K w s) {p : Addr} {o : HO} (h : w.H p = none) : Ext w (w.frz p o) :=
  ⟨⟨fun _ _ h => h, fun _ h => .inl h, fun a z => upd_ne fun e => st.fz a z (e ▸ h)⟩, fun _ h => h, fun a z => upd_ne fun e => (st.pz a z).2 (e ▸ h)⟩
theorem CtR.sam0 {K : Frag} {w w' : Wd} (e : Ex0 w w') {a : Addr} (h : w'.H a = w.H a) : ∀ {c : Ct}, CtR K w a c → CtR K w' a c
  | .lst _, ⟨vs, h1, h2⟩ => ⟨vs, h.trans h1, h2.ex0 e⟩
  | .dct _, ⟨l, h1, h2⟩ => ⟨l, h.trans h1, h2.ex0 e⟩
  | .ins _ _, ⟨dx, l, h1, h2⟩ => ⟨dx, l, h.trans h1, h2.ex0 e⟩
  | .rod _, ⟨o, l, z, h1, h2⟩ => ⟨o, l, e.Z _ z, h.trans h1, h2.ex0 e⟩
  | .tab _, ⟨e0, ps, h1, h2, h3⟩ => ⟨e0, ps, h.trans h1, h2, fun pos cv hc => let ⟨c, c1, c2, c3⟩ := h3 pos cv hc; ⟨c, c1, e.Z _ c2, (e.H _ c2).trans c3⟩⟩
theorem CtR.same {K : Frag} {w w' : Wd} (e : Ext w w') {a : Addr} (h : w'.H a = w.H a) {c : Ct} (q : CtR K w a c) : CtR K w' a c := q.sam0 e.toEx0 h
theorem CtR.some {K : Frag} {w : Wd} {a : Addr} : ∀ {c : Ct}, CtR K w a c → ∃ o, w.H a = some o ∧ True
  | .lst _, ⟨_, h, _⟩ => ⟨_, h, trivial⟩
  | .dct _, ⟨_, h, _⟩ => ⟨_, h, trivial⟩
  | .ins _ _, ⟨_, _, h, _⟩ => ⟨_, h, trivial⟩
  | .rod _, ⟨_, _, _, h, _⟩ => ⟨_, h, trivial⟩
  | .tab _, ⟨_, _, h, _⟩ => ⟨_, h, trivial⟩
theorem Wd.frz_st {K : Frag} {w : Wd} {s : Sto} (st : StR K w s) {p : Addr} {o : HO} (h : w.H p = none) : StR K (w.frz p o) s := by
  have e := Wd.frz_ext st (o := o) h
  refine ⟨fun n ct q => ?_, st.np, fun a z => ?_, st.inj, fun a z => ?_, st.new⟩
  · obtain ⟨a, h1, h2, h3⟩ := st.at_ n ct q
    obtain ⟨ob, ho, _⟩ := h3.some
    have ne : a ≠ p := ne_of_none ho h
    exact ⟨a, h1, h2.mono (w' := w.frz p o) fun (z : w.Z a ∨ a = p) => Or.elim z id fun q => absurd q ne, h3.same e (upd_ne ne)⟩
  · have ne : a ≠ p := fun q => (st.pz a z).2 (q ▸ h)
    exact ⟨fun q => q.elim (st.pz a z).1 ne, by rw [show (w.frz p o).H a = w.H a from upd_ne ne]; exact (st.pz a z).2⟩
  · by_cases hp : a = p
    · show upd w.H p o a ≠ none
      rw [hp, upd_same]
      exact fun z => nomatch z
    · show upd w.H p o a ≠ none
      rw [upd_ne hp]
      exact st.fz a (z.elim id fun z => absurd z hp)
theorem Wd.frz_z {w : Wd} {p : Addr} {o : HO} : (w.frz p o).Z p := .inr rfl
theorem Wd.frz_h {w : Wd} {p : Addr} {o : HO} : (w.frz p o).H p = some o := upd_same
/-- a new object that is nobody's (an own dict) -/
def Wd.put (w : Wd) (p : Addr) (o : HO) : Wd := ⟨w.A, w.Z, w.P, upd w.H p o⟩
theorem Wd.put_ext {K : Frag} {w : Wd} {s : Sto} (st : StR K w s) {p : Addr} {o : HO} (h : w.H p = none) : Ext w (w.put p o) :=
  ⟨⟨fun _ _ h => h, fun _ h => h, fun a z => upd_ne fun e => st.fz a z (e ▸ h)⟩, fun _ h => h, fun a z => upd_ne fun e => (st.pz a z).2 (e ▸ h)⟩
theorem Wd.put_st {K : Frag} {w : Wd} {s : Sto} (st : StR K w s) {p : Addr} {o : HO} (h : w.H p = none) : StR K (w.put p o) s := by
  have e := Wd.put_ext st (o := o) h
  refine ⟨fun n ct q => ?_, st.np, fun a z => ?_, st.inj, fun a z => ?_, st.new⟩
  · obtain ⟨a, h1, h2, h3⟩ := st.at_ n ct q
    obtain ⟨ob, ho, _⟩ := h3.some
    have ne : a ≠ p := ne_of_none ho h
    exact ⟨a, h1, h2, h3.same e (upd_ne ne)⟩
  · have ne : a ≠ p := fun q => (st.pz a z).2 (q ▸ h)
    exact ⟨(st.pz a z).1, by rw [show (w.put p o).H a = w.H a from upd_ne ne]; exact (st.pz a z).2⟩
  · show upd w.H p o a ≠ none
    by_cases hp : a = p
    · rw [hp, upd_same]
      exact fun z => nomatch z
    · rw [upd_ne hp]
      exact st.fz a z
/-- a cell's object is changed -/
theorem Wd.mut_ext {w : Wd} {a : Addr} {o : HO} (h : ¬ w.Z a) (hP : ¬ w.P a) : Ext w (w.put a o) :=
  ⟨⟨fun _ _ h => h, fun _ h => h, fun b z => upd_ne fun e => h (e ▸ z)⟩, fun _ h => h, fun b z => upd_ne fun e => hP (e ▸ z)⟩
theorem Wd.mut_st {K : Frag} {w : Wd} {s : Sto} (st : StR K w s) {n : Nat} {c c' : Ct} {a : Addr} {o : HO} (hn : s[n]? = some (some c)) (ha : w.A n = some a) (hz : ¬ w.Z a) (hc : CtR K (w.put a o) a c') : StR K (w.put a o) (s.set n (some c')) := by
  obtain ⟨a', h1, h2, h3⟩ := st.at_ n c hn
  have ea : a' = a := Option.some.inj (h1.symm.trans ha)
  subst ea
  have hl : n < s.length := (List.getElem?_eq_some_iff.mp hn).1
  have hP := st.np n c a' hn ha
  have e : Ext w (w.put a' o) := Wd.mut_ext hz hP
  have back : ∀ m d, (s.set n (some c'))[m]? = some (some d) → ∃ d', s[m]? = some (some d') := fun m d q => by
    by_cases hm : n = m
    · subst hm
      exact ⟨c, hn⟩
    · rw [List.getElem?_set_ne hm] at q
      exact ⟨d, q⟩
  refine ⟨fun m ct q => ?_, fun m ct b q hb => (back m ct q).elim fun d' q' => st.np m d' b q' hb, fun b z => ⟨(st.pz b z).1, ?_⟩, fun m k b x y qm qk => ?_, fun b z => ?_, fun m hm => st.new m (by rw [List.length_set] at hm; exact hm)⟩
  · by_cases hm : n = m
    · subst hm
      rw [List.getElem?_set_self hl] at q
      cases q
      exact ⟨a', ha, NZ.of hz, hc⟩
    · rw [List.getElem?_set_ne hm] at q
      obtain ⟨b, k1, k2, k3⟩ := st.at_ m ct q
      have ne : b ≠ a' := fun z => hm (st.inj n m a' c ct hn q ha (z ▸ k1))
      exact ⟨b, k1, k2, k3.same e (upd_ne ne)⟩
  · rw [show (w.put a' o).H b = w.H b from upd_ne fun q => hP (q ▸ z)]
    exact (st.pz b z).2
  · obtain ⟨x', qx⟩ := back m x qm
    obtain ⟨y', qy⟩ := back k y qk
    exact st.inj m k b x' y' qx qy
  · show upd w.H a' o b ≠ none
    by_cases hb : b = a'
    · rw [hb, upd_same]
      exact fun z => nomatch z
    · rw [upd_ne hb]
      exact st.fz b z
/-- a new cell -/
def Wd.cell (w : Wd) (n : Nat) (p : Addr) (o : HO) : Wd := ⟨fun m => if m = n then some p else w.A m, w.Z, w.P, upd w.H p o⟩
theorem Wd.cell_ext {K : Frag} {w : Wd} {s : Sto} (st : StR K w s) {p : Addr} {o : HO} (h : w.H p = none) : Ext w (w.cell s.length p o) :=
  ⟨⟨fun m a q => by
    have ne : ¬ m = s.length := fun z => by
      rw [st.new m (by omega)] at q
      exact nomatch q
    show (if m = s.length then some p else w.A m) = some a
    rw [if_neg ne]
    exact q, fun _ h => h, fun a z => upd_ne fun e => st.fz a z (e ▸ h)⟩, fun _ h => h, fun a z => upd_ne fun e => (st.pz a z).2 (e ▸ h)⟩
theorem Wd.cell_st {K : Frag} {w : Wd} {s : Sto} (st : StR K w s) {p : Addr} {o : HO} {c : Ct} (h : w.H p = none) (hc : CtR K (w.cell s.length p o) p c) : StR K (w.cell s.length p o) (s ++ [some c]) := by
  have e := Wd.cell_ext st (o := o) h
  have old : ∀ m ct, m < s.length → s[m]? = some (some ct) → ∃ a, w.A m = some a ∧ NZ w a ct ∧ CtR K w a ct ∧ a ≠ p := fun m ct _ q => by
    obtain ⟨a, h1, h2, h3⟩ := st.at_ m ct q
    obtain ⟨ob, ho, _⟩ := h3.some
    exact ⟨a, h1, h2, h3, ne_of_none ho h⟩
  have at' : ∀ m ct, (s ++ [some c])[m]? = some (some ct) → (m < s.length ∧ s[m]? = some (some ct)) ∨ (m = s.length ∧ ct = c) := fun m ct q => by
    by_cases hm : m < s.length
    · rw [List.getElem?_append_left hm] at q
      exact .inl ⟨hm, q⟩
    · rw [List.getElem?_append_right (by omega)] at q
      by_cases h0 : m - s.length = 0
      · rw [h0] at q
        exact .inr ⟨by omega, by simpa using q.symm⟩
      · rw [List.getElem?_eq_none (by simp; omega)] at q
        cases q
  have nz : ¬ w.Z p := fun z => st.fz p z h
  have AtN : (w.cell s.length p o).A s.length = some p := if_pos rfl
  have AtO : ∀ m, m < s.length → (w.cell s.length p o).A m = w.A m := fun m hm => if_neg (by omega)
  refine ⟨fun m ct q => ?_, fun m ct b q hb => ?_, fun b z => ⟨(st.pz b z).1, ?_⟩, fun m k b x y qm qk hm hk => ?_, fun b z => ?_, fun m hm => ?_⟩
  · rcases at' m ct q with ⟨hm, q⟩ | ⟨rfl, rfl⟩
    · obtain ⟨a, h1, h2, h3, ne⟩ := old m ct hm q
      exact ⟨a, (AtO m hm).trans h1, h2, h3.same e (upd_ne ne)⟩
    · exact ⟨p, AtN, NZ.of nz, hc⟩
  · rcases at' m ct q with ⟨lm, q'⟩ | ⟨rfl, rfl⟩
    · rw [AtO m lm] at hb
      exact st.np m ct b q' hb
    · rw [AtN] at hb
      cases hb
      exact fun z => (st.pz p z).2 h
  · rw [show (w.cell s.length p o).H b = w.H b from upd_ne fun q => (st.pz b z).2 (q ▸ h)]
    exact (st.pz b z).2
  · rcases at' m x qm with ⟨lm, qm'⟩ | ⟨rfl, rfl⟩
    · rcases at' k y qk with ⟨lk, qk'⟩ | ⟨rfl, rfl⟩
      · rw [AtO m lm] at hm
        rw [AtO k lk] at hk
        exact st.inj m k b x y qm' qk' hm hk
      · obtain ⟨a, h1, _, _, ne⟩ := old m x lm qm'
        rw [AtO m lm, h1] at hm
        rw [AtN] at hk
        exact absurd ((Option.some.inj hm).trans (Option.some.inj hk).symm) ne
    · rcases at' k y qk with ⟨lk, qk'⟩ | ⟨rfl, rfl⟩
      · obtain ⟨a, h1, _, _, ne⟩ := old k y lk qk'
        rw [AtO k lk, h1] at hk
        rw [AtN] at hm
        exact absurd ((Option.some.inj hk).trans (Option.some.inj hm).symm) ne
      · rfl
  · show upd w.H p o b ≠ none
    by_cases hb : b = p
    · rw [hb, upd_same]
      exact fun z => nomatch z
    · rw [upd_ne hb]
      exact st.fz b z
  · have hm' : s.length + 1 ≤ m := by
      rw [List.length_append] at hm
      exact hm
    show (if m = s.length then some p else w.A m) = none
    rw [if_neg (by omega)]
    exact st.new m (by omega)
/-- a cell is frozen -/
def Wd.ice (w : Wd) (a : Addr) : Wd := ⟨w.A, fun b => w.Z b ∨ b = a, w.P, w.H⟩
theorem Wd.ice_ext {w : Wd} {a : Addr} : Ext w (w.ice a) := ⟨⟨fun _ _ h => h, fun _ h => .inl h, fun _ _ => rfl⟩, fun _ h => h, fun _ _ => rfl⟩
theorem Wd.ice_st {K : Frag} {w : Wd} {s : Sto} (st : StR K w s) {n : Nat} {c : Ct} {a : Addr} (hn : s[n]? = some (some c)) (ha : w.A n = some a) : StR K (w.ice a) (s.set n none) := by
  obtain ⟨a', h1, h2, h3⟩ := st.at_ n c hn
  have ea : a' = a := Option.some.inj (h1.symm.trans ha)
  subst ea
  have hl : n < s.length := (List.getElem?_eq_some_iff.mp hn).1
  have back : ∀ m d, (s.set n none)[m]? = some (some d) → m ≠ n ∧ s[m]? = some (some d) := fun m d q => by
    by_cases hm : n = m
    · subst hm
      rw [List.getElem?_set_self hl] at q
      cases q
    · rw [List.getElem?_set_ne hm] at q
      exact ⟨fun z => hm z.symm, q⟩
  refine ⟨fun m ct q => ?_, fun m ct b q => st.np m ct b (back m ct q).2, fun b z => ⟨fun q => q.elim (st.pz b z).1 fun e => st.np n c a' hn ha (e ▸ z), (st.pz b z).2⟩, fun m k b x y qm qk => st.inj m k b x y (back m x qm).2 (back k y qk).2, fun b z => ?_, fun m hm => st.new m (by rw [List.length_set] at hm; exact hm)⟩
  · obtain ⟨hm, q⟩ := back m ct q
    obtain ⟨b, k1, k2, k3⟩ := st.at_ m ct q
    have ne : b ≠ a' := fun z => hm (st.inj m n a' ct c q hn (z ▸ k1) ha)
    exact ⟨b, k1, k2.mono (w' := w.ice a') fun (z : w.Z b ∨ b = a') => Or.elim z id fun q => absurd q ne, k3.same Wd.ice_ext rfl⟩
  · rcases z with z | z
    · exact st.fz b z
    · obtain ⟨ob, ho, _⟩ := h3.some
      show w.H b ≠ none
      rw [z, ho]
      exact fun z => nomatch z
/-- a cell is locked: read by everybody, written by nobody -/
def Wd.lock (w : Wd) (a : Addr) (o : HO) : Wd := ⟨w.A, fun b => w.Z b ∨ b = a, w.P, upd w.H a o⟩
theorem Wd.lock_ext {w : Wd} {a : Addr} {o : HO} (h : ¬ w.Z a) (hP : ¬ w.P a) : Ext w (w.lock a o) :=
  ⟨⟨fun _ _ h => h, fun _ h => .inl h, fun b z => upd_ne fun e => h (e ▸ z)⟩, fun _ h => h, fun b z => upd_ne fun e => hP (e ▸ z)⟩
theorem Wd.lock_st {K : Frag} {w : Wd} {s : Sto} (st : StR K w s) {n : Nat} {c : Ct} {m : List (Key × D)} {a : Addr} {o : HO} (hn : s[n]? = some (some c)) (ha : w.A n = some a) (hz : ¬ w.Z a) (hc : CtR K (w.lock a o) a (.rod m)) : StR K (w.lock a o) (s.set n (some (.rod m))) := by
  have hl : n < s.length := (List.getElem?_eq_some_iff.mp hn).1
  have hP := st.np n c a hn ha
  have e : Ext w (w.lock a o) := Wd.lock_ext hz hP
  have back : ∀ m' d, (s.set n (some (.rod m)))[m']? = some (some d) → ∃ d', s[m']? = some (some d') := fun m' d q => by
    by_cases hm : n = m'
    · subst hm
      exact ⟨c, hn⟩
    · rw [List.getElem?_set_ne hm] at q
      exact ⟨d, q⟩
  refine ⟨fun m' ct q => ?_, fun m' ct b q hb => (back m' ct q).elim fun d' q' => st.np m' d' b q' hb, fun b z => ⟨fun q => Or.elim q (st.pz b z).1 fun e => hP (e ▸ z), ?_⟩, fun m' k b x y qm qk => ?_, fun b z => ?_, fun m' hm => st.new m' (by rw [List.length_set] at hm; exact hm)⟩
  · by_cases hm : n = m'
    · subst hm
      rw [List.getElem?_set_self hl] at q
      cases q
      exact ⟨a, ha, trivial, hc⟩
    · rw [List.getElem?_set_ne hm] at q
      obtain ⟨b, k1, k2, k3⟩ := st.at_ m' ct q
      have ne : b ≠ a := fun z => hm (st.inj n m' a c ct hn q ha (z ▸ k1))
      exact ⟨b, k1, k2.mono (w' := w.lock a o) fun (z : w.Z b ∨ b = a) => Or.elim z id fun q => absurd q ne, k3.same e (upd_ne ne)⟩
  · rw [show (w.lock a o).H b = w.H b from upd_ne fun q => hP (q ▸ z)]
    exact (st.pz b z).2
  · obtain ⟨x', qx⟩ := back m' x qm
    obtain ⟨y', qy⟩ := back k y qk
    exact st.inj m' k b x' y' qx qy
  · show upd w.H a o b ≠ none
    by_cases hb : b = a
    · rw [hb, upd_same]
      exact fun z => nomatch z
    · rw [upd_ne hb]
      exact st.fz b (Or.elim z id fun q => absurd q hb)
/-! ### what is wanted behind -/
/-- an exception's own dict: its fields -/
def ExR (K : Frag) (w : Wd) : Option Addr → List (Str × D) → Prop
  | none, fs => fs = []
  | some a, fs => w.Z a ∧ ∃ l, w.H a = some (.xd l) ∧ KVR K w l fs
def Post {T U : Type} (K : Frag) (R : Wd → U → T → Prop) (w : Wd) (E : XK) (Q : U → Hp → Prop) : Res T → Prop
  | .ok a s' => ∀ x w', Ext w w' → StR K w' s' → R w' x a → Q x w'.H
  | .exc C fs s' => ∀ ed w', Ext w w' → StR K w' s' → ExR K w' ed fs → E (.ref (He.ga K C)) ed w'.H
  | .bad => False
theorem Post.ext {T U : Type} {K : Frag} {R : Wd → U → T → Prop} {w w1 : Wd} {E : XK} {Q : U → Hp → Prop} (e : Ext w w1) : ∀ {r : Res T}, Post K R w E Q r → Post K R w1 E Q r
  | .ok _ _, h => fun x w' e' => h x w' (e.trans e')
  | .exc _ _ _, h => fun x w' e' => h x w' (e.trans e')
  | .bad, h => h
def tM {T U : Type} (K : Frag) (R : Wd → U → T → Prop) (W : WX) (m : DM T) : L2.St → Hp → (U → Hp → Prop) → Prop := fun t H Q =>
  ∃ r s w, w.H = H ∧ EnvR K w r t ∧ StR K w s ∧ Post K R w (fun c d H' => W c d t H') Q (m r s)
abbrev tE (K : Frag) (W : WX) (m : DE) : TE := tM K (Rep K) W m
abbrev tT (K : Frag) (W : WX) (m : DM Bool) : TT := tM K (fun _ (b c : Bool) => b = c) W m
abbrev tA (K : Frag) (W : WX) (m : DM (List D)) : TA := tM K (Reps K) W m
theorem Post.bind {T T' U U' : Type} {K : Frag} {R : Wd → U → T → Prop} {R' : Wd → U' → T' → Prop} {w : Wd} {r : En} {t : L2.St} {s : Sto} {W : WX} {Q : U' → Hp → Prop} {P : U → Hp → Prop} {m : DM T} {f : T → DM T'}
    (hp : Post K R' w (fun c d H' => W c d t H') Q (bindM m f r s)) (env : EnvR K w r t) (st : StR K w s)
    (k : ∀ x a s1 w1, Ext w w1 → StR K w1 s1 → R w1 x a → Post K R' w1 (fun c d H' => W c d t H') Q (f a r s1) → P x w1.H) : tM K R W m t w.H P := by
  refine ⟨r, s, w, rfl, env, st, ?_⟩
  unfold bindM at hp
  cases e : m r s with
  | ok a s1 =>
    rw [e] at hp
    exact fun x w1 e1 st1 r1 => k x a s1 w1 e1 st1 r1 (Post.ext e1 hp)
  | exc C fs s1 =>
    rw [e] at hp
    exact hp
  | bad =>
    rw [e] at hp
    exact hp
theorem Post.pure {T U : Type} {K : Frag} {R : Wd → U → T → Prop} {w : Wd} {E : XK} {Q : U → Hp → Prop} {a : T} {s : Sto} {x : U} (hp : Post K R w E Q (.ok a s)) (st : StR K w s) (h : R w x a) : Q x w.H := hp x w (Ext.refl w) st h
section
variable {X : Cx} {e : Expr} {es : List Expr}
theorem PE.imp {t t' : TE} (h : PE X e t) (i : ∀ σ H Q, t' σ H Q → t σ H Q) : PE X e t' := ⟨fun pins s σ H Q I q => h.run pins s σ H Q I (i _ _ _ q)⟩
theorem PT.imp {t t' : TT} (h : PT X e t) (i : ∀ σ H Q, t' σ H Q → t σ H Q) : PT X e t' := ⟨fun pins s σ H Q I q => h.run pins s σ H Q I (i _ _ _ q)⟩
theorem PA.imp {t t' : TA} (h : PA X es t) (i : ∀ σ H Q, t' σ H Q → t σ H Q) : PA X es t' := ⟨fun pos pins s σ H Q I q => h.run pos pins s σ H Q I (i _ _ _ q)⟩
theorem PS.imp {st : Stmt} {t t' : TS} (h : PS X st t) (i : ∀ D σ H, t' D σ H → t D σ H) : PS X st t' := ⟨fun pins s σ H D I q => h.run pins s σ H D I (i _ _ _ q)⟩
theorem PSs.imp {st : List Stmt} {t t' : TS} (h : PSs X st t) (i : ∀ D σ H, t' D σ H → t D σ H) : PSs X st t' := ⟨fun pins s σ H D I q => h.run pins s σ H D I (i _ _ _ q)⟩
theorem OpR.or {f : Value → Value → Sem Value} {r1 r2 : R2} (h1 : OpR X f r1) (h2 : OpR X f r2) : OpR X f (fun x y H Q => r1 x y H Q ∨ r2 x y H Q) := fun pins s σ H x y v u Q I rx ry h =>
  h.elim (h1 pins s σ H x y v u Q I rx ry) (h2 pins s σ H x y v u Q I rx ry)
theorem CallR.or {f : Value} {r1 r2 : List V → Hp → VK → Prop} (h1 : CallR X f r1) (h2 : CallR X f r2) : CallR X f (fun x H Q => r1 x H Q ∨ r2 x H Q) := fun pins s σ H x v Q I rx h =>
  h.elim (h1 pins s σ H x v Q I rx) (h2 pins s σ H x v Q I rx)
theorem PE.or {t1 t2 : TE} (h1 : PE X e t1) (h2 : PE X e t2) : PE X e (fun σ H Q => t1 σ H Q ∨ t2 σ H Q) := ⟨fun pins s σ H Q I q => q.elim (h1.run pins s σ H Q I) (h2.run pins s σ H Q I)⟩
end
/-! ### statements -/
def PostS (K : Frag) (w : Wd) (W : WX) (E : Ends) : Fl → Prop
  | .nx r' s' => ∀ t' w', Ext w w' → EnvR K w' r' t' → StR K w' s' → E.nx t' w'.H
  | .rt d s' => ∀ v w', Ext w w' → StR K w' s' → Rep K w' v d → E.rt v w'.H
  | .bk r' s' => ∀ t' w', Ext w w' → EnvR K w' r' t' → StR K w' s' → E.bk t' w'.H
  | .ct r' s' => ∀ t' w', Ext w w' → EnvR K w' r' t' → StR K w' s' → E.ct t' w'.H
  | .exc C fs r' s' => ∀ t' ed w', Ext w w' → EnvR K w' r' t' → StR K w' s' → ExR K w' ed fs → W (.ref (He.ga K C)) ed t' w'.H
  | .bad => False
theorem PostS.ext {K : Frag} {w w1 : Wd} {W : WX} {E : Ends} (e : Ext w w1) : ∀ {r : Fl}, PostS K w W E r → PostS K w1 W E r
  | .nx _ _, h => fun x w' e' => h x w' (e.trans e')
  | .rt _ _, h => fun x w' e' => h x w' (e.trans e')
  | .bk _ _, h => fun x w' e' => h x w' (e.trans e')
  | .ct _ _, h => fun x w' e' => h x w' (e.trans e')
  | .exc _ _ _ _, h => fun x y w' e' => h x y w' (e.trans e')
  | .bad, h => h
def tS (K : Frag) (W : WX) (m : DS) : TS := fun E t H => ∃ r s w, w.H = H ∧ EnvR K w r t ∧ StR K w s ∧ PostS K w W E (m r s)
/-- a statement that goes on with what an expression gives -/
def thenS {T : Type} (m : DM T) (f : T → DS) : DS := fun r s => match m r s with
  | .ok a s' => f a r s'
  | .exc C fs s' => .exc C fs r s'
  | .bad => .bad
theorem PostS.bind {T U : Type} {K : Frag} {R : Wd → U → T → Prop} {w : Wd} {r : En} {t : L2.St} {s : Sto} {W : WX} {E : Ends} {P : U → Hp → Prop} {m : DM T} {f : T → DS}
    (hp : PostS K w W E (thenS m f r s)) (env : EnvR K w r t) (st : StR K w s)
    (k : ∀ x a s1 w1, Ext w w1 → StR K w1 s1 → R w1 x a → PostS K w1 W E (f a r s1) → P x w1.H) : tM K R W m t w.H P := by
  refine ⟨r, s, w, rfl, env, st, ?_⟩
  unfold thenS at hp
  cases e : m r s with
  | ok a s1 =>
    rw [e] at hp
    exact fun x w1 e1 st1 r1 => k x a s1 w1 e1 st1 r1 (PostS.ext e1 hp)
  | exc C fs s1 =>
    rw [e] at hp
    exact fun ed w1 e1 st1 x1 => hp t ed w1 e1 (env.ext e1) st1 x1
  | bad =>
    rw [e] at hp
    exact hp
end Mp
set_option Elab.async false
set_option linter.all false
set_option maxRecDepth 100000
set_option maxHeartbeats 4000000
/-! Mp: expressions without own objects. -/
namespace Mp
open PySem PySem.Spec PyProof.Rows L2
/-! ### on data -/
def vM (i : Nat) : DE := fun r s => match r[i]? with
  | some (some d) => .ok d s
  | _ => .bad
def cM (d : D) : DE := fun _ s => .ok d s
def binM (f : D → D → Sto → Res D) (a b : DE) : DE := bindM a fun x => bindM b fun y => fun _ s => f x y s
def unM (f : D → Sto → Res D) (a : DE) : DE := bindM a fun x => fun _ s => f x s
/-- a list of one's own: frozen, a cell's -/
def lstX (s : Sto) : D → Option (List D)
  | .lst l => some l
  | .cel n => (match s[n]? with
    | some (some (.lst l)) => some l
    | _ => none)
  | _ => none
/-- a list that is read -/
def lstOf (s : Sto) : D → Option (List D)
  | .rol l => some l
  | x => lstX s x
def dctOf (s : Sto) : D → Option (List (Key × D))
  | .dct l => some l
  | .cel n => (match s[n]? with
    | some (some (.dct l)) => some l
    | some (some (.rod l)) => some l
    | _ => none)
  | _ => none
def insOf (s : Sto) : D → Option (Str × List (Str × D))
  | .ins C l => some (C, l)
  | .cel n => (match s[n]? with
    | some (some (.ins C l)) => some (C, l)
    | _ => none)
  | _ => none
def addD (x y : D) (s : Sto) : Res D := match x with
  | .int i => (match y with
    | .int j => .ok (.int (i + j)) s
    | _ => .bad)
  | .str i => (match y with
    | .str j => if i.length + j.length ≤ sizeLine then .ok (.str (i ++ j)) s else .bad
    | _ => .bad)
  | .tup i => (match y with
    | .tup j => if i.length + j.length ≤ sizeLine then .ok (.tup (i ++ j)) s else .bad
    | _ => .bad)
  | x => (match lstX s x with
    | some i => (match lstX s y with
      | some j => if i.length + j.length ≤ sizeLine then .ok (.lst (i ++ j)) s else .bad
      | none => .bad)
    | none => .bad)
def subD (x y : D) (s : Sto) : Res D := match x with
  | .int i => (match y with
    | .int j => .ok (.int (i - j)) s
    | _ => .bad)
  | _ => .bad
def mulC (i j : Int) : Bool := decide (i.natAbs.log2 + j.natAbs.log2 < 1000000)
@[irreducible] def mulD (x y : D) (s : Sto) : Res D := match x with
  | .int i => (match y with
    | .int j => if mulC i j = true then .ok (.int (i * j)) s else .bad
    | _ => .bad)
  | x => (match lstX s x with
    | none => .bad
    | some l => match y with
    | .int k => if 0 ≤ k ∧ k < 2 ^ 62 ∧ l.length * k.toNat ≤ sizeLine then .ok (.lst (List.replicate k.toNat l).flatten) s else .bad
    | _ => .bad)
@[irreducible] def divD (x y : D) (s : Sto) : Res D := match x with
  | .int i => (match y with
    | .int j => if 0 < j ∧ j.natAbs.log2 < 9000 then .ok (.int (i / j)) s else if j < 0 ∧ j.natAbs.log2 < 9000 then .ok (.int (i.fdiv j)) s else .bad
    | _ => .bad)
  | _ => .bad
def modD (x y : D) (s : Sto) : Res D := match x with
  | .int i => (match y with
    | .int j => if 0 < j then .ok (.int (i % j)) s else if j < 0 then .ok (.int (i.fmod j)) s else .bad
    | _ => .bad)
  | _ => .bad
@[irreducible] def powD (x y : D) (s : Sto) : Res D := match x with
  | .int i => (match y with
    | .int j => if 0 ≤ j ∧ j ≤ 1000000 ∧ i.natAbs < 2 ^ 64 then .ok (.int (i ^ j.toNat)) s else .bad
    | _ => .bad)
  | _ => .bad
def negD (x : D) (s : Sto) : Res D := match x with
  | .int i => .ok (.int (-i)) s
  | _ => .bad
/-- truth -/
def truD (s : Sto) : D → Option Bool
  | .non => some false
  | .bl b => some b
  | .int i => some (i != 0)
  | .str z => if z.length ≤ sizeLine then some ((z.length : Int) != 0) else none
  | .tup l => some (!l.isEmpty)
  | x => (lstOf s x).map fun l => !l.isEmpty
def truM (a : DE) : DM Bool := bindM a fun x => fun _ s => match truD s x with
  | some b => .ok b s
  | none => .bad
def notV (a : DE) : DE := bindM (truM a) fun b => pureM (.bl (!b))
def andV (a b : DE) : DE := bindM a fun x => bindM (truM (cM x)) fun k => if k = true then b else pureM x
def orV (a b : DE) : DE := bindM a fun x => bindM (truM (cM x)) fun k => if k = true then pureM x else b
def notT (a : DM Bool) : DM Bool := bindM a fun b => pureM (!b)
def andT (a b : DM Bool) : DM Bool := bindM a fun k => if k = true then b else pureM false
def orT (a b : DM Bool) : DM Bool := bindM a fun k => if k = true then pureM true else b
def ifM (c : DM Bool) (a b : DE) : DE := bindM c fun k => if k = true then a else b
/-- a test that a value's own bool makes -/
def blM (a : DE) : DM Bool := bindM a fun x => fun _ s => match x with
  | .bl b => .ok b s
  | _ => .bad
def ltD (g : Int → Int → Bool) (h : List Nat → List Nat → Bool) (x y : D) (s : Sto) : Res D := match x with
  | .int i => (match y with
    | .int j => .ok (.bl (g i j)) s
    | _ => .bad)
  | .str i => (match y with
    | .str j => .ok (.bl (h i.cps.toList j.cps.toList)) s
    | _ => .bad)
  | _ => .bad
abbrev ltI : D → D → Sto → Res D := ltD (fun i j => decide (i < j)) (fun i j => decide (i < j))
abbrev leI : D → D → Sto → Res D := ltD (fun i j => decide (i ≤ j)) (fun i j => !decide (j < i))
abbrev gtI : D → D → Sto → Res D := ltD (fun i j => decide (j < i)) (fun i j => decide (j < i))
abbrev geI : D → D → Sto → Res D := ltD (fun i j => decide (j ≤ i)) (fun i j => !decide (i < j))
/-! ### soundness -/
section
variable {K : Frag} {w : Wd} {s : Sto} {x : V} {d : D}
theorem lstX_ok {l : List D} (st : StR K w s) (r : Rep K w x d) (h : lstX s d = some l) : ∃ p vs, x = .ref p ∧ w.H p = some (.lst vs) ∧ Reps K w vs l := by
  cases r with
  | lst z hh rs =>
    cases h
    exact ⟨_, _, rfl, hh, rs⟩
  | @cel n a0 ha =>
    have h' : (match s[n]? with
      | some (some (.lst l)) => some l
      | _ => none) = some l := h
    cases e : s[n]? with
    | none => rw [e] at h'; cases h'
    | some o =>
      rw [e] at h'
      cases o with
      | none => cases h'
      | some c =>
        cases c with
        | lst l1 =>
          cases h'
          obtain ⟨a1, h1, _, vs, hh, rs⟩ := st.at_ n _ e
          have ea : a1 = a0 := Option.some.inj (h1.symm.trans ha)
          subst ea
          exact ⟨_, vs, rfl, hh, rs⟩
        | _ => cases h'
  | _ => cases h
theorem lstOf_ok {l : List D} (st : StR K w s) (r : Rep K w x d) (h : lstOf s d = some l) : ∃ p vs, x = .ref p ∧ SqL K w.H p vs ∧ Reps K w vs l := by
  have key : lstX s d = some l → ∃ p vs, x = .ref p ∧ SqL K w.H p vs ∧ Reps K w vs l := fun h => by
    obtain ⟨p, vs, h1, h2, h3⟩ := lstX_ok st r h
    exact ⟨p, vs, h1, SqL.of h2, h3⟩
  cases d with
  | rol l1 =>
    cases h
    cases r with
    | rol hh rs => exact ⟨_, _, rfl, hh.sq, rs⟩
  | _ => exact key h
theorem dctOf_ok {m : List (Key × D)} (st : StR K w s) (r : Rep K w x d) (h : dctOf s d = some m) : ∃ p l, x = .ref p ∧ Rd w.H p (.dK l) ∧ KVR K w l m := by
  cases d with
  | dct m1 =>
    cases h
    obtain ⟨a, o, l, rfl, _, h1, h2⟩ := r.dct_inv
    exact ⟨a, l, rfl, .inr ⟨o, h1⟩, h2⟩
  | cel n =>
    have h' : (match s[n]? with
      | some (some (.dct l)) => some l
      | some (some (.rod l)) => some l
      | _ => none) = some m := h
    cases r with
    | cel ha =>
      cases e : s[n]? with
      | none => rw [e] at h'; cases h'
      | some o =>
        rw [e] at h'
        cases o with
        | none => cases h'
        | some c =>
          cases c with
          | dct l1 =>
            cases h'
            obtain ⟨a1, h1, _, l, hh, rs⟩ := st.at_ n _ e
            have ea := Option.some.inj (h1.symm.trans ha)
            subst ea
            exact ⟨_, l, rfl, .inl hh, rs⟩
          | rod l1 =>
            cases h'
            obtain ⟨a1, h1, _, o, l, _, hh, rs⟩ := st.at_ n _ e
            have ea := Option.some.inj (h1.symm.trans ha)
            subst ea
            exact ⟨_, l, rfl, .inr ⟨o, hh⟩, rs⟩
          | _ => cases h'
  | _ => cases h
theorem insOf_ok {C : Str} {m : List (Str × D)} (st : StR K w s) (r : Rep K w x d) (h : insOf s d = some (C, m)) : ∃ p dx l, x = .ref p ∧ w.H p = some (.ins (He.ga K C) dx l) ∧ KVR K w l m := by
  cases d with
  | ins C1 m1 =>
    cases h
    obtain ⟨a, dx, l, rfl, _, h1, h2⟩ := r.ins_inv
    exact ⟨a, dx, l, rfl, h1, h2⟩
  | cel n =>
    have h' : (match s[n]? with
      | some (some (.ins C l)) => some (C, l)
      | _ => none) = some (C, m) := h
    cases r with
    | cel ha =>
      cases e : s[n]? with
      | none => rw [e] at h'; cases h'
      | some o =>
        rw [e] at h'
        cases o with
        | none => cases h'
        | some c =>
          cases c with
          | ins C1 l1 =>
            cases h'
            obtain ⟨a1, h1, _, dx, l, hh, rs⟩ := st.at_ n _ e
            have ea := Option.some.inj (h1.symm.trans ha)
            subst ea
            exact ⟨_, dx, l, rfl, hh, rs⟩
          | _ => cases h'
  | _ => cases h
end
section
variable {X : Cx} {W : WX} {a b c : Expr} {pos : Pos} {ma mb mc : DE}
theorem e_var {i : Nat} {x : Str} (hN : X.N[i]? = some x) (hv : Vis X.env.scope x) (hd : (x == ("__debug__" : Str)) = false) (hcd : (x == ("__classdict__" : Str)) = false) : PE X (.Name x pos) (tE X.K W (vM i)) :=
  PE.imp (pe_var hN hv hd hcd) fun t H Q h => by
    obtain ⟨r, s, w, rfl, env, st, hp⟩ := h
    unfold vM at hp
    cases e : r[i]? with
    | none =>
      rw [e] at hp
      exact hp.elim
    | some o =>
      cases o with
      | none =>
        rw [e] at hp
        exact hp.elim
      | some d =>
        rw [e] at hp
        obtain ⟨v, h1, h2⟩ := env.2 i d e
        exact ⟨v, h1, hp.pure st h2⟩
theorem ev (i : Nat) {x : Str} (hN : X.N[i]? = some x := by rfl) (hv : Vis X.env.scope x := by first | exact Or.inl rfl | exact Or.inr (Or.inl rfl) | exact Or.inr (Or.inr rfl)) (hd : (x == ("__debug__" : Str)) = false := by decide)
    (hcd : (x == ("__classdict__" : Str)) = false := by decide) : PE X (.Name x pos) (tE X.K W (vM i)) := e_var hN hv hd hcd
theorem e_c {e : Expr} {v : V} {d : D} (h : PE X e (tC v)) (hr : ∀ w, Rep X.K w v d) : PE X e (tE X.K W (cM d)) := PE.imp h fun t H Q h => by
  obtain ⟨r, s, w, rfl, env, st, hp⟩ := h
  exact hp.pure st (hr w)
theorem e_int {i : Int} {j : Nat} : PE X (.Constant (.int i) j pos) (tE X.K W (cM (.int i))) := e_c pe_int fun _ => .int i
theorem e_bl {i : Bool} {j : Nat} : PE X (.Constant (.bool i) j pos) (tE X.K W (cM (.bl i))) := e_c pe_bl fun _ => .bl i
theorem e_non {j : Nat} : PE X (.Constant .none j pos) (tE X.K W (cM .non)) := e_c pe_non fun _ => .non
theorem e_str {z : Str} {j : Nat} : PE X (.Constant (.str z) j pos) (tE X.K W (cM (.str z))) := e_c pe_str fun _ => .str z
theorem e_gint {x : Str} {i : Int} (hg : Gl X x) (hm : ∃ t, X.mg x = some (.int i t)) (hd : (x == ("__debug__" : Str)) = false := by decide) : PE X (.Name x pos) (tE X.K W (cM (.int i))) := by
  obtain ⟨t, hm⟩ := hm
  exact e_c (pe_glob (v := .int i) hg hm ⟨_, rfl⟩ hd) fun _ => .int i
theorem e_gstr {x z : Str} (hg : Gl X x) (hm : ∃ t, X.mg x = some (.str z t)) (hd : (x == ("__debug__" : Str)) = false := by decide) : PE X (.Name x pos) (tE X.K W (cM (.str z))) := by
  obtain ⟨t, hm⟩ := hm
  exact e_c (pe_glob (v := .str z) hg hm ⟨_, rfl⟩ hd) fun _ => .str z
/-- a built-in class as a value -/
theorem e_ty {x : Str} {n : String} (hg : Gl X x) (hm : X.mg x = none) (hv : bootBuiltins x = some (.type n)) (hn : x ≠ "__name__" := by decide) (hd : (x == ("__debug__" : Str)) = false := by decide) : PE X (.Name x pos) (tE X.K W (cM (.ty n))) :=
  e_c (pe_bltn (v := .ty n) hg hm hv rfl hn hd) fun _ => .ty n
/-- what an operation on values asks, from what the data's operation gives -/
def VR2 (K : Frag) (r : R2) (f : D → D → Sto → Res D) : Prop := ∀ w s x y a b Q E, StR K w s → Rep K w x a → Rep K w y b → Post K (Rep K) w E Q (f a b s) → r x y w.H Q
theorem e_bin {op : Operator} {f : D → D → Sto → Res D} {r : R2} (ho : OpR X (binaryOp op) r) (hv : VR2 X.K r f) (ha : PE X a (tE X.K W ma)) (hb : PE X b (tE X.K W mb)) : PE X (.BinOp a op b pos) (tE X.K W (binM f ma mb)) :=
  PE.imp (pe_op ho ha hb) fun t H Q h => by
    obtain ⟨r, s, w, rfl, env, st, hp⟩ := h
    exact hp.bind env st fun x d s1 w1 e1 st1 r1 hp1 => hp1.bind (env.ext e1) st1 fun y d2 s2 w2 e2 st2 r2 hp2 => hv w2 s2 x y d d2 Q _ st2 (r1.ext e2) r2 hp2
theorem e_cmp {op : CmpOp} {f : D → D → Sto → Res D} {r : R2} (ho : OpR X (compareOp op) r) (hv : VR2 X.K r f) (ha : PE X a (tE X.K W ma)) (hb : PE X b (tE X.K W mb)) (hm : behindInMarks op b = false) : PE X (.Compare a [op] [b] pos) (tE X.K W (binM f ma mb)) :=
  PE.imp (pe_cmpR ho ha hb hm) fun t H Q h => by
    obtain ⟨r, s, w, rfl, env, st, hp⟩ := h
    exact hp.bind env st fun x d s1 w1 e1 st1 r1 hp1 => hp1.bind (env.ext e1) st1 fun y d2 s2 w2 e2 st2 r2 hp2 => hv w2 s2 x y d d2 Q _ st2 (r1.ext e2) r2 hp2
/-- the value of a comparison is a bool -/
theorem Post.toBl {K : Frag} {w : Wd} {E : XK} {Q : Bool → Hp → Prop} {x : D} {s : Sto} (hp : Post K (fun _ (b c : Bool) => b = c) w E Q (match x with | .bl b => .ok b s | _ => .bad)) : Post K (Rep K) w E (fun v H' => ∃ k, v = V.bl k ∧ Q k H') (.ok x s) := fun v w' e st r => by
  cases r with
  | bl b => exact ⟨b, rfl, hp b w' e st rfl⟩
  | _ => exact hp.elim
theorem bind_assoc {T U Z : Type} (m : DM T) (f : T → DM U) (g : U → DM Z) : bindM (bindM m f) g = bindM m fun x => bindM (f x) g := by
  funext r s
  unfold bindM
  cases m r s <;> rfl
theorem t_cmp {op : CmpOp} {f : D → D → Sto → Res D} {r : R2} (ho : OpR X (compareOp op) r) (hv : VR2 X.K r f) (ha : PE X a (tE X.K W ma)) (hb : PE X b (tE X.K W mb)) (hm : behindInMarks op b = false) : PT X (.Compare a [op] [b] pos) (tT X.K W (blM (binM f ma mb))) :=
  PT.imp (pt_cmpR ho ha hb hm) fun t H Q h => by
    obtain ⟨r, s, w, rfl, env, st, hp⟩ := h
    have hp' : Post X.K (fun _ (b c : Bool) => b = c) w (fun c d H' => W c d t H') Q (bindM ma (fun x => bindM mb fun y => bindM (fun _ s => f x y s) fun z => fun _ s => match z with | .bl b => .ok b s | _ => .bad) r s) := by
      have e : blM (binM f ma mb) = bindM ma (fun x => bindM mb fun y => bindM (fun _ s => f x y s) fun z => fun _ s => match z with | .bl b => .ok b s | _ => .bad) := by
        unfold blM binM
        rw [bind_assoc]
        congr 1
        funext x
        rw [bind_assoc]
      rw [← e]
      exact hp
    exact hp'.bind env st fun x d s1 w1 e1 st1 r1 hp1 => hp1.bind (env.ext e1) st1 fun y d2 s2 w2 e2 st2 r2 hp2 => hv w2 s2 x y d d2 _ (fun c d H' => W c d t H') st2 (r1.ext e2) r2 (by
      unfold bindM at hp2
      dsimp only at hp2
      cases e : f d d2 s2 with
      | ok z s3 =>
        rw [e] at hp2
        exact Post.toBl hp2
      | exc C fs s3 =>
        rw [e] at hp2
        exact hp2
      | bad =>
        rw [e] at hp2
        exact hp2)
theorem tru_ok {w : Wd} {s : Sto} {x : V} {d : D} {k : Bool} (st : StR X.K w s) (r : Rep X.K w x d) (h : truD s d = some k) : TruV X.K x w.H k := by
  have seq : (lstOf s d).map (fun l => !l.isEmpty) = some k → TruV X.K x w.H k := fun h => by
    cases e : lstOf s d with
    | none => rw [e] at h; cases h
    | some l =>
      rw [e] at h
      obtain ⟨p, vs, rfl, hs, rs⟩ := lstOf_ok st r e
      refine .inl ⟨vs, hs, ?_⟩
      rw [← Option.some.inj h]
      cases rs <;> rfl
  cases d with
  | non =>
    cases r
    exact (Option.some.inj h).symm
  | bl b =>
    cases r
    exact (Option.some.inj h).symm
  | int i =>
    cases r
    exact (Option.some.inj h).symm
  | str z =>
    cases r
    have h' : (if z.length ≤ sizeLine then some ((z.length : Int) != 0) else none) = some k := h
    by_cases hl : z.length ≤ sizeLine
    · rw [if_pos hl] at h'
      exact ⟨hl, (Option.some.inj h').symm⟩
    · rw [if_neg hl] at h'
      cases h'
  | tup l =>
    cases r with
    | tup hh rs =>
      refine .inr (.inl ⟨_, hh.sq, ?_⟩)
      rw [← Option.some.inj h]
      cases rs <;> rfl
  | _ => exact seq h
theorem truM_bind {w : Wd} {r : En} {s : Sto} {t : L2.St} {d : D} {x : V} {T U : Type} {R : Wd → U → T → Prop} {E : XK} {Q : U → Hp → Prop} {f : Bool → DM T} (st : StR X.K w s) (hr : Rep X.K w x d) (hp : Post X.K R w E Q (bindM (truM (cM d)) f r s)) :
    ∃ k, TruV X.K x w.H k ∧ Post X.K R w E Q (f k r s) := by
  unfold truM bindM cM at hp
  dsimp only at hp
  cases e : truD s d with
  | none =>
    rw [e] at hp
    exact hp.elim
  | some k =>
    rw [e] at hp
    exact ⟨k, tru_ok st hr e, hp⟩
theorem t_truth (ha : PE X a (tE X.K W ma)) (he : ∀ whole, isTrue a X.env whole = (do let v ← whole; standAt a.pos; holding [v] (truthy v)) := by intro _; rfl) : PT X a (tT X.K W (truM ma)) :=
  PT.imp (pt_truth ha he) fun t H Q h => by
    obtain ⟨r, s, w, rfl, env, st, hp⟩ := h
    exact hp.bind env st fun x d s1 w1 e1 st1 r1 hp1 => by
      cases e : truD s1 d with
      | none =>
        rw [e] at hp1
        exact hp1.elim
      | some k =>
        rw [e] at hp1
        exact ⟨k, tru_ok st1 r1 e, hp1 k w1 (Ext.refl w1) st1 rfl⟩
theorem t_not {mt : DM Bool} (ha : PT X a (tT X.K W mt)) : PT X (.UnaryOp .Not a pos) (tT X.K W (notT mt)) := PT.imp (pt_not ha) fun t H Q h => by
  obtain ⟨r, s, w, rfl, env, st, hp⟩ := h
  exact hp.bind env st fun x d s1 w1 e1 st1 r1 hp1 => by
    subst r1
    exact hp1 _ w1 (Ext.refl w1) st1 rfl
theorem w_and1 {mt : DM Bool} (ha : PT X a (tT X.K W mt)) : PW X (.BoolOp .And [a] pos) (tT X.K W mt) := pw_and1 ha
theorem w_or1 {mt : DM Bool} (ha : PT X a (tT X.K W mt)) : PW X (.BoolOp .Or [a] pos) (tT X.K W mt) := pw_or1 ha
theorem PW.imp {e : Expr} {t t' : TT} (h : PW X e t) (i : ∀ σ H Q, t' σ H Q → t σ H Q) : PW X e t' := ⟨fun whole pins s σ H Q I q => h.run whole pins s σ H Q I (i _ _ _ q)⟩
theorem w_and {rest : List Expr} {mt mu : DM Bool} (ha : PT X a (tT X.K W mt)) (hb : PW X (.BoolOp .And (b :: rest) pos) (tT X.K W mu)) : PW X (.BoolOp .And (a :: b :: rest) pos) (tT X.K W (andT mt mu)) := PW.imp (pw_and ha hb) fun t H Q h => by
  obtain ⟨r, s, w, rfl, env, st, hp⟩ := h
  exact hp.bind env st fun x d s1 w1 e1 st1 r1 hp1 => by
    subst r1
    cases x with
    | true => exact ⟨r, s1, w1, rfl, env.ext e1, st1, hp1⟩
    | false => exact hp1 _ w1 (Ext.refl w1) st1 rfl
theorem w_or {rest : List Expr} {mt mu : DM Bool} (ha : PT X a (tT X.K W mt)) (hb : PW X (.BoolOp .Or (b :: rest) pos) (tT X.K W mu)) : PW X (.BoolOp .Or (a :: b :: rest) pos) (tT X.K W (orT mt mu)) := PW.imp (pw_or ha hb) fun t H Q h => by
  obtain ⟨r, s, w, rfl, env, st, hp⟩ := h
  exact hp.bind env st fun x d s1 w1 e1 st1 r1 hp1 => by
    subst r1
    cases x with
    | true => exact hp1 _ w1 (Ext.refl w1) st1 rfl
    | false => exact ⟨r, s1, w1, rfl, env.ext e1, st1, hp1⟩
theorem e_not (ha : PE X a (tE X.K W ma)) : PE X (.UnaryOp .Not a pos) (tE X.K W (notV ma)) := PE.imp (pe_notT ha) fun t H Q h => by
  obtain ⟨r, s, w, rfl, env, st, hp⟩ := h
  have e : notV ma = bindM ma fun x => bindM (truM (cM x)) fun b => pureM (.bl (!b)) := by
    unfold notV truM
    rw [bind_assoc]
    rfl
  rw [e] at hp
  exact hp.bind env st fun x d s1 w1 e1 st1 r1 hp1 => by
    obtain ⟨k, h1, h2⟩ := truM_bind (t := t) st1 r1 hp1
    exact ⟨k, h1, h2.pure st1 (.bl _)⟩
theorem e_one {op : BoolOp} (ha : PE X a (tE X.K W ma)) : PE X (.BoolOp op [a] pos) (tE X.K W ma) := pe_one ha
theorem e_and {rest : List Expr} (ha : PE X a (tE X.K W ma)) (hb : PE X (.BoolOp .And (b :: rest) pos) (tE X.K W mb)) : PE X (.BoolOp .And (a :: b :: rest) pos) (tE X.K W (andV ma mb)) := PE.imp (pe_andT ha hb) fun t H Q h => by
  obtain ⟨r, s, w, rfl, env, st, hp⟩ := h
  exact hp.bind env st fun x d s1 w1 e1 st1 r1 hp1 => by
    obtain ⟨k, h1, h2⟩ := truM_bind (t := t) st1 r1 hp1
    refine ⟨k, h1, ?_⟩
    cases k with
    | true => exact ⟨r, s1, w1, rfl, env.ext e1, st1, h2⟩
    | false => exact h2.pure st1 r1
end
end Mp
set_option Elab.async false
set_option linter.all false
set_option maxRecDepth 100000
set_option maxHeartbeats 4000000
/-! Mp: operators on data. -/
namespace Mp
open PySem PySem.Spec PyProof.Rows L2
section
variable {X : Cx} {W : WX} {a b c : Expr} {pos : Pos} {ma mb mc : DE}
/-- a new frozen object -/
theorem Post.frz {K : Frag} {w : Wd} {s : Sto} {E : XK} {Q : VK} {d : D} (hp : Post K (Rep K) w E Q (.ok d s)) (st : StR K w s) {o : HO} (h : ∀ p, w.H p = none → Rep K (w.frz p o) (.ref p) d) : ∀ p, w.H p = none → Q (.ref p) (upd w.H p o) :=
  fun p np => hp (.ref p) (w.frz p o) (Wd.frz_ext st np) (Wd.frz_st st np) (h p np)
theorem rep_newL {K : Frag} {w : Wd} {s : Sto} (st : StR K w s) {vs : List V} {ds : List D} (r : Reps K w vs ds) {p : Addr} (np : w.H p = none) : Rep K (w.frz p (.lst vs)) (.ref p) (.lst ds) :=
  .lst Wd.frz_z Wd.frz_h (r.ext (Wd.frz_ext st np))
theorem rep_newT {K : Frag} {w : Wd} {s : Sto} (st : StR K w s) {vs : List V} {ds : List D} (r : Reps K w vs ds) {p : Addr} (np : w.H p = none) : Rep K (w.frz p (.tup vs)) (.ref p) (.tup ds) :=
  .tup (.inl ⟨Wd.frz_z, .inl Wd.frz_h⟩) (r.ext (Wd.frz_ext st np))
theorem v_add : VR2 X.K (fun x y H Q => (rI0 fun i j => .int (i + j)) x y H Q ∨ (∃ i j, x = .str i ∧ y = .str j ∧ i.length + j.length ≤ sizeLine ∧ Q (.str (i ++ j)) H) ∨ rCat x y H Q ∨ rCatA X.K x y H Q) addD := fun w s x y d e Q E st rx ry hp => by
  unfold addD at hp
  cases d with
  | int i =>
    cases rx
    cases ry with
    | int j => exact .inl ⟨i, j, rfl, rfl, hp.pure st (.int _)⟩
    | _ => exact hp.elim
  | str i =>
    cases rx
    cases ry with
    | str j =>
      dsimp only at hp
      split at hp
      · exact .inr (.inl ⟨i, j, rfl, rfl, by assumption, hp.pure st (.str _)⟩)
      · exact hp.elim
    | _ => exact hp.elim
  | tup l1 =>
    cases rx with | tup h1 r1 =>
    cases ry with
    | tup h2 r2 =>
      dsimp only at hp
      split at hp
      · rename_i hl
        rw [← r1.length, ← r2.length] at hl
        refine .inr (.inr (.inr ⟨_, _, _, _, rfl, rfl, h1.sq, h2.sq, hl, fun e => ?_, fun e0 e => ?_, fun e1 e2 => ?_⟩))
        · subst e
          cases r1
          exact hp.pure st (.tup h2 r2)
        · subst e
          cases r2
          exact hp.pure st (by rw [List.append_nil]; exact .tup h1 r1)
        · exact hp.frz st fun p np => rep_newT st (r1.append r2) np
      · exact hp.elim
    | _ => exact hp.elim
  | _ =>
    dsimp only at hp
    split at hp
    · rename_i e1
      split at hp
      · rename_i e2
        split at hp
        · rename_i hl
          obtain ⟨p1, v1, rfl, h1, r1⟩ := lstX_ok st rx e1
          obtain ⟨p2, v2, rfl, h2, r2⟩ := lstX_ok st ry e2
          rw [← r1.length, ← r2.length] at hl
          exact .inr (.inr (.inl ⟨_, _, _, _, rfl, rfl, h1, h2, hl, hp.frz st fun p np => rep_newL st (r1.append r2) np⟩))
        · exact hp.elim
      · exact hp.elim
    · exact hp.elim
theorem e_add (ha : PE X a (tE X.K W ma)) (hb : PE X b (tE X.K W mb)) : PE X (.BinOp a .Add b pos) (tE X.K W (binM addD ma mb)) := e_bin (OpR.or op_add (OpR.or op_add_str (OpR.or op_cat op_catA))) v_add ha hb
theorem v_sub : VR2 X.K (rI0 fun i j => .int (i - j)) subD := fun w s x y d e Q E st rx ry hp => by
  unfold subD at hp
  cases rx with
  | int i =>
    cases ry with
    | int j => exact ⟨i, j, rfl, rfl, hp.pure st (.int _)⟩
    | _ => exact hp.elim
  | _ => exact hp.elim
theorem e_sub (ha : PE X a (tE X.K W ma)) (hb : PE X b (tE X.K W mb)) : PE X (.BinOp a .Sub b pos) (tE X.K W (binM subD ma mb)) := e_bin op_sub v_sub ha hb
theorem reps_rep {K : Frag} {w : Wd} {vs : List V} {ds : List D} (r : Reps K w vs ds) : ∀ n : Nat, Reps K w (List.replicate n vs).flatten (List.replicate n ds).flatten
  | 0 => .nil
  | n + 1 => by
    rw [List.replicate_succ, List.replicate_succ, List.flatten_cons, List.flatten_cons]
    exact r.append (reps_rep r n)
theorem v_mul : VR2 X.K (fun x y H Q => (rI CMulW fun i j => .int (i * j)) x y H Q ∨ rRep x y H Q) mulD := fun w s x y d e Q E st rx ry hp => by
  unfold mulD at hp
  cases d with
  | int i =>
    cases rx
    cases ry with
    | int j =>
      dsimp only at hp
      split at hp
      · rename_i hc
        exact .inl ⟨i, j, rfl, rfl, of_decide_eq_true (p := i.natAbs.log2 + j.natAbs.log2 < 1000000) hc, hp.pure st (.int _)⟩
      · exact hp.elim
    | _ => exact hp.elim
  | _ =>
    dsimp only at hp
    split at hp
    · exact hp.elim
    · rename_i e1
      obtain ⟨p1, v1, rfl, h1, r1⟩ := lstX_ok st rx e1
      cases ry with
      | int k =>
        dsimp only at hp
        split at hp
        · rename_i hc
          rw [← r1.length] at hc
          exact .inr ⟨_, k, _, rfl, rfl, h1, by omega, by omega, hc.2.2, hp.frz st fun p np => rep_newL st (reps_rep r1 _) np⟩
        · exact hp.elim
      | _ => exact hp.elim
theorem e_mul (ha : PE X a (tE X.K W ma)) (hb : PE X b (tE X.K W mb)) : PE X (.BinOp a .Mult b pos) (tE X.K W (binM mulD ma mb)) := e_bin (OpR.or op_mulW op_rep) v_mul ha hb
def CDivX (_ j : Int) : Prop := j ≠ 0 ∧ j.natAbs.log2 < 9000
theorem op_fdivX : OpR X (binaryOp .FloorDiv) (rI CDivX fun i j => .int (i.fdiv j)) := opI fun _ _ _ _ _ _ _ hc q => floordiv_int hc.1 q (.inl (PyProof.noPylong_of_log2 hc.2))
theorem v_div : VR2 X.K (fun x y H Q => (rI CDivW fun i j => .int (i / j)) x y H Q ∨ (rI CDivX fun i j => .int (i.fdiv j)) x y H Q) divD := fun w s x y d e Q E st rx ry hp => by
  unfold divD at hp
  cases rx with
  | int i =>
    cases ry with
    | int j =>
      dsimp only at hp
      split at hp
      · rename_i hc
        exact .inl ⟨i, j, rfl, rfl, hc, hp.pure st (.int _)⟩
      · split at hp
        · rename_i hc
          exact .inr ⟨i, j, rfl, rfl, ⟨by omega, hc.2⟩, hp.pure st (.int _)⟩
        · exact hp.elim
    | _ => exact hp.elim
  | _ => exact hp.elim
theorem e_div (ha : PE X a (tE X.K W ma)) (hb : PE X b (tE X.K W mb)) : PE X (.BinOp a .FloorDiv b pos) (tE X.K W (binM divD ma mb)) := e_bin (OpR.or op_fdivW op_fdivX) v_div ha hb
theorem v_mod : VR2 X.K (fun x y H Q => (rI (fun _ j => 0 < j) fun i j => .int (i % j)) x y H Q ∨ (rI (fun _ j => j ≠ 0) fun i j => .int (i.fmod j)) x y H Q) modD := fun w s x y d e Q E st rx ry hp => by
  unfold modD at hp
  cases rx with
  | int i =>
    cases ry with
    | int j =>
      dsimp only at hp
      split at hp
      · rename_i hc
        exact .inl ⟨i, j, rfl, rfl, hc, hp.pure st (.int _)⟩
      · split at hp
        · rename_i hc
          exact .inr ⟨i, j, rfl, rfl, (by omega), hp.pure st (.int _)⟩
        · exact hp.elim
    | _ => exact hp.elim
  | _ => exact hp.elim
theorem e_mod (ha : PE X a (tE X.K W ma)) (hb : PE X b (tE X.K W mb)) : PE X (.BinOp a .Mod b pos) (tE X.K W (binM modD ma mb)) := e_bin (OpR.or op_mod op_modN) v_mod ha hb
theorem v_pow : VR2 X.K (rI CPow fun i j => .int (i ^ j.toNat)) powD := fun w s x y d e Q E st rx ry hp => by
  unfold powD at hp
  cases rx with
  | int i =>
    cases ry with
    | int j =>
      dsimp only at hp
      split at hp
      · rename_i hc
        exact ⟨i, j, rfl, rfl, hc, hp.pure st (.int _)⟩
      · exact hp.elim
    | _ => exact hp.elim
  | _ => exact hp.elim
theorem e_pow (ha : PE X a (tE X.K W ma)) (hb : PE X b (tE X.K W mb)) : PE X (.BinOp a .Pow b pos) (tE X.K W (binM powD ma mb)) := e_bin op_pow v_pow ha hb
theorem e_neg (ha : PE X a (tE X.K W ma)) : PE X (.UnaryOp .USub a pos) (tE X.K W (unM negD ma)) := PE.imp (pe_un un_neg ha) fun t H Q h => by
  obtain ⟨r, s, w, rfl, env, st, hp⟩ := h
  exact hp.bind env st fun x d s1 w1 e1 st1 r1 hp1 => by
    unfold negD at hp1
    cases r1 with
    | int i => exact ⟨i, rfl, hp1.pure st1 (.int _)⟩
    | _ => exact hp1.elim
/-! ### order -/
theorem v_ord {g : Int → Int → Bool} {k : List Nat → List Nat → Bool} : VR2 X.K (fun x y H Q => (rI0 fun i j => .bl (g i j)) x y H Q ∨ ∃ i j, x = .str i ∧ y = .str j ∧ Q (.bl (k i.cps.toList j.cps.toList)) H) (ltD g k) := fun w s x y d e Q E st rx ry hp => by
  unfold ltD at hp
  cases rx with
  | int i =>
    cases ry with
    | int j => exact .inl ⟨i, j, rfl, rfl, hp.pure st (.bl _)⟩
    | _ => exact hp.elim
  | str i =>
    cases ry with
    | str j => exact .inr ⟨i, j, rfl, rfl, hp.pure st (.bl _)⟩
    | _ => exact hp.elim
  | _ => exact hp.elim
theorem o_lt : OpR X (compareOp .Lt) (fun x y H Q => (rI0 fun i j => .bl (decide (i < j))) x y H Q ∨ ∃ i j, x = .str i ∧ y = .str j ∧ Q (.bl (decide (i.cps.toList < j.cps.toList))) H) := OpR.or op_lt op_lt_str
theorem o_le : OpR X (compareOp .LtE) (fun x y H Q => (rI0 fun i j => .bl (decide (i ≤ j))) x y H Q ∨ ∃ i j, x = .str i ∧ y = .str j ∧ Q (.bl (!decide (j.cps.toList < i.cps.toList))) H) := OpR.or op_le op_le_str
theorem o_gt : OpR X (compareOp .Gt) (fun x y H Q => (rI0 fun i j => .bl (decide (j < i))) x y H Q ∨ ∃ i j, x = .str i ∧ y = .str j ∧ Q (.bl (decide (j.cps.toList < i.cps.toList))) H) := OpR.or op_gt op_gt_str
theorem o_ge : OpR X (compareOp .GtE) (fun x y H Q => (rI0 fun i j => .bl (decide (j ≤ i))) x y H Q ∨ ∃ i j, x = .str i ∧ y = .str j ∧ Q (.bl (!decide (i.cps.toList < j.cps.toList))) H) := OpR.or op_ge op_ge_str
theorem e_lt (ha : PE X a (tE X.K W ma)) (hb : PE X b (tE X.K W mb)) : PE X (.Compare a [.Lt] [b] pos) (tE X.K W (binM ltI ma mb)) := e_cmp o_lt v_ord ha hb (nomark _)
theorem t_lt (ha : PE X a (tE X.K W ma)) (hb : PE X b (tE X.K W mb)) : PT X (.Compare a [.Lt] [b] pos) (tT X.K W (blM (binM ltI ma mb))) := t_cmp o_lt v_ord ha hb (nomark _)
theorem t_gt (ha : PE X a (tE X.K W ma)) (hb : PE X b (tE X.K W mb)) : PT X (.Compare a [.Gt] [b] pos) (tT X.K W (blM (binM gtI ma mb))) := t_cmp o_gt v_ord ha hb (nomark _)
theorem t_ge (ha : PE X a (tE X.K W ma)) (hb : PE X b (tE X.K W mb)) : PT X (.Compare a [.GtE] [b] pos) (tT X.K W (blM (binM geI ma mb))) := t_cmp o_ge v_ord ha hb (nomark _)
/-! ### None -/
end
/-! ### equality of plain data -/
mutual
def toPy : D → Option PyData
  | .non => some .none
  | .bl b => some (.bool b)
  | .int i => some (.int i)
  | .str z => some (.str z)
  | .tup l => (toPys l).map .tuple
  | .lst l => (toPys l).map .list
  | .rol l => (toPys l).map .list
  | .ty _ => none
  | .glo _ => none
  | .dct _ => none
  | .ins _ _ => none
  | .exn _ _ _ _ => none
  | .cel _ => none
  | .clo _ _ _ _ _ => none
def toPys : List D → Option (List PyData)
  | [] => some []
  | d :: r => (toPy d).bind fun x => (toPys r).map fun y => x :: y
end
mutual
theorem Rep.dp {K : Frag} {w : Wd} : ∀ {d : D} {v : V} {p : PyData}, Rep K w v d → toPy d = some p → Dp K w.H v p
  | .non, _, _, h, e => by
    cases h
    rw [toPy] at e
    cases e
    exact .non
  | .bl b, _, _, h, e => by
    cases h
    rw [toPy] at e
    cases e
    exact .bl b
  | .int i, _, _, h, e => by
    cases h
    rw [toPy] at e
    cases e
    exact .int i
  | .str z, _, _, h, e => by
    cases h
    rw [toPy] at e
    cases e
    exact .str z
  | .tup l, _, _, h, e => by
    cases h with
    | tup h1 r =>
      rw [toPy] at e
      cases q : toPys l with
      | none => rw [q] at e; cases e
      | some ps =>
        rw [q] at e
        cases e
        exact .tup h1.sq (Reps.dp r q)
  | .lst l, _, _, h, e => by
    cases h with
    | lst z h1 r =>
      rw [toPy] at e
      cases q : toPys l with
      | none => rw [q] at e; cases e
      | some ps =>
        rw [q] at e
        cases e
        exact .lst (SqL.of h1) (Reps.dp r q)
  | .rol l, _, _, h, e => by
    cases h with
    | rol h1 r =>
      rw [toPy] at e
      cases q : toPys l with
      | none => rw [q] at e; cases e
      | some ps =>
        rw [q] at e
        cases e
        exact .lst h1.sq (Reps.dp r q)
  | .ty _, _, _, _, e => by rw [toPy] at e; cases e
  | .glo _, _, _, _, e => by rw [toPy] at e; cases e
  | .dct _, _, _, _, e => by rw [toPy] at e; cases e
  | .ins _ _, _, _, _, e => by rw [toPy] at e; cases e
  | .exn _ _ _ _, _, _, _, e => by rw [toPy] at e; cases e
  | .cel _, _, _, _, e => by rw [toPy] at e; cases e
  | .clo _ _ _ _ _, _, _, _, e => by rw [toPy] at e; cases e
theorem Reps.dp {K : Frag} {w : Wd} : ∀ {ds : List D} {vs : List V} {ps : List PyData}, Reps K w vs ds → toPys ds = some ps → DpAll K w.H vs ps
  | [], _, _, h, e => by
    cases h
    rw [toPys] at e
    cases e
    exact .nil
  | d :: r, _, _, h, e => by
    cases h with
    | cons h1 h2 =>
      rw [toPys] at e
      cases q1 : toPy d with
      | none => rw [q1] at e; cases e
      | some p =>
        cases q2 : toPys r with
        | none => rw [q1, q2] at e; cases e
        | some ps =>
          rw [q1, q2] at e
          cases e
          exact .cons (Rep.dp h1 q1) (Reps.dp h2 q2)
end
def eqG0 (neg : Bool) (x y : D) (s : Sto) : Res D := match toPy x with
  | none => .bad
  | some p => match toPy y with
    | none => .bad
    | some q => if (SeqAt.shaped p && SeqAt.shaped q) = true then .ok (.bl (if neg then !PyData.eqv p q else PyData.eqv p q)) s else .bad
def eqG (neg : Bool) (x y : D) (s : Sto) : Res D := match x with
  | .int i => (match y with
    | .int j => .ok (.bl (if neg then !decide (i = j) else decide (i = j))) s
    | y => eqG0 neg (.int i) y s)
  | .str i => (match y with
    | .str j => .ok (.bl (if neg then !decide (i = j) else decide (i = j))) s
    | y => eqG0 neg (.str i) y s)
  | .cel n => (match s[n]? with
    | some (some (.lst l)) => eqG0 neg (.lst l) y s
    | _ => .bad)
  | x => eqG0 neg x y s
abbrev eqD : D → D → Sto → Res D := eqG false
abbrev neD : D → D → Sto → Res D := eqG true
section
variable {X : Cx} {W : WX} {a b c : Expr} {pos : Pos} {ma mb mc : DE}
theorem v_eqG0 {neg : Bool} : VR2 X.K (fun x y H Q => ∃ d e, Dp X.K H x d ∧ Dp X.K H y e ∧ SeqAt.shaped d = true ∧ SeqAt.shaped e = true ∧ Q (.bl (if neg then !PyData.eqv d e else PyData.eqv d e)) H) (eqG0 neg) := fun w s x y d e Q E st rx ry hp => by
  unfold eqG0 at hp
  cases e1 : toPy d with
  | none => rw [e1] at hp; exact hp.elim
  | some p =>
    rw [e1] at hp
    dsimp only at hp
    cases e2 : toPy e with
    | none => rw [e2] at hp; exact hp.elim
    | some q =>
      rw [e2] at hp
      dsimp only at hp
      split at hp
      · rename_i hs
        obtain ⟨h1, h2⟩ := Bool.and_eq_true_iff.mp hs
        exact ⟨p, q, Rep.dp rx e1, Rep.dp ry e2, h1, h2, hp.pure st (.bl _)⟩
      · exact hp.elim
theorem v_eqG {neg : Bool} : VR2 X.K (fun x y H Q => (scal x y = true ∧ Q (.bl (if neg then !decide (x = y) else decide (x = y))) H) ∨ ∃ d e, Dp X.K H x d ∧ Dp X.K H y e ∧ SeqAt.shaped d = true ∧ SeqAt.shaped e = true ∧ Q (.bl (if neg then !PyData.eqv d e else PyData.eqv d e)) H) (eqG neg) := fun w s x y d e Q E st rx ry hp => by
  have key : Post X.K (Rep X.K) w E Q (eqG0 neg d e s) → _ := fun h => v_eqG0 w s x y d e Q E st rx ry h
  unfold eqG at hp
  cases d with
  | int i =>
    cases e with
    | int j =>
      cases rx
      cases ry
      refine .inl ⟨rfl, ?_⟩
      rw [show decide (V.int i = V.int j) = decide (i = j) from decide_eq_decide.mpr ⟨fun z => by cases z; rfl, fun z => by rw [z]⟩]
      exact hp.pure st (.bl _)
    | _ => exact .inr (key hp)
  | str i =>
    cases e with
    | str j =>
      cases rx
      cases ry
      refine .inl ⟨rfl, ?_⟩
      rw [show decide (V.str i = V.str j) = decide (i = j) from decide_eq_decide.mpr ⟨fun z => by cases z; rfl, fun z => by rw [z]⟩]
      exact hp.pure st (.bl _)
    | _ => exact .inr (key hp)
  | cel n =>
    dsimp only at hp
    split at hp
    · rename_i _ l el
      cases rx with
      | @cel _ a0 hA =>
        obtain ⟨a1, h1, _, vs, hh, rs⟩ := st.at_ n _ el
        have ea : a1 = a0 := Option.some.inj (h1.symm.trans hA)
        subst ea
        unfold eqG0 at hp
        cases e1 : toPys l with
        | none => rw [toPy, e1] at hp; exact hp.elim
        | some ps =>
          rw [toPy, e1] at hp
          dsimp only [Option.map] at hp
          cases e2 : toPy e with
          | none => rw [e2] at hp; exact hp.elim
          | some q =>
            rw [e2] at hp
            dsimp only at hp
            split at hp
            · rename_i hs
              obtain ⟨k1, k2⟩ := Bool.and_eq_true_iff.mp hs
              exact .inr ⟨.list ps, q, .lst (SqL.of hh) (Reps.dp rs e1), Rep.dp ry e2, k1, k2, hp.pure st (.bl _)⟩
            · exact hp.elim
    · exact hp.elim
  | _ => exact .inr (key hp)
theorem e_eq (hu : X.A.units + 64 < cLine) (ha : PE X a (tE X.K W ma)) (hb : PE X b (tE X.K W mb)) : PE X (.Compare a [.Eq] [b] pos) (tE X.K W (binM eqD ma mb)) := e_cmp (OpR.or op_eq (op_eqD hu)) v_eqG ha hb (nomark _)
theorem t_eq (hu : X.A.units + 64 < cLine) (ha : PE X a (tE X.K W ma)) (hb : PE X b (tE X.K W mb)) : PT X (.Compare a [.Eq] [b] pos) (tT X.K W (blM (binM eqD ma mb))) := t_cmp (OpR.or op_eq (op_eqD hu)) v_eqG ha hb (nomark _)
theorem t_ne (hu : X.A.units + 64 < cLine) (ha : PE X a (tE X.K W ma)) (hb : PE X b (tE X.K W mb)) : PT X (.Compare a [.NotEq] [b] pos) (tT X.K W (blM (binM neD ma mb))) := t_cmp (OpR.or op_ne (op_neD hu)) v_eqG ha hb (nomark _)
end
end Mp
set_option Elab.async false
set_option linter.all false
set_option maxRecDepth 100000
set_option maxHeartbeats 4000000
/-! Mp: displays, subscripts, slices, membership, built-in calls. -/
namespace Mp
open PySem PySem.Spec PyProof.Rows L2
/-! ### new lists: frozen, or a cell -/
def newL (c : Bool) (ds : List D) (s : Sto) : Res D := if c = true then .ok (.cel s.length) (s ++ [some (.lst ds)]) else .ok (.lst ds) s
theorem Post.newL {K : Frag} {w : Wd} {s : Sto} {E : XK} {Q : VK} {c : Bool} {ds : List D} {vs : List V} (hp : Post K (Rep K) w E Q (newL c ds s)) (st : StR K w s) (r : Reps K w vs ds) : ∀ p, w.H p = none → Q (.ref p) (upd w.H p (.lst vs)) := by
  cases c with
  | false => exact Post.frz (d := .lst ds) hp st fun p np => rep_newL st r np
  | true =>
    intro p np
    have e := Wd.cell_ext st (o := .lst vs) np
    have hp' : Post K (Rep K) w E Q (.ok (.cel s.length) (s ++ [some (.lst ds)])) := hp
    exact hp' (.ref p) (w.cell s.length p (.lst vs)) e (Wd.cell_st st np ⟨vs, upd_same, r.ext e⟩) (.cel (if_pos rfl))
def argM (f : List D → Sto → Res D) (a : DM (List D)) : DE := bindM a fun ds => fun _ s => f ds s
def nilA : DM (List D) := pureM []
def consA (a : DE) (b : DM (List D)) : DM (List D) := bindM a fun x => bindM b fun r => pureM (x :: r)
def lstD (c : Bool) (ds : List D) (s : Sto) : Res D := if ds.length ≤ sizeLine then newL c ds s else .bad
def tupD (ds : List D) (s : Sto) : Res D := if ds.length ≤ sizeLine then .ok (.tup ds) s else .bad
def getK {T U : Type} [DecidableEq T] (l : List (T × U)) (k : T) : Option U := (l.find? fun p => decide (p.1 = k)).map (·.2)
def keyD : D → Option Key
  | .int i => some (.inl i)
  | .str z => some (.inr z)
  | _ => none
def okO {T : Type} (s : Sto) : Option T → Res T
  | some d => .ok d s
  | none => .bad
def idxD (x y : D) (s : Sto) : Res D := match dctOf s x with
  | some m => (match keyD y with
    | some k => okO s (getK m k)
    | none => .bad)
  | none => (match y with
    | .int i => (match x with
      | .str z => if z.length ≤ sizeLine then okO s ((atI z.cps.toList i).map fun c => .str ⟨#[c]⟩) else .bad
      | .tup l => okO s (atI l i)
      | x => (match lstOf s x with
        | some l => okO s (atI l i)
        | none => .bad))
    | _ => .bad)
def optM (a : DE) : DM (Option Int) := bindM a fun x => fun _ s => match x with
  | .int i => .ok (some i) s
  | _ => .bad
def cutD (xs : List D) (lo hi : Option Int) : List D := (xs.drop (HT.sIx xs.length 0 lo)).take (HT.sIx xs.length xs.length hi - HT.sIx xs.length 0 lo)
def sliD (c : Bool) (x : D) (lo hi : Option Int) (s : Sto) : Res D := match x with
  | .str z => if z.length ≤ sizeLine then .ok (.str (cutS z lo hi)) s else .bad
  | .tup l => .ok (.tup (cutD l lo hi)) s
  | x => (match lstOf s x with
    | some l => newL c (cutD l lo hi) s
    | none => .bad)
def sliM (c : Bool) (a : DE) (l h : DM (Option Int)) : DE := bindM a fun x => bindM l fun lo => bindM h fun hi => fun _ s => sliD c x lo hi s
def flatD : D → Bool
  | .non => true
  | .bl _ => true
  | .int _ => true
  | .str _ => true
  | _ => false
def eqF : D → D → Bool
  | .non, .non => true
  | .bl a, .bl b => a == b
  | .bl a, .int b => (if a then 1 else 0) == b
  | .int a, .bl b => a == (if b then 1 else 0)
  | .int a, .int b => a == b
  | .str a, .str b => a == b
  | _, _ => false
def inF (x : D) (xs : List D) : Bool := xs.any fun y => eqF y x
def seqOf (s : Sto) : D → Option (List D)
  | .tup l => some l
  | x => lstOf s x
def inStr (i j : Str) : Bool := match i.cps.toList with
  | [c] => decide (c ∈ j.cps.toList)
  | _ => !(Builtin.Str.occurrences j i 0 j.length 1).isEmpty
def inD (neg : Bool) (x y : D) (s : Sto) : Res D := match dctOf s y with
  | some m => (match keyD x with
    | some k => .ok (.bl (if neg then !(getK m k).isSome else (getK m k).isSome)) s
    | none => .bad)
  | none => (match y with
    | .str j => (match x with
      | .str i => .ok (.bl (if neg then !inStr i j else inStr i j)) s
      | _ => .bad)
    | y => (match seqOf s y with
      | some l => if (flatD x && l.all flatD) = true then .ok (.bl (if neg then !inF x l else inF x l)) s else .bad
      | none => .bad))
/-! ### soundness -/
section
variable {K : Frag} {w : Wd}
theorem getK_ok {T : Type} [DecidableEq T] {k : T} : ∀ {l : List (T × V)} {m : List (T × D)}, KVR K w l m → (match getK m k with | some d => ∃ v, valV l k = some v ∧ Rep K w v d | none => valV l k = none)
  | _, _, .nil => rfl
  | _, _, .cons (k := j) h r => by
    have ih := getK_ok (k := k) r
    by_cases e : j = k
    · rw [valV_pos e]
      simp only [getK, List.find?_cons, e, decide_true, Option.map_some]
      exact ⟨_, rfl, h⟩
    · rw [valV_neg e]
      simp only [getK, List.find?_cons, e, decide_false]
      exact ih
theorem flat_ok {x : V} {d : D} (r : Rep K w x d) (h : flatD d = true) : flatV x = true := by
  cases r <;> first | rfl | cases h
theorem flats_ok : ∀ {xs : List V} {ds : List D}, Reps K w xs ds → ds.all flatD = true → xs.all flatV = true
  | _, _, .nil, _ => rfl
  | _, _, .cons h r, e => by
    rw [List.all_cons, Bool.and_eq_true_iff] at e ⊢
    exact ⟨flat_ok h e.1, flats_ok r e.2⟩
theorem eqF_ok {x y : V} {d e : D} (r : Rep K w x d) (q : Rep K w y e) (h1 : flatD d = true) (h2 : flatD e = true) : eqV x y = eqF d e := by
  cases r <;> first | (cases h1; done) | (cases q <;> first | rfl | cases h2)
theorem inF_ok {x : V} {d : D} (r : Rep K w x d) (h1 : flatD d = true) : ∀ {xs : List V} {ds : List D}, Reps K w xs ds → ds.all flatD = true → inV x xs = inF d ds
  | _, _, .nil, _ => rfl
  | _, _, .cons h t, e => by
    rw [List.all_cons, Bool.and_eq_true_iff] at e
    show (eqV _ x || inV x _) = (eqF _ d || inF d _)
    rw [eqF_ok h r e.1 h1, inF_ok r h1 t e.2]
theorem cutD_ok {xs : List V} {ds : List D} (r : Reps K w xs ds) (lo hi : Option Int) : Reps K w (cutV xs lo hi) (cutD ds lo hi) := by
  unfold cutV cutD
  rw [r.length]
  exact (r.drop _).take _
theorem atI_ok {xs : List V} {ds : List D} (r : Reps K w xs ds) {i : Int} {d : D} (h : atI ds i = some d) : ∃ v, atI xs i = some v ∧ Rep K w v d := by
  unfold atI at h ⊢
  rw [r.length]
  cases e : ixN ds.length i with
  | none => rw [e] at h; cases h
  | some j =>
    rw [e] at h
    exact r.get h
theorem seqOf_ok {s : Sto} {x : V} {d : D} {l : List D} (st : StR K w s) (r : Rep K w x d) (h : seqOf s d = some l) : ∃ p vs, x = .ref p ∧ (SqL K w.H p vs ∨ SqT K w.H p vs) ∧ Reps K w vs l := by
  have key : lstOf s d = some l → ∃ p vs, x = .ref p ∧ (SqL K w.H p vs ∨ SqT K w.H p vs) ∧ Reps K w vs l := fun h => by
    obtain ⟨p, vs, h1, h2, h3⟩ := lstOf_ok st r h
    exact ⟨p, vs, h1, .inl h2, h3⟩
  cases d with
  | tup l1 =>
    cases h
    cases r with
    | tup hh rs => exact ⟨_, _, rfl, .inr hh.sq, rs⟩
  | _ => exact key h
theorem keyD_ok {y : V} {d : D} {k : Key} (r : Rep K w y d) (h : keyD d = some k) : y = kV k := by
  cases r <;> first | (cases h; done) | (cases h; rfl)
end
section
variable {X : Cx} {W : WX} {a b c : Expr} {es : List Expr} {pos : Pos} {ma mb mc : DE} {mr : DM (List D)}
theorem a_nil : PA X [] (tA X.K W nilA) := PA.imp pa_nil fun t H Q h => by
  obtain ⟨r, s, w, rfl, env, st, hp⟩ := h
  exact hp.pure st .nil
theorem a_cons (ha : PE X a (tE X.K W ma)) (hr : PA X es (tA X.K W mr)) (hs : starEach (a :: es) X.env = (false, eval a X.env) :: starEach es X.env := by rfl) : PA X (a :: es) (tA X.K W (consA ma mr)) := PA.imp (pa_cons ha hr hs) fun t H Q h => by
  obtain ⟨r, s, w, rfl, env, st, hp⟩ := h
  exact hp.bind env st fun x d s1 w1 e1 st1 r1 hp1 => hp1.bind (env.ext e1) st1 fun y d2 s2 w2 e2 st2 r2 hp2 => hp2.pure st2 (.cons (r1.ext e2) r2)
theorem e_tup {x1 : Nat} (hr : PA X es (tA X.K W mr)) : PE X (.Tuple es x1 pos) (tE X.K W (argM tupD mr)) := PE.imp (pe_tup hr) fun t H Q h => by
  obtain ⟨r, s, w, rfl, env, st, hp⟩ := h
  exact hp.bind env st fun x d s1 w1 e1 st1 r1 hp1 => by
    unfold tupD at hp1
    split at hp1
    · rename_i hl
      exact ⟨by rw [r1.length]; exact hl, hp1.frz st1 fun p np => rep_newT st1 r1 np⟩
    · exact hp1.elim
theorem e_lst (k : Bool) (hr : PA X es (tA X.K W mr)) : PE X (.List es pos) (tE X.K W (argM (lstD k) mr)) := PE.imp (pe_lst hr) fun t H Q h => by
  obtain ⟨r, s, w, rfl, env, st, hp⟩ := h
  exact hp.bind env st fun x d s1 w1 e1 st1 r1 hp1 => by
    unfold lstD at hp1
    split at hp1
    · rename_i hl
      exact ⟨by rw [r1.length]; exact hl, hp1.newL st1 r1⟩
    · exact hp1.elim
theorem ix_dict (hu : X.A.units + 1 < cLine) : IxR X (fun x y H Q => ∃ a v, x = .ref a ∧ DGet H a y (some v) ∧ Q v H) := fun value slice pins s t H x y v u Q I rx ry h hs => by
  obtain ⟨p, v', rfl, g, q⟩ := h
  obtain rfl : v = Value.ref p := rx
  exact tail_any (dict_typeIs I g) PySem.F.slot_dict_getitem.lookup (d_getItem hu I g ry fun z s3 I3 rz => ⟨v', H, I3, rz, q⟩) hs
theorem op_inDict (hu : X.A.units + 1 < cLine) : OpR X (compareOp .In) (fun x y H Q => ∃ a o, y = .ref a ∧ DGet H a x o ∧ Q (.bl o.isSome) H) := fun pins s t H x y v u Q I rx ry h => by
  obtain ⟨p, o, rfl, g, q⟩ := h
  obtain rfl : u = Value.ref p := ry
  exact d_in hu I g rx fun s3 I3 => ⟨.bl o.isSome, H, I3, rfl, q⟩
theorem op_notInDict (hu : X.A.units + 1 < cLine) : OpR X (compareOp .NotIn) (fun x y H Q => ∃ a o, y = .ref a ∧ DGet H a x o ∧ Q (.bl (!o.isSome)) H) := fun pins s t H x y v u Q I rx ry h => by
  obtain ⟨p, o, rfl, g, q⟩ := h
  obtain rfl : u = Value.ref p := ry
  exact d_notIn hu I g rx fun s3 I3 => ⟨.bl (!o.isSome), H, I3, rfl, q⟩
theorem v_idx : VR2 X.K (fun x y H Q => rIx X.K x y H Q ∨ ∃ a v, x = .ref a ∧ DGet H a y (some v) ∧ Q v H) idxD := fun w s x y d e Q E st rx ry hp => by
  unfold idxD at hp
  split at hp
  · rename_i m hm
    obtain ⟨p, l, rfl, hd, kv⟩ := dctOf_ok st rx hm
    split at hp
    · rename_i k hk
      have ey := keyD_ok ry hk
      have g := getK_ok (k := k) kv
      cases eg : getK m k with
      | none => rw [eg] at hp; exact hp.elim
      | some d3 =>
        rw [eg] at g hp
        obtain ⟨v, hv, rv⟩ := g
        exact .inr ⟨p, v, rfl, .inl ⟨l, k, hd, ey, hv.symm⟩, hp.pure st rv⟩
    · exact hp.elim
  · rename_i nd
    cases ry with
    | int i =>
      dsimp only at hp
      cases d with
      | str z =>
        cases rx
        dsimp only at hp
        split at hp
        · rename_i hl
          cases ec : atI z.cps.toList i with
          | none => rw [ec] at hp; exact hp.elim
          | some c0 =>
            rw [ec] at hp
            exact .inl (.inr (.inr ⟨z, i, c0, rfl, rfl, hl, ec, hp.pure st (.str _)⟩))
        · exact hp.elim
      | tup l =>
        cases rx with
        | tup hh rs =>
          dsimp only at hp
          cases ec : atI l i with
          | none => rw [ec] at hp; exact hp.elim
          | some d3 =>
            rw [ec] at hp
            obtain ⟨v, hv, rv⟩ := atI_ok rs ec
            exact .inl (.inr (.inl ⟨_, _, i, v, rfl, rfl, hh.sq, hv, hp.pure st rv⟩))
      | _ =>
        dsimp only at hp
        split at hp
        · rename_i l el
          obtain ⟨p, vs, rfl, hh, rs⟩ := lstOf_ok st rx el
          cases ec : atI l i with
          | none => rw [ec] at hp; exact hp.elim
          | some d3 =>
            rw [ec] at hp
            obtain ⟨v, hv, rv⟩ := atI_ok rs ec
            exact .inl (.inl ⟨_, _, i, v, rfl, rfl, hh, hv, hp.pure st rv⟩)
        · exact hp.elim
    | _ => exact hp.elim
theorem e_idx (hu : X.A.units + 1 < cLine) (ha : PE X a (tE X.K W ma)) (hb : PE X b (tE X.K W mb)) (hs : PlainIx b := by exact fun _ _ => rfl) : PE X (.Subscript a b pos) (tE X.K W (binM idxD ma mb)) :=
  PE.imp (pe_ix (IxR.or ix_seq (ix_dict hu)) ha hb hs) fun t H Q h => by
    obtain ⟨r, s, w, rfl, env, st, hp⟩ := h
    exact hp.bind env st fun x d s1 w1 e1 st1 r1 hp1 => hp1.bind (env.ext e1) st1 fun y d2 s2 w2 e2 st2 r2 hp2 => v_idx w2 s2 x y d d2 Q _ st2 (r1.ext e2) r2 hp2
/-! ### slices -/
abbrev tO (K : Frag) (W : WX) (m : DM (Option Int)) : TO := tM K (fun _ (b c : Option Int) => b = c) W m
theorem PO.imp {e : Option Expr} {t t' : TO} (h : PO X e t) (i : ∀ σ H Q, t' σ H Q → t σ H Q) : PO X e t' := ⟨fun pins s σ H Q I q => h.run pins s σ H Q I (i _ _ _ q)⟩
theorem o_none : PO X none (tO X.K W (pureM none)) := PO.imp po_none fun t H Q h => by
  obtain ⟨r, s, w, rfl, env, st, hp⟩ := h
  exact hp.pure st rfl
theorem o_some (ha : PE X a (tE X.K W ma)) : PO X (some a) (tO X.K W (optM ma)) := PO.imp (po_some ha) fun t H Q h => by
  obtain ⟨r, s, w, rfl, env, st, hp⟩ := h
  exact hp.bind env st fun x d s1 w1 e1 st1 r1 hp1 => by
    cases r1 with
    | int i => exact ⟨i, rfl, hp1.pure st1 rfl⟩
    | _ => exact hp1.elim
theorem SlR.or {r r' : V → Option Int → Option Int → Hp → VK → Prop} (h : SlR X r) (h' : SlR X r') : SlR X (fun x l u H Q => r x l u H Q ∨ r' x l u H Q) := by
  unfold SlR at h h' ⊢
  intros
  rename_i q
  rcases q with q | q
  · apply h <;> assumption
  · apply h' <;> assumption
theorem e_sli {lo hi : Option Expr} {p2 : Pos} {ml mh : DM (Option Int)} (k : Bool) (ha : PE X a (tE X.K W ma)) (hl : PO X lo (tO X.K W ml)) (hh : PO X hi (tO X.K W mh)) : PE X (.Subscript a (.Slice lo hi none p2) pos) (tE X.K W (sliM k ma ml mh)) :=
  PE.imp (pe_slice (SlR.or sl_list (SlR.or sl_tupA sl_str)) ha hl hh) fun t H Q h => by
    obtain ⟨r, s, w, rfl, env, st, hp⟩ := h
    exact hp.bind env st fun x d s1 w1 e1 st1 r1 hp1 => hp1.bind (env.ext e1) st1 fun lo1 lo2 s2 w2 e2 st2 r2 hp2 => hp2.bind ((env.ext e1).ext e2) st2 fun hi1 hi2 s3 w3 e3 st3 r3 hp3 => by
      subst r2 r3
      have rx := (r1.ext e2).ext e3
      unfold sliD at hp3
      cases d with
      | str z =>
        cases rx
        dsimp only at hp3
        split at hp3
        · rename_i hl
          exact .inr (.inr ⟨z, rfl, hl, hp3.pure st3 (.str _)⟩)
        · exact hp3.elim
      | tup l =>
        cases rx with
        | tup hq rs =>
          refine .inr (.inl ⟨_, _, rfl, hq.sq, fun e => ?_, fun e => ?_⟩)
          · refine hp3.pure st3 (.tup hq ?_)
            have q := cutD_ok rs lo1 hi1
            unfold cutV at q
            rw [e.1, e.2, Nat.sub_zero, List.drop_zero, List.take_length] at q
            exact q
          · exact hp3.frz st3 fun p np => rep_newT st3 (cutD_ok rs lo1 hi1) np
      | _ =>
        dsimp only at hp3
        split at hp3
        · rename_i l el
          obtain ⟨p, vs, rfl, hq, rs⟩ := lstOf_ok st3 rx el
          exact .inl ⟨p, vs, rfl, hq, hp3.newL st3 (cutD_ok rs lo1 hi1)⟩
        · exact hp3.elim
/-! ### in, not in -/
theorem str_of_list {i : Str} {c : Nat} (h : i.cps.toList = [c]) : i = ⟨#[c]⟩ := by
  obtain ⟨a⟩ := i
  congr 1
  apply Array.ext'
  exact h
def rInG (K : Frag) (neg : Bool) : R2 := fun x y H Q => (∃ a o, y = .ref a ∧ DGet H a x o ∧ Q (.bl (if neg then !o.isSome else o.isSome)) H) ∨ (∃ (c : Nat) (z : Str), x = .str ⟨#[c]⟩ ∧ y = .str z ∧ Q (.bl (if neg then !decide (c ∈ z.cps.toList) else decide (c ∈ z.cps.toList))) H) ∨
  (∃ i j, x = .str i ∧ y = .str j ∧ Q (.bl (if neg then !(!(Builtin.Str.occurrences j i 0 j.length 1).isEmpty) else !(Builtin.Str.occurrences j i 0 j.length 1).isEmpty)) H) ∨ rIn K neg x y H Q
theorem v_in {neg : Bool} : VR2 X.K (rInG X.K neg) (inD neg) := fun w s x y d e Q E st rx ry hp => by
  unfold inD at hp
  split at hp
  · rename_i m hm
    obtain ⟨p, l, rfl, hd, kv⟩ := dctOf_ok st ry hm
    split at hp
    · rename_i k hk
      have ex := keyD_ok rx hk
      have g := getK_ok (k := k) kv
      refine .inl ⟨p, valV l k, rfl, .inl ⟨l, k, hd, ex, rfl⟩, ?_⟩
      cases eg : getK m k with
      | none =>
        rw [eg] at g hp
        have g' : valV l k = none := g
        rw [g']
        exact hp.pure st (.bl _)
      | some d3 =>
        rw [eg] at g hp
        obtain ⟨v, hv, rv⟩ := g
        rw [hv]
        exact hp.pure st (.bl _)
    · exact hp.elim
  · have seq : Post X.K (Rep X.K) w E Q (match seqOf s e with
      | some l => if (flatD d && l.all flatD) = true then .ok (.bl (if neg then !inF d l else inF d l)) s else .bad
      | none => .bad) → rIn X.K neg x y w.H Q := fun hp => by
      split at hp
      · rename_i l el
        obtain ⟨p, vs, rfl, hq, rs⟩ := seqOf_ok st ry el
        split at hp
        · rename_i hf
          obtain ⟨h1, h2⟩ := Bool.and_eq_true_iff.mp hf
          refine ⟨p, vs, rfl, hq, flat_ok rx h1, flats_ok rs h2, ?_⟩
          rw [inF_ok rx h1 rs h2]
          exact hp.pure st (.bl _)
        · exact hp.elim
      · exact hp.elim
    cases e with
    | str j =>
      cases ry
      cases d with
      | str i =>
        cases rx
        have q : Q (.bl (if neg then !inStr i j else inStr i j)) w.H := hp.pure st (.bl _)
        have alt : (∃ c0, i.cps.toList = [c0] ∧ inStr i j = decide (c0 ∈ j.cps.toList)) ∨ inStr i j = !(Builtin.Str.occurrences j i 0 j.length 1).isEmpty := by
          unfold inStr
          split
          · rename_i c0 hc
            exact .inl ⟨c0, hc, rfl⟩
          · exact .inr rfl
        rcases alt with ⟨c0, hc, e0⟩ | e0
        · rw [e0] at q
          have ei := str_of_list hc
          subst ei
          exact .inr (.inl ⟨c0, j, rfl, rfl, q⟩)
        · rw [e0] at q
          exact .inr (.inr (.inl ⟨i, j, rfl, rfl, q⟩))
      | _ => exact hp.elim
    | _ => exact .inr (.inr (.inr (seq hp)))
theorem o_in (hu : X.A.units + 1 < cLine) : OpR X (compareOp .In) (rInG X.K false) := OpR.or (op_inDict hu) (OpR.or op_in_sign (OpR.or op_in_str op_in_seq))
theorem o_notIn (hu : X.A.units + 1 < cLine) : OpR X (compareOp .NotIn) (rInG X.K true) := OpR.or (op_notInDict hu) (OpR.or op_notIn_sign (OpR.or op_notin_str op_notIn_seq))
theorem e_in (hu : X.A.units + 1 < cLine) (ha : PE X a (tE X.K W ma)) (hb : PE X b (tE X.K W mb)) (hm : behindInMarks .In b = false := by rfl) : PE X (.Compare a [.In] [b] pos) (tE X.K W (binM (inD false) ma mb)) := e_cmp (o_in hu) v_in ha hb hm
theorem t_notIn (hu : X.A.units + 1 < cLine) (ha : PE X a (tE X.K W ma)) (hb : PE X b (tE X.K W mb)) (hm : behindInMarks .NotIn b = false := by rfl) : PT X (.Compare a [.NotIn] [b] pos) (tT X.K W (blM (binM (inD true) ma mb))) := t_cmp (o_notIn hu) v_in ha hb hm
end
end Mp
set_option Elab.async false
set_option linter.all false
set_option maxRecDepth 100000
set_option maxHeartbeats 4000000
/-! Mp: statements, loops. -/
namespace Mp
open PySem PySem.Spec PyProof.Rows L2
/-! ### on data -/
def seqS (a b : DS) : DS := fun r s => match a r s with
  | .nx r' s' => b r' s'
  | f => f
def skipS : DS := fun r s => .nx r s
def brkS : DS := fun r s => .bk r s
def cntS : DS := fun r s => .ct r s
def setS (i : Nat) (m : DE) : DS := thenS m fun d => fun r s => .nx (r.set i (some d)) s
def exprS (m : DE) : DS := thenS m fun _ => fun r s => .nx r s
def retS (m : DE) : DS := thenS m fun d => fun _ s => .rt d s
def retN : DS := fun _ s => .rt .non s
def ifS (c : DM Bool) (a b : DS) : DS := thenS c fun k => if k = true then a else b
def nameG (i : Nat) : DG := fun d r s => some (r.set i (some d), s)
abbrev DGs := List D → En → Sto → Option (En × Sto)
def nilG : DGs := fun ds r s => match ds with
  | [] => some (r, s)
  | _ => none
def consG (g : DG) (h : DGs) : DGs := fun ds r s => match ds with
  | d :: l => (g d r s).bind fun p => h l p.1 p.2
  | [] => none
def tupG (n : Nat) (h : DGs) : DG := fun d r s => match seqOf s d with
  | some l => if l.length = n then h l r s else none
  | none => none
def asgS (m : DE) (g : DG) : DS := thenS m fun d => fun r s => match g d r s with
  | some p => .nx p.1 p.2
  | none => .bad
def par2S (i j : Nat) (m : DM (List D)) : DS := thenS m fun ds => fun r s => match ds with
  | [a, b] => .nx ((r.set i (some a)).set j (some b)) s
  | _ => .bad
def par3S (i j l : Nat) (m : DM (List D)) : DS := thenS m fun ds => fun r s => match ds with
  | [a, b, c] => .nx (((r.set i (some a)).set j (some b)).set l (some c)) s
  | _ => .bad
def augS (i : Nat) (f : D → D → Sto → Res D) (m : DE) : DS := thenS (binM f (vM i) m) fun d => fun r s => .nx (r.set i (some d)) s
def whileF (t : DM Bool) (b : DS) : Nat → DS
  | 0 => fun _ _ => .bad
  | n + 1 => fun r s => match t r s with
    | .ok k s1 => if k = true then (match b r s1 with
      | .nx r' s' => whileF t b n r' s'
      | .ct r' s' => whileF t b n r' s'
      | .bk r' s' => .nx r' s'
      | .rt d s' => .rt d s'
      | .exc C fs r' s' => .exc C fs r' s'
      | .bad => .bad) else .nx r s1
    | .exc C fs s1 => .exc C fs r s1
    | .bad => .bad
open Classical in
noncomputable def whileS (t : DM Bool) (b : DS) : DS := fun r s => if h : ∃ n, whileF t b n r s ≠ .bad then whileF t b (Classical.choose h) r s else .bad
/-- what a loop walks: its items; a cell that must stay as it is meanwhile -/
structure Src where
  its : List D
  cel : Option Nat
def SrcOk (c : Src) (s : Sto) : Prop := match c.cel with
  | none => True
  | some n => s[n]? = some (some (.lst c.its))
open Classical in
noncomputable def forF (c : Src) (g : DG) (b : DS) : List D → DS
  | [] => fun r s => if SrcOk c s then .nx r s else .bad
  | d :: l => fun r s => if SrcOk c s then (match g d r s with
    | none => .bad
    | some p => (match b p.1 p.2 with
      | .nx r' s' => forF c g b l r' s'
      | .ct r' s' => forF c g b l r' s'
      | .bk r' s' => .nx r' s'
      | .rt d s' => .rt d s'
      | .exc C fs r' s' => .exc C fs r' s'
      | .bad => .bad)) else .bad
noncomputable def forS (m : DM Src) (g : DG) (b : DS) : DS := thenS m fun c => forF c g b c.its
theorem whileF_mono {t : DM Bool} {b : DS} : ∀ {n : Nat} {r : En} {s : Sto}, whileF t b n r s ≠ .bad → ∀ m, n ≤ m → whileF t b m r s = whileF t b n r s
  | 0, _, _, h, _, _ => absurd rfl h
  | n + 1, r, s, h, 0, hm => by omega
  | n + 1, r, s, h, m + 1, hm => by
    unfold whileF at h ⊢
    cases e : t r s with
    | ok k s1 =>
      simp only [e] at h ⊢
      cases k with
      | false => rfl
      | true =>
        simp only [if_true] at h ⊢
        cases e2 : b r s1 with
        | nx r' s' =>
          simp only [e2] at h ⊢
          exact whileF_mono h m (by omega)
        | ct r' s' =>
          simp only [e2] at h ⊢
          exact whileF_mono h m (by omega)
        | _ => rfl
    | _ => rfl
theorem whileS_of {t : DM Bool} {b : DS} {n : Nat} {r : En} {s : Sto} (h : whileF t b n r s ≠ .bad) : whileS t b r s = whileF t b n r s := by
  unfold whileS
  have hx : ∃ n, whileF t b n r s ≠ .bad := ⟨n, h⟩
  rw [dif_pos hx]
  have h2 := Classical.choose_spec hx
  rcases Nat.le_total n (Classical.choose hx) with q | q
  · exact whileF_mono h _ q
  · exact (whileF_mono h2 _ q).symm
/-- one turn -/
theorem whileS_eq {t : DM Bool} {b : DS} {r : En} {s : Sto} : whileS t b r s = (match t r s with
    | .ok k s1 => if k = true then (match b r s1 with
      | .nx r' s' => whileS t b r' s'
      | .ct r' s' => whileS t b r' s'
      | .bk r' s' => .nx r' s'
      | .rt d s' => .rt d s'
      | .exc C fs r' s' => .exc C fs r' s'
      | .bad => .bad) else .nx r s1
    | .exc C fs s1 => .exc C fs r s1
    | .bad => .bad) := by
  have turn : ∀ r' s' n, whileF t b n r' s' = .bad ∨ whileF t b n r' s' = whileS t b r' s' := fun r' s' n => by
    by_cases h : whileF t b n r' s' = .bad
    · exact .inl h
    · exact .inr (whileS_of h).symm
  have nox : ∀ r' s', (∀ n, whileF t b n r' s' = .bad) → whileS t b r' s' = .bad := fun r' s' h => by
    unfold whileS
    rw [dif_neg]
    rintro ⟨n, hn⟩
    exact hn (h n)
  by_cases hx : ∃ n, whileF t b n r s ≠ .bad
  · obtain ⟨n, hn⟩ := hx
    rw [whileS_of hn]
    cases n with
    | zero => exact absurd rfl hn
    | succ n =>
      unfold whileF at hn ⊢
      cases e : t r s with
      | ok k s1 =>
        simp only [e] at hn ⊢
        cases k with
        | false => rfl
        | true =>
          simp only [if_true] at hn ⊢
          cases e2 : b r s1 with
          | nx r' s' =>
            simp only [e2] at hn ⊢
            exact (whileS_of hn).symm
          | ct r' s' =>
            simp only [e2] at hn ⊢
            exact (whileS_of hn).symm
          | _ => rfl
      | _ => rfl
  · have hb : ∀ n, whileF t b n r s = .bad := fun n => Classical.byContradiction fun h => hx ⟨n, h⟩
    rw [nox r s hb]
    have h1 := fun n => hb (n + 1)
    unfold whileF at h1
    cases e : t r s with
    | ok k s1 =>
      simp only [e] at h1 ⊢
      cases k with
      | false => exact (h1 0).symm
      | true =>
        simp only [if_true] at h1 ⊢
        cases e2 : b r s1 with
        | nx r' s' =>
          simp only [e2] at h1 ⊢
          exact (nox r' s' h1).symm
        | ct r' s' =>
          simp only [e2] at h1 ⊢
          exact (nox r' s' h1).symm
        | bk r' s' => simp only [e2] at h1; exact (h1 0).symm
        | rt d s' => simp only [e2] at h1; exact (h1 0).symm
        | exc C fs r' s' => simp only [e2] at h1; exact (h1 0).symm
        | bad => rfl
    | exc C fs s1 => simp only [e] at h1; exact (h1 0).symm
    | bad => rfl
/-! ### soundness -/
section
variable {X : Cx} {W : WX} {a b c : Expr} {es : List Expr} {pos : Pos} {ma mb mc : DE} {mr : DM (List D)} {st st2 : Stmt} {rest : List Stmt} {m1 m2 : DS}
theorem s_nil : PSs X [] (tS X.K W skipS) := PSs.imp pss_nil fun E t H h => by
  obtain ⟨r, s, w, rfl, env, st, hp⟩ := h
  exact hp t w (Ext.refl w) env st
theorem seq_imp {E : Ends} {t : L2.St} {H : Hp} {K : Frag} (h : tS K W (seqS m1 m2) E t H) : tSeq (tS K W m1) (tS K W m2) E t H := by
  obtain ⟨r, s, w, rfl, env, st, hp⟩ := h
  refine ⟨r, s, w, rfl, env, st, ?_⟩
  unfold seqS at hp
  cases e : m1 r s with
  | nx r' s' =>
    rw [e] at hp
    exact fun t' w' e' env' st' => ⟨r', s', w', rfl, env', st', hp.ext e'⟩
  | rt d s' => rw [e] at hp; exact hp
  | bk r' s' => rw [e] at hp; exact hp
  | ct r' s' => rw [e] at hp; exact hp
  | exc C fs r' s' => rw [e] at hp; exact hp
  | bad => rw [e] at hp; exact hp
theorem s_cons (h1 : PS X st (tS X.K W m1)) (h2 : PSs X rest (tS X.K W m2)) : PSs X (st :: rest) (tS X.K W (seqS m1 m2)) := PSs.imp (pss_cons h1 h2) fun E t H h => seq_imp h
theorem s_one (h1 : PS X st (tS X.K W m1)) : PSs X [st] (tS X.K W m1) := pss_one h1
theorem s_expr (he : PE X a (tE X.K W ma)) (hs : swapsWith a none pos.line X.env = pure false := by rfl) : PS X (.Expr a pos) (tS X.K W (exprS ma)) := PS.imp (ps_expr he hs) fun E t H h => by
  obtain ⟨r, s, w, rfl, env, st, hp⟩ := h
  exact hp.bind env st fun x d s1 w1 e1 st1 r1 hp1 => hp1 t w1 (Ext.refl w1) (env.ext e1) st1
theorem s_ret (he : PE X a (tE X.K W ma)) : PS X (.Return (some a) pos) (tS X.K W (retS ma)) := PS.imp (ps_ret he) fun E t H h => by
  obtain ⟨r, s, w, rfl, env, st, hp⟩ := h
  exact hp.bind env st fun x d s1 w1 e1 st1 r1 hp1 => hp1 x w1 (Ext.refl w1) st1 r1
theorem s_if {mt : DM Bool} {s1 s2 : List Stmt} (hc : PT X c (tT X.K W mt)) (ha : PSs X s1 (tS X.K W m1)) (hb : PSs X s2 (tS X.K W m2)) : PS X (.If c s1 s2 pos) (tS X.K W (ifS mt m1 m2)) := PS.imp (ps_if hc ha hb) fun E t H h => by
  obtain ⟨r, s, w, rfl, env, st, hp⟩ := h
  exact hp.bind env st fun x d s1 w1 e1 st1 r1 hp1 => by
    subst r1
    cases x with
    | true => exact ⟨r, s1, w1, rfl, env.ext e1, st1, hp1⟩
    | false => exact ⟨r, s1, w1, rfl, env.ext e1, st1, hp1⟩
theorem s_set {i : Nat} {x : Str} {pos' : Pos} (hN : X.N.Nodup) (hi : X.N[i]? = some x) (hx : Loc X.env.scope x) (he : PE X a (tE X.K W ma)) (hs : swapsWith a (some (.Name x pos')) pos.line X.env = pure false := by rfl)
    (hf : X.fn x = true ∨ X.env.scope.names.lookup x = some .local := by first | exact .inl rfl | exact .inr rfl | assumption) : PS X (.Assign [.Name x pos'] a pos) (tS X.K W (setS i ma)) := PS.imp (ps_set hN hi hx he hs hf) fun E t H h => by
  obtain ⟨r, s, w, rfl, env, st, hp⟩ := h
  exact hp.bind env st fun x d s1 w1 e1 st1 r1 hp1 => hp1 _ w1 (Ext.refl w1) ((env.ext e1).set r1 i) st1
/-! targets -/
def tG (K : Frag) (g : DG) : TG := fun v t H Q => ∃ r s w d, w.H = H ∧ EnvR K w r t ∧ StR K w s ∧ Rep K w v d ∧ (match g d r s with
  | some p => ∀ t' w', Ext w w' → EnvR K w' p.1 t' → StR K w' p.2 → Q t' w'.H
  | none => False)
def tGs (K : Frag) (g : DGs) : TGs := fun vs t H Q => ∃ r s w ds, w.H = H ∧ EnvR K w r t ∧ StR K w s ∧ Reps K w vs ds ∧ (match g ds r s with
  | some p => ∀ t' w', Ext w w' → EnvR K w' p.1 t' → StR K w' p.2 → Q t' w'.H
  | none => False)
theorem PG.imp {tg : Expr} {t t' : TG} (h : PG X tg t) (i : ∀ v σ H Q, t' v σ H Q → t v σ H Q) : PG X tg t' := ⟨fun pins s σ H v u Q I r q => h.run pins s σ H v u Q I r (i _ _ _ _ q)⟩
theorem PGs.imp {tg : List Expr} {t t' : TGs} (h : PGs X tg t) (i : ∀ v σ H Q, t' v σ H Q → t v σ H Q) : PGs X tg t' := ⟨fun pins s σ H v u Q I r q => h.run pins s σ H v u Q I r (i _ _ _ _ q)⟩
theorem PG.or {tg : Expr} {t t' : TG} (h : PG X tg t) (h' : PG X tg t') : PG X tg (fun v σ H Q => t v σ H Q ∨ t' v σ H Q) := ⟨fun pins s σ H v u Q I r q => q.elim (h.run pins s σ H v u Q I r) (h'.run pins s σ H v u Q I r)⟩
theorem g_name {i : Nat} {x : Str} (hN : X.N.Nodup) (hi : X.N[i]? = some x) (hx : Loc X.env.scope x) (hf : X.fn x = true ∨ X.env.scope.names.lookup x = some .local := by first | exact .inl rfl | exact .inr rfl | assumption) : PG X (.Name x pos) (tG X.K (nameG i)) :=
  PG.imp (pg_name hN hi hx hf) fun v t H Q h => by
    obtain ⟨r, s, w, d, rfl, env, st, rv, hp⟩ := h
    exact hp _ w (Ext.refl w) (env.set rv i) st
theorem gs_nil : PGs X [] (tGs X.K nilG) := PGs.imp pgs_nil fun v t H Q h => by
  obtain ⟨r, s, w, ds, rfl, env, st, rv, hp⟩ := h
  cases rv with
  | nil => exact ⟨rfl, hp _ w (Ext.refl w) env st⟩
  | cons _ _ => exact hp.elim
theorem gs_cons {g : DG} {g2 : DGs} (h1 : PG X a (tG X.K g)) (h2 : PGs X es (tGs X.K g2)) (hs : (assignEach (a :: es) X.env).map (·.2) = assign a X.env :: (assignEach es X.env).map (·.2) := by rfl) : PGs X (a :: es) (tGs X.K (consG g g2)) :=
  PGs.imp (pgs_cons h1 h2 hs) fun v t H Q h => by
    obtain ⟨r, s, w, ds, rfl, env, st, rv, hp⟩ := h
    cases rv with
    | nil => exact hp.elim
    | @cons v d vs ds r1 r2 =>
      refine ⟨v, vs, rfl, r, s, w, d, rfl, env, st, r1, ?_⟩
      unfold consG at hp
      dsimp only at hp
      cases e : g d r s with
      | none => rw [e] at hp; exact hp.elim
      | some p =>
        rw [e] at hp
        refine fun t' w' e' env' st' => ⟨p.1, p.2, w', ds, rfl, env', st', r2.ext e', ?_⟩
        have hp' : (match g2 ds p.1 p.2 with
          | some p => ∀ t' w', Ext w w' → EnvR X.K w' p.1 t' → StR X.K w' p.2 → Q t' w'.H
          | none => False) := hp
        cases e2 : g2 ds p.1 p.2 with
        | none => rw [e2] at hp'; exact hp'.elim
        | some p2 =>
          rw [e2] at hp'
          exact fun t2 w2 x2 => hp' t2 w2 (e'.trans x2)
theorem g_tup {k n : Nat} {g : DGs} (hc : X.calm = true) (h : PGs X es (tGs X.K g)) (hn : (assignEach es X.env).length = n := by rfl) (hst : (assignEach es X.env).findIdx? (·.1) = none := by rfl) : PG X (.Tuple es k pos) (tG X.K (tupG n g)) :=
  PG.imp (PG.or (pg_tup hc h hn hst) (pg_lst hc h hn hst)) fun v t H Q h => by
    obtain ⟨r, s, w, d, rfl, env, st, rv, hp⟩ := h
    unfold tupG at hp
    cases e : seqOf s d with
    | none => rw [e] at hp; exact hp.elim
    | some l =>
      rw [e] at hp
      dsimp only at hp
      obtain ⟨p, vs, rfl, hq, rs⟩ := seqOf_ok st rv e
      by_cases hl : l.length = n
      · rw [if_pos hl] at hp
        have hin : tGs X.K g vs t w.H Q := ⟨r, s, w, l, rfl, env, st, rs, hp⟩
        rcases hq with hq | hq
        · exact .inr ⟨p, vs, rfl, hq, by rw [rs.length, hl], hin⟩
        · exact .inl ⟨p, vs, rfl, hq, by rw [rs.length, hl], hin⟩
      · rw [if_neg hl] at hp
        exact hp.elim
theorem s_asg {tg : Expr} {g : DG} (he : PE X a (tE X.K W ma)) (hg : PG X tg (tG X.K g)) (hs : swapsWithSole [tg] a pos.line X.env = pure false := by rfl) (hw : swappedStores [tg] a X.env = pure none := by rfl)
    (h1 : (assignEach [tg] X.env).map (·.2) = [assign tg X.env] := by rfl) : PS X (.Assign [tg] a pos) (tS X.K W (asgS ma g)) := PS.imp (ps_asg he hg hs hw h1) fun E t H h => by
  obtain ⟨r, s, w, rfl, env, st, hp⟩ := h
  exact hp.bind env st fun x d s1 w1 e1 st1 r1 hp1 => by
    refine ⟨r, s1, w1, d, rfl, env.ext e1, st1, r1, ?_⟩
    cases e : g d r s1 with
    | none => rw [e] at hp1; exact hp1.elim
    | some p =>
      rw [e] at hp1
      exact hp1
theorem s_par2 {i j : Nat} {x y : Str} {px py pt : Pos} {kt k2 : Nat} {pt2 : Pos} (hc : X.calm = true) (hN : X.N.Nodup) (hi : X.N[i]? = some x) (hj : X.N[j]? = some y) (hij : i ≠ j) (hx : X.env.scope.names.lookup x = some .local) (hy : X.env.scope.names.lookup y = some .local)
    (ha : PA X [a, b] (tA X.K W mr)) (hw : swappedStores [.Tuple [.Name x px, .Name y py] kt pt] (.Tuple [a, b] k2 pt2) X.env = pure (some [x, y]) := by rfl)
    (hs : swapsWithSole [.Tuple [.Name x px, .Name y py] kt pt] (.Tuple [a, b] k2 pt2) pos.line X.env = pure false := by rfl) :
    PS X (.Assign [.Tuple [.Name x px, .Name y py] kt pt] (.Tuple [a, b] k2 pt2) pos) (tS X.K W (par2S i j mr)) := PS.imp (ps_par hc hN hi hj hij hx hy ha hw hs) fun E t H h => by
  obtain ⟨r, s, w, rfl, env, st, hp⟩ := h
  exact hp.bind env st fun vs ds s1 w1 e1 st1 r1 hp1 => by
    cases r1 with
    | nil => exact hp1.elim
    | cons q1 r2 =>
      cases r2 with
      | nil => exact hp1.elim
      | cons q2 r3 =>
        cases r3 with
        | nil => exact ⟨_, _, rfl, hp1 _ w1 (Ext.refl w1) (((env.ext e1).set q1 i).set q2 j) st1⟩
        | cons _ _ => exact hp1.elim
/-! while -/
theorem s_while {mt : DM Bool} {body : List Stmt} {mb : DS} (hp : PassesOwn (model X.prog X.w) X.A X.env X.xe) (hc : PT X c (tT X.K W mt)) (hb : PSs X body (tS X.K W mb)) : PS X (.While c body [] pos) (tS X.K W (whileS mt mb)) :=
  PS.imp (ps_while hp hc hb) fun E t H h => by
    obtain ⟨r, s, w, rfl, env, st, hp⟩ := h
    have hx : ∃ n, whileF mt mb n r s ≠ .bad := by
      apply Classical.byContradiction
      intro hx
      unfold whileS at hp
      rw [dif_neg hx] at hp
      exact hp.elim
    obtain ⟨n, hn⟩ := hx
    rw [whileS_of hn] at hp
    refine ⟨fun m t H => ∃ r s w, w.H = H ∧ EnvR X.K w r t ∧ StR X.K w s ∧ PostS X.K w W E (whileF mt mb m r s), ⟨n, r, s, w, rfl, env, st, hp⟩, fun m t H h => ?_⟩
    obtain ⟨r, s, w, rfl, env, st, hp⟩ := h
    cases m with
    | zero => exact hp.elim
    | succ m =>
      have hp' : PostS X.K w W E (thenS mt (fun k => if k = true then (fun r s => match mb r s with
        | .nx r' s' => whileF mt mb m r' s'
        | .ct r' s' => whileF mt mb m r' s'
        | .bk r' s' => .nx r' s'
        | .rt d s' => .rt d s'
        | .exc C fs r' s' => .exc C fs r' s'
        | .bad => .bad) else fun r s => .nx r s) r s) := by
        unfold whileF at hp
        unfold thenS
        cases e : mt r s with
        | ok k s1 =>
          rw [e] at hp
          cases k with
          | true => exact hp
          | false => exact hp
        | exc C fs s1 => rw [e] at hp; exact hp
        | bad => rw [e] at hp; exact hp
      exact hp'.bind env st fun x d s1 w1 e1 st1 r1 hp1 => by
        subst r1
        cases x with
        | false => exact hp1 t w1 (Ext.refl w1) (env.ext e1) st1
        | true =>
          have hp2 : PostS X.K w1 W E (match mb r s1 with
            | .nx r' s' => whileF mt mb m r' s'
            | .ct r' s' => whileF mt mb m r' s'
            | .bk r' s' => .nx r' s'
            | .rt d s' => .rt d s'
            | .exc C fs r' s' => .exc C fs r' s'
            | .bad => .bad) := hp1
          show (if true = true then _ else _)
          rw [if_pos rfl]
          refine ⟨fun t' H' => ∃ r s w, w.H = H' ∧ EnvR X.K w r t' ∧ StR X.K w s ∧ PostS X.K w W E (whileF mt mb m r s), fun t' H' q => ⟨m, Nat.lt_succ_self m, q⟩, r, s1, w1, rfl, env.ext e1, st1, ?_⟩
          cases e : mb r s1 with
          | nx r' s' =>
            rw [e] at hp2
            exact fun t' w' x' env' st' => ⟨r', s', w', rfl, env', st', hp2.ext x'⟩
          | ct r' s' =>
            rw [e] at hp2
            exact fun t' w' x' env' st' => ⟨r', s', w', rfl, env', st', hp2.ext x'⟩
          | bk r' s' => rw [e] at hp2; exact hp2
          | rt d s' => rw [e] at hp2; exact hp2
          | exc C fs r' s' => rw [e] at hp2; exact hp2
          | bad => rw [e] at hp2; exact hp2
/-! for -/
/-- an iterator that yields these -/
structure ItR (K : Frag) (w0 : Wd) (J : It) (c : Src) : Prop where
  go : ∀ (i : Nat) (d : D) (w : Wd) (s : Sto), c.its[i]? = some d → Ext w0 w → StR K w s → SrcOk c s → J.go i w.H ∧ ∀ x H', J.yld i w.H x H' → ∃ w', Ext w w' ∧ w'.H = H' ∧ StR K w' s ∧ Rep K w' x d
  stop : ∀ (w : Wd) (s : Sto), Ext w0 w → StR K w s → SrcOk c s → J.stop c.its.length w.H
abbrev tI (K : Frag) (W : WX) (m : DM Src) : TI := tM K (ItR K) W m
theorem PI.imp {tg iter : Expr} {t t' : TI} (h : PI X tg iter t) (i : ∀ σ H Q, t' σ H Q → t σ H Q) : PI X tg iter t' := ⟨fun pins s σ H Q I q => h.run pins s σ H Q I (i _ _ _ q)⟩
theorem PI.or {tg iter : Expr} {t t' : TI} (h : PI X tg iter t) (h' : PI X tg iter t') : PI X tg iter (fun σ H Q => t σ H Q ∨ t' σ H Q) := ⟨fun pins s σ H Q I q => q.elim (h.run pins s σ H Q I) (h'.run pins s σ H Q I)⟩
theorem s_for {tg iter : Expr} {body : List Stmt} {mi : DM Src} {g : DG} {mb : DS} (hp : PassesOwn (model X.prog X.w) X.A X.env X.xe) (hc : X.calm = true) (hi : PI X tg iter (tI X.K W mi)) (hg : PG X tg (tG X.K g)) (hb : PSs X body (tS X.K W mb))
    (hs : ∀ x, foldedSetIterable iter X.env x = pure x := by intro _; rfl) : PS X (.For tg iter body [] pos) (tS X.K W (forS mi g mb)) := PS.imp (ps_for hp hc hi hg hb hs) fun E t H h => by
  obtain ⟨r, s, w, rfl, env, st, hp⟩ := h
  exact hp.bind env st fun J sc s1 w1 e1 st1 r1 hp1 => by
    obtain ⟨its, cl⟩ := sc
    refine ⟨fun i m t H => i + m = its.length ∧ ∃ r s w, w.H = H ∧ Ext w1 w ∧ EnvR X.K w r t ∧ StR X.K w s ∧ PostS X.K w W E (forF ⟨its, cl⟩ g mb (its.drop i) r s), ⟨its.length, Nat.zero_add _, r, s1, w1, rfl, Ext.refl w1, env.ext e1, st1, hp1⟩, fun i m t H h => ?_⟩
    obtain ⟨him, r, s, w, rfl, ex, env, st, hp⟩ := h
    cases m with
    | zero =>
      have hi : i = its.length := by omega
      subst hi
      rw [List.drop_length] at hp
      unfold forF at hp
      by_cases ck : SrcOk ⟨its, cl⟩ s
      · rw [if_pos ck] at hp
        exact .inl ⟨r1.stop w s ex st ck, hp t w (Ext.refl w) env st⟩
      · rw [if_neg ck] at hp
        exact hp.elim
    | succ m =>
      have hlt : i < its.length := by omega
      have hd : its[i]? = some its[i] := List.getElem?_eq_getElem hlt
      rw [List.drop_eq_getElem_cons hlt] at hp
      unfold forF at hp
      by_cases ck : SrcOk ⟨its, cl⟩ s
      rotate_left
      · rw [if_neg ck] at hp
        exact hp.elim
      rw [if_pos ck] at hp
      obtain ⟨hgo, hy⟩ := r1.go i _ w s hd ex st ck
      refine .inr ⟨hgo, fun t' H' => i + 1 + m = its.length ∧ ∃ r s w, w.H = H' ∧ Ext w1 w ∧ EnvR X.K w r t' ∧ StR X.K w s ∧ PostS X.K w W E (forF ⟨its, cl⟩ g mb (its.drop (i + 1)) r s), fun t' H' q => ⟨m, Nat.lt_succ_self m, q⟩, fun x H' yl => ?_⟩
      obtain ⟨w2, x2, rfl, st2, rx⟩ := hy x H' yl
      refine ⟨r, s, w2, its[i], rfl, env.ext x2, st2, rx, ?_⟩
      cases eg : g its[i] r s with
      | none => rw [eg] at hp; exact hp.elim
      | some p =>
        rw [eg] at hp
        have hp3 := hp.ext x2
        refine fun t3 w3 x3 env3 st3 => ⟨p.1, p.2, w3, rfl, env3, st3, ?_⟩
        have hp4 := hp3.ext x3
        dsimp only at hp4
        cases e : mb p.1 p.2 with
        | nx r' s' =>
          rw [e] at hp4
          exact fun t' w' x' env' st' => ⟨by omega, r', s', w', rfl, ((ex.trans x2).trans x3).trans x', env', st', hp4.ext x'⟩
        | ct r' s' =>
          rw [e] at hp4
          exact fun t' w' x' env' st' => ⟨by omega, r', s', w', rfl, ((ex.trans x2).trans x3).trans x', env', st', hp4.ext x'⟩
        | bk r' s' => rw [e] at hp4; exact hp4
        | rt d s' => rw [e] at hp4; exact hp4
        | exc C fs r' s' => rw [e] at hp4; exact hp4
        | bad => rw [e] at hp4; exact hp4
end
end Mp
set_option Elab.async false
set_option linter.all false
set_option maxRecDepth 100000
set_option maxHeartbeats 4000000
/-! Mp: what is walked; comprehensions. -/
namespace Mp
open PySem PySem.Spec PyProof.Rows L2
def chars (z : Str) : List D := z.cps.toList.map fun c => .str ⟨#[c]⟩
def keyV : Key → D
  | .inl i => .int i
  | .inr z => .str z
/-- what a plain value yields -/
def srcD (s : Sto) : D → Option Src
  | .tup l => some ⟨l, none⟩
  | .lst l => some ⟨l, none⟩
  | .rol l => some ⟨l, none⟩
  | .str z => some ⟨chars z, none⟩
  | .dct m => some ⟨m.map fun p => keyV p.1, none⟩
  | .cel n => (match s[n]? with
    | some (some (.lst l)) => some ⟨l, some n⟩
    | _ => none)
  | _ => none
/-- a dict that is walked is locked from now on -/
def lockD (s : Sto) : D → Option (List (Key × D) × Sto)
  | .dct m => some (m, s)
  | .cel n => (match s[n]? with
    | some (some (.dct m)) => some (m, s.set n (some (.rod m)))
    | some (some (.rod m)) => some (m, s)
    | _ => none)
  | _ => none
def srcM (s : Sto) (x : D) : Res Src := match lockD s x with
  | some p => .ok ⟨p.1.map fun p => keyV p.1, none⟩ p.2
  | none => okO s (srcD s x)
def seqI (a : DE) : DM Src := bindM a fun x => fun _ s => srcM s x
def intL (lo : Int) (n : Nat) : List D := (List.range n).map fun k => .int (lo + (k : Nat))
@[irreducible] def rangeD1 (ds : List D) (s : Sto) : Res Src := match ds with
  | [.int j] => if -(2 ^ 62) ≤ j ∧ j < 2 ^ 62 then .ok ⟨intL 0 j.toNat, none⟩ s else .bad
  | _ => .bad
def argI (f : List D → Sto → Res Src) (m : DM (List D)) : DM Src := bindM m fun ds => fun _ s => f ds s
/-! ### soundness -/
section
variable {X : Cx} {tg : Expr} {pins : List (Addr × Obj)} {t : L2.St} {H : Hp} {s1 : Shared} {R : It → Hp → Prop} {E : Value → Shared → Prop}
theorem it_list {p : Addr} {xs : List V} (I : Inv X pins t H s1) (hq : SqL X.K H p xs) (q : R (Itl X.K p) H) : wpAny (model X.prog X.w) X.A (pyIter (.ref p)) (PIE X pins t tg R) E s1 := by
  obtain ⟨vs, _, pl, _⟩ := I.list hq
  refine wpAny_pyIter_list pl.isList ⟨s1.heap.objs.size, [s1.heap.objs.size], _, _, H, rfl, I.kept (t' := s1.toks) fun _ _ z => Heap.get?_push_of_some _ z, turn_list p _, ⟨_, Heap.get?_push_size _ rfl, rfl, rfl⟩, fun z hz => ?_, q⟩
  cases List.mem_singleton.mp hz
  exact I.fpOk (Nat.le_refl _) (I.hok.fresh (Nat.le_refl _))
theorem it_tup {p : Addr} {xs : List V} (I : Inv X pins t H s1) (hq : SqT X.K H p xs) (q : R (Itt X.K p) H) : wpAny (model X.prog X.w) X.A (pyIter (.ref p)) (PIE X pins t tg R) E s1 := by
  obtain ⟨vs, _, pl, _⟩ := I.tuple hq
  refine wpAny_pyIter_tuple (show s1.heap.IsTuple p vs.toArray from pl) ⟨s1.heap.objs.size, [s1.heap.objs.size], _, _, H, rfl, I.kept (t' := s1.toks) fun _ _ z => Heap.get?_push_of_some _ z, turn_tuple p _, ⟨_, Heap.get?_push_size _ rfl, rfl, rfl⟩, fun z hz => ?_, q⟩
  cases List.mem_singleton.mp hz
  exact I.fpOk (Nat.le_refl _) (I.hok.fresh (Nat.le_refl _))
theorem it_str {x : Str} {k : Tok} (I : Inv X pins t H s1) (q : R (Its x) H) : wpAny (model X.prog X.w) X.A (pyIter (.str x k)) (PIE X pins t tg R) E s1 := by
  cases ha : x.cps.all (· < 128)
  · refine wpAny_pyIter_wide ha (pi_one (tk := s1.toks) I _ (turn_str _ x k "str_iterator" (Or.inr rfl)) ⟨_, Heap.get?_push_size _ rfl, rfl, rfl⟩ q)
  · refine wpAny_pyIter_ascii ha (pi_one (tk := s1.toks) I _ (turn_str _ x k "str_ascii_iterator" (Or.inl rfl)) ⟨_, Heap.get?_push_size _ rfl, rfl, rfl⟩ q)
end
theorem it_keys {X : Cx} {tg : Expr} {pins : List (Addr × Obj)} {t : L2.St} {H : Hp} {s1 : Shared} {R : It → Hp → Prop} {E : Value → Shared → Prop} {p : Addr} {o : Obj} {l : List (Key × V)} (I : Inv X pins t H s1) (hd : H p = some (.frz o (.dK l))) (q : R (Itk p o l) H) : wpAny (model X.prog X.w) X.A (pyIter (.ref p)) (PIE X pins t tg R) E s1 := by
  obtain ⟨hs, hg, hx, es, ep, vs, hdt, hsz, _, _⟩ := I.frzK hd
  refine iter_keys hs hg hx hdt (pi_one (tk := s1.toks) I _ (turn_keys _ hdt) ⟨_, Heap.get?_push_size _ rfl, rfl, by rw [hsz] <;> rfl⟩ q)
section
variable {K : Frag} {w : Wd}
theorem itR_list {p : Addr} {vs : List V} {ds : List D} (h : LAt K w p vs) (rs : Reps K w vs ds) : ItR K w (Itl K p) ⟨ds, none⟩ where
  go := fun i d w' s hd e st _ => by
    obtain ⟨v, hv, rv⟩ := rs.get hd
    refine ⟨⟨vs, v, (h.ext e).sq, hv⟩, fun x H' y => ?_⟩
    obtain ⟨rfl, y⟩ := y
    have e2 := (y vs (h.ext e).sq).symm.trans hv
    cases e2
    exact ⟨w', Ext.refl w', rfl, st, rv.ext e⟩
  stop := fun w' s e st _ => ⟨vs, (h.ext e).sq, by rw [rs.length]; exact Nat.le_refl _⟩
theorem itR_cell {p : Addr} {n : Nat} {ds : List D} (h : w.A n = some p) : ItR K w (Itl K p) ⟨ds, some n⟩ where
  go := fun i d w' s hd e st ck => by
    obtain ⟨a1, h1, _, vs, hh, rs⟩ := st.at_ n _ ck
    have ea : a1 = p := Option.some.inj (h1.symm.trans (e.A n p h))
    subst ea
    obtain ⟨v, hv, rv⟩ := rs.get hd
    refine ⟨⟨vs, v, SqL.of hh, hv⟩, fun x H' y => ?_⟩
    obtain ⟨rfl, y⟩ := y
    have e2 := (y vs (SqL.of hh)).symm.trans hv
    cases e2
    exact ⟨w', Ext.refl w', rfl, st, rv⟩
  stop := fun w' s e st ck => by
    obtain ⟨a1, h1, _, vs, hh, rs⟩ := st.at_ n _ ck
    have ea : a1 = p := Option.some.inj (h1.symm.trans (e.A n p h))
    subst ea
    exact ⟨vs, SqL.of hh, by rw [rs.length]; exact Nat.le_refl _⟩
theorem itR_tup {p : Addr} {vs : List V} {ds : List D} (h : TAt K w p vs) (rs : Reps K w vs ds) : ItR K w (Itt K p) ⟨ds, none⟩ where
  go := fun i d w' s hd e st _ => by
    obtain ⟨v, hv, rv⟩ := rs.get hd
    refine ⟨⟨vs, v, (h.ext e).sq, hv⟩, fun x H' y => ?_⟩
    obtain ⟨rfl, y⟩ := y
    have e2 := (y vs (h.ext e).sq).symm.trans hv
    cases e2
    exact ⟨w', Ext.refl w', rfl, st, rv.ext e⟩
  stop := fun w' s e st _ => ⟨vs, (h.ext e).sq, by rw [rs.length]; exact Nat.le_refl _⟩
theorem itR_str {x : Str} : ItR K w (Its x) ⟨chars x, none⟩ where
  go := fun i d w' s hd e st _ => by
    have hd' : (x.cps.toList.map fun c => D.str ⟨#[c]⟩)[i]? = some d := hd
    rw [List.getElem?_map, Array.getElem?_toList] at hd'
    cases q : x.cps[i]? with
    | none => rw [q] at hd'; cases hd'
    | some c =>
      rw [q] at hd'
      have hl : i < x.cps.size := (Array.getElem?_eq_some_iff.mp q).1
      refine ⟨hl, fun y H' yl => ?_⟩
      obtain ⟨rfl, c2, q2, rfl⟩ := yl
      rw [q] at q2
      cases q2
      cases hd'
      exact ⟨w', Ext.refl w', rfl, st, .str _⟩
  stop := fun w' s e st _ => by
    show x.cps.size ≤ (x.cps.toList.map _).length
    rw [List.length_map, Array.length_toList]
    exact Nat.le_refl _
theorem itR_range {lo : Int} {n : Nat} : ItR K w (Itr lo n) ⟨intL lo n, none⟩ where
  go := fun i d w' s hd e st _ => by
    have hd' : ((List.range n).map fun k => D.int (lo + (k : Nat)))[i]? = some d := hd
    rw [List.getElem?_map] at hd'
    by_cases hi : i < n
    · rw [List.getElem?_range hi] at hd'
      cases hd'
      refine ⟨hi, fun x H' y => ?_⟩
      obtain ⟨rfl, rfl⟩ := y
      exact ⟨w', Ext.refl w', rfl, st, .int _⟩
    · rw [List.getElem?_eq_none (by rw [List.length_range]; omega)] at hd'
      cases hd'
  stop := fun w' s e st _ => by
    show n ≤ ((List.range n).map _).length
    rw [List.length_map, List.length_range]
    exact Nat.le_refl _
theorem rep_key {k : Key} : Rep K w (kV k) (keyV k) := by
  cases k with
  | inl i => exact .int i
  | inr z => exact .str z
theorem KVR.get {T : Type} : ∀ {l : List (T × V)} {m : List (T × D)} {i : Nat} {p : T × D}, KVR K w l m → m[i]? = some p → ∃ v, l[i]? = some (p.1, v) ∧ Rep K w v p.2
  | _, _, _, _, .nil, h => by simp at h
  | _, _, 0, _, .cons h _, e => by
    simp at e
    subst e
    exact ⟨_, rfl, h⟩
  | _, _, i + 1, _, .cons _ r, e => by
    simp at e
    obtain ⟨v, h1, h2⟩ := r.get e
    exact ⟨v, by simpa using h1, h2⟩
theorem itR_keys {p : Addr} {o : Obj} {l : List (Key × V)} {m : List (Key × D)} (z : w.Z p) (h : w.H p = some (.frz o (.dK l))) (r : KVR K w l m) : ItR K w (Itk p o l) ⟨m.map fun q => keyV q.1, none⟩ where
  go := fun i d w' s hd e st _ => by
    have hd' : (m.map fun q => keyV q.1)[i]? = some d := hd
    rw [List.getElem?_map] at hd'
    cases q : m[i]? with
    | none => rw [q] at hd'; cases hd'
    | some kd =>
      rw [q] at hd'
      cases hd'
      obtain ⟨v, hv, _⟩ := r.get q
      have hl : i < l.length := (List.getElem?_eq_some_iff.mp hv).1
      refine ⟨⟨(e.H p z).trans h, hl⟩, fun x H' y => ?_⟩
      obtain ⟨rfl, k2, v2, q2, rfl⟩ := y
      rw [hv] at q2
      cases q2
      exact ⟨w', Ext.refl w', rfl, st, rep_key⟩
  stop := fun w' s e st _ => ⟨(e.H p z).trans h, by
    show l.length ≤ (m.map _).length
    rw [List.length_map, r.length]
    exact Nat.le_refl _⟩
end
section
variable {X : Cx} {W : WX} {tg a b c : Expr} {es : List Expr} {pos p : Pos} {ma mb mc : DE} {mr : DM (List D)}
/-- a name, a call, an attribute .. that is walked -/
theorem pe_frz {e : Expr} {t : TE} (he : PE X e t) : PE X e (fun σ H Q => t σ H fun v H1 => Q v H1 ∨ ∃ d u, v = .ref d ∧ H1 d = some u ∧ Mut (some u) ∧ ∀ od, Q v (upd H1 d (.frz od u))) :=
  ⟨fun pins s σ H Q I h => thn (he.run pins s σ H _ I h) fun v s1 ⟨x, H1, I1, r1, q⟩ => q.elim (fun q => ⟨x, H1, I1, r1, q⟩) fun ⟨d, u, _, hd, mu, q⟩ => let ⟨od, I2⟩ := I1.lock hd mu; ⟨x, _, I2, r1, q od⟩⟩
/-- a dict that is locked -/
theorem lock_ok {w : Wd} {s s' : Sto} {x : V} {d : D} {m : List (Key × D)} (st : StR X.K w s) (r : Rep X.K w x d) (h : lockD s d = some (m, s')) :
    ∃ a l, x = .ref a ∧ ((∃ o, w.Z a ∧ w.H a = some (.frz o (.dK l)) ∧ KVR X.K w l m ∧ s' = s) ∨ (w.H a = some (.dK l) ∧ ∀ o, Ext w (w.lock a (.frz o (.dK l))) ∧ StR X.K (w.lock a (.frz o (.dK l))) s' ∧ KVR X.K (w.lock a (.frz o (.dK l))) l m)) := by
  cases d with
  | dct m1 =>
    cases h
    obtain ⟨a, o, l, rfl, z, h1, h2⟩ := r.dct_inv
    exact ⟨a, l, rfl, .inl ⟨o, z, h1, h2, rfl⟩⟩
  | cel n =>
    unfold lockD at h
    dsimp only at h
    cases r with
    | cel ha =>
      cases e : s[n]? with
      | none => rw [e] at h; cases h
      | some oc =>
        rw [e] at h
        cases oc with
        | none => cases h
        | some c =>
          cases c with
          | dct l1 =>
            cases h
            obtain ⟨a1, h1, hz, l, hh, rs⟩ := st.at_ n _ e
            have ea := Option.some.inj (h1.symm.trans ha)
            subst ea
            refine ⟨_, l, rfl, .inr ⟨hh, fun o => ?_⟩⟩
            have ex : Ext w (w.lock a1 (.frz o (.dK l))) := Wd.lock_ext hz (st.np n _ a1 e h1)
            exact ⟨ex, Wd.lock_st st e h1 hz ⟨o, l, .inr rfl, upd_same, rs.ext ex⟩, rs.ext ex⟩
          | rod l1 =>
            cases h
            obtain ⟨a1, h1, _, o, l, z, hh, rs⟩ := st.at_ n _ e
            have ea := Option.some.inj (h1.symm.trans ha)
            subst ea
            exact ⟨_, l, rfl, .inl ⟨o, z, hh, rs, rfl⟩⟩
          | _ => cases h
  | _ => cases h
theorem i_seq (ha : PE X a (tE X.K W ma)) : PI X tg a (tI X.K W (seqI ma)) := by
  refine ⟨fun pins s t H R I h => ?_⟩
  obtain ⟨r, so, w, rfl, env, st, hp⟩ := h
  refine thn (ha.run pins s t w.H (fun x H1 => ∃ d s1 w1, w1.H = H1 ∧ Ext w w1 ∧ StR X.K w1 s1 ∧ Rep X.K w1 x d ∧ Post X.K (ItR X.K) w1 (fun c d H' => W c d t H') R (srcM s1 d)) I (hp.bind env st fun x d s1 w1 e1 st1 r1 hp1 => ⟨d, s1, w1, rfl, e1, st1, r1, hp1⟩)) fun v s1 h => ?_
  obtain ⟨x, H1, I1, rx, d, so1, w1, rfl, e1, st1, r1, hp1⟩ := h
  unfold srcM at hp1
  cases el : lockD so1 d with
  | some ms =>
    obtain ⟨m, so2⟩ := ms
    rw [el] at hp1
    obtain ⟨a, l, rfl, q⟩ := lock_ok st1 r1 el
    cases rx
    rcases q with ⟨o, z, hh, kv, rfl⟩ | ⟨hh, q⟩
    · exact it_keys I1 hh (hp1.pure st1 (itR_keys z hh kv))
    · obtain ⟨od, I2⟩ := I1.lock hh trivial
      obtain ⟨ex, st2, kv⟩ := q od
      exact it_keys I2 upd_same (hp1 _ (w1.lock a (.frz od (.dK l))) ex st2 (itR_keys (.inr rfl) upd_same kv))
  | none =>
  rw [el] at hp1
  dsimp only at hp1
  cases r1 with
  | tup hh rs =>
    cases rx
    exact it_tup I1 hh.sq (hp1.pure st1 (itR_tup hh rs))
  | lst z hh rs =>
    cases rx
    exact it_list I1 (SqL.of hh) (hp1.pure st1 (itR_list (.inl ⟨z, .inl hh⟩) rs))
  | rol hh rs =>
    cases rx
    exact it_list I1 hh.sq (hp1.pure st1 (itR_list hh rs))
  | str z =>
    obtain ⟨k, rfl⟩ := rx
    exact it_str I1 (hp1.pure st1 itR_str)
  | dct z hh hl rs => cases el
  | @cel n a0 hA =>
    cases rx
    unfold srcD at hp1
    dsimp only at hp1
    cases e : so1[n]? with
    | none => rw [e] at hp1; exact hp1.elim
    | some o =>
      cases o with
      | none => rw [e] at hp1; exact hp1.elim
      | some ct =>
        cases ct with
        | lst l =>
          rw [e] at hp1
          obtain ⟨a1, h1, _, vs, hh, rs⟩ := st1.at_ n _ e
          have ea : a1 = a0 := Option.some.inj (h1.symm.trans hA)
          subst ea
          exact it_list I1 (SqL.of hh) (hp1.pure st1 (itR_cell hA))
        | _ => rw [e] at hp1; exact hp1.elim
  | _ => exact hp1.elim
theorem i_range1 (hg : Gl X "range") (hm : X.mg "range" = none) (ha : PA X [a] (tA X.K W mr)) (hs : starEach [a] X.env = [(false, eval a X.env)] := by rfl) : PI X tg (.Call (.Name "range" p) [a] [] pos) (tI X.K W (argI rangeD1 mr)) :=
  PI.imp (pi_range1 hg hm ha hs) fun t H Q h => by
    obtain ⟨r, s, w, rfl, env, st, hp⟩ := h
    exact hp.bind env st fun vs ds s1 w1 e1 st1 r1 hp1 => by
      unfold rangeD1 at hp1
      split at hp1
      · rename_i j
        cases r1 with
        | cons q1 r2 =>
          cases q1
          cases r2
          split at hp1
          · rename_i hb
            exact ⟨j, rfl, hb.1, hb.2, hp1.pure st1 itR_range⟩
          · exact hp1.elim
      · exact hp1.elim
end
end Mp
set_option Elab.async false
set_option linter.all false
set_option maxRecDepth 100000
set_option maxHeartbeats 4000000
/-! Mp: comprehensions. -/
namespace Mp
open PySem PySem.Spec PyProof.Rows L2
def wipeE (r : En) : List Nat → En
  | [] => r
  | v :: vs => (wipeE r vs).set v none
open Classical in
noncomputable def lcF (c : Src) (g : DG) (tt : DM Bool) (te : DE) (r : En) : List D → List D → Sto → Res (List D)
  | [], acc, s => if SrcOk c s then .ok acc s else .bad
  | d :: l, acc, s => if SrcOk c s then (match g d r s with
    | none => .bad
    | some p => (match tt p.1 p.2 with
      | .ok k s1 => if k = true then (match te p.1 s1 with
        | .ok y s2 => if acc.length < sizeLine then lcF c g tt te r l (acc ++ [y]) s2 else .bad
        | _ => .bad) else lcF c g tt te r l acc s1
      | _ => .bad)) else .bad
noncomputable def lcM (k : Bool) (mi : DM Src) (g : DG) (tt : DM Bool) (te : DE) (vs : List Nat) : DE := bindM mi fun c => fun r s => match lcF c g tt te (wipeE r vs) c.its [] s with
  | .ok acc s' => newL k acc s'
  | _ => .bad
def yesM : DM Bool := pureM true
abbrev W0 : WX := fun _ _ _ _ => False
/-! ### targets that keep the rest -/
def tGw (K : Frag) (g : DG) (ns : List Nat) : TG := fun v t H Q => ∃ r s w d, w.H = H ∧ EnvR K w r t ∧ StR K w s ∧ Rep K w v d ∧ (match g d r s with
  | some p => ∀ t' w', Ext w w' → EnvR K w' p.1 t' → StR K w' p.2 → wipe t' ns = wipe t ns → Q t' w'.H
  | none => False)
theorem set_comm' {T : Type} {l : List T} {i j : Nat} {x y : T} (h : i ≠ j) : (l.set i x).set j y = (l.set j y).set i x := List.set_comm x y h
theorem wipe_set {t : L2.St} {i : Nat} {x : Option V} : ∀ {ns : List Nat}, i ∈ ns → wipe (t.set i x) ns = wipe t ns
  | [], h => by simp at h
  | n :: ns, h => by
    unfold wipe
    by_cases hn : i ∈ ns
    · rw [wipe_set hn]
    · have e : i = n := by
        rcases List.mem_cons.mp h with h | h
        · exact h
        · exact absurd h hn
      subst e
      have key : ∀ {ms : List Nat}, i ∉ ms → wipe (t.set i x) ms = (wipe t ms).set i x := by
        intro ms
        induction ms with
        | nil => intro _; rfl
        | cons m ms ih =>
          intro hm
          have h1 : m ≠ i := fun z => hm (z ▸ List.mem_cons_self)
          have h2 : i ∉ ms := fun z => hm (List.mem_cons_of_mem _ z)
          unfold wipe
          rw [ih h2, set_comm' h1.symm]
      rw [key hn, List.set_set]
theorem wipe_env {K : Frag} {w : Wd} {r : En} {t : L2.St} (h : EnvR K w r t) : ∀ ns : List Nat, EnvR K w (wipeE r ns) (wipe t ns)
  | [] => h
  | n :: ns => (wipe_env h ns).unset n
section
variable {X : Cx} {a : Expr} {es : List Expr} {pos : Pos} {ns : List Nat}
theorem gw_name {i : Nat} {x : Str} (hN : X.N.Nodup) (hi : X.N[i]? = some x) (hx : Loc X.env.scope x) (hm : i ∈ ns) (hf : X.fn x = true ∨ X.env.scope.names.lookup x = some .local := by first | exact .inl rfl | exact .inr rfl | assumption) : PG X (.Name x pos) (tGw X.K (nameG i) ns) :=
  PG.imp (pg_name hN hi hx hf) fun v t H Q h => by
    obtain ⟨r, s, w, d, rfl, env, st, rv, hp⟩ := h
    exact hp _ w (Ext.refl w) (env.set rv i) st (wipe_set hm)
theorem ts_nil {W : WX} : PTs X [] (tT X.K W yesM) := ⟨fun pins s t H Q I h => by
  obtain ⟨r, so, w, rfl, env, st, hp⟩ := h
  exact pts_nil.run pins s t w.H Q I (hp.pure st rfl)⟩
theorem ts_one {W : WX} {mt : DM Bool} (h : PT X a (tT X.K W mt)) : PTs X [a] (tT X.K W mt) := pts_one h
end
/-! ### a pinned list -/
def Wd.pin (w : Wd) (p : Addr) (o : HO) : Wd := ⟨w.A, w.Z, fun a => w.P a ∨ a = p, upd w.H p o⟩
section
variable {K : Frag} {w w0 : Wd} {s : Sto} {p : Addr} {o : HO}
theorem Wd.pin_ext (st : StR K w s) (h : w.H p = none) : Ext w (w.pin p o) :=
  ⟨⟨fun _ _ h => h, fun _ h => h, fun a z => upd_ne fun e => st.fz a z (e ▸ h)⟩, fun _ h => .inl h, fun a z => upd_ne fun e => (st.pz a z).2 (e ▸ h)⟩
theorem Wd.pin_st (st : StR K w s) (h : w.H p = none) : StR K (w.pin p o) s := by
  have e := Wd.pin_ext (o := o) st h
  refine ⟨fun n ct q => ?_, fun n ct a q ha z => ?_, fun a z => ?_, st.inj, fun a z => ?_, st.new⟩
  · obtain ⟨a, h1, h2, h3⟩ := st.at_ n ct q
    obtain ⟨ob, ho, _⟩ := h3.some
    exact ⟨a, h1, h2, h3.same e (upd_ne (ne_of_none ho h))⟩
  · obtain ⟨b, h1, h2, h3⟩ := st.at_ n ct q
    obtain ⟨ob, ho, _⟩ := h3.some
    have eb : b = a := Option.some.inj (h1.symm.trans ha)
    subst eb
    exact z.elim (st.np n ct b q ha) (ne_of_none ho h)
  · rcases z with z | z
    · have ne : a ≠ p := fun q => (st.pz a z).2 (q ▸ h)
      exact ⟨(st.pz a z).1, by rw [show (w.pin p o).H a = w.H a from upd_ne ne]; exact (st.pz a z).2⟩
    · subst z
      exact ⟨fun q => st.fz a q h, by rw [show (w.pin a o).H a = some o from upd_same]; exact fun q => nomatch q⟩
  · have ne : a ≠ p := fun q => st.fz a z (q ▸ h)
    rw [show (w.pin p o).H a = w.H a from upd_ne ne]
    exact st.fz a z
theorem Wd.turn_ex0 (st : StR K w s) (hP : w.P p) : Ex0 w (w.put p o) := ⟨fun _ _ h => h, fun _ h => h, fun a z => upd_ne fun e => (st.pz p hP).1 (e ▸ z)⟩
theorem Wd.turn_ext (e : Ext w0 w) (h1 : ¬ w0.Z p) (h2 : ¬ w0.P p) : Ext w0 (w.put p o) :=
  ⟨⟨e.A, e.Z, fun a z => (show upd w.H p o a = w.H a from upd_ne fun q => h1 (q ▸ z)).trans (e.H a z)⟩, e.P, fun a z => (show upd w.H p o a = w.H a from upd_ne fun q => h2 (q ▸ z)).trans (e.HP a z)⟩
theorem Wd.turn_st (st : StR K w s) (hP : w.P p) : StR K (w.put p o) s := by
  have e := Wd.turn_ex0 (o := o) st hP
  refine ⟨fun n ct q => ?_, st.np, fun a z => ⟨(st.pz a z).1, ?_⟩, st.inj, fun a z => ?_, st.new⟩
  · obtain ⟨a, h1, h2, h3⟩ := st.at_ n ct q
    have ne : a ≠ p := fun q2 => st.np n ct a q h1 (q2 ▸ hP)
    exact ⟨a, h1, h2, h3.sam0 e (upd_ne ne)⟩
  · show upd w.H p o a ≠ none
    by_cases ha : a = p
    · rw [ha, upd_same]; exact fun q => nomatch q
    · rw [upd_ne ha]; exact (st.pz a z).2
  · show upd w.H p o a ≠ none
    by_cases ha : a = p
    · rw [ha, upd_same]; exact fun q => nomatch q
    · rw [upd_ne ha]; exact st.fz a z
/-- the pinned list is let go: frozen, or a cell -/
theorem Post.unpin {E : XK} {Q : VK} {k : Bool} {ds : List D} {vs : List V} (hp : Post K (Rep K) w0 E Q (Mp.newL k ds s)) (e : Ext w0 w) (st : StR K w s) (h1 : ¬ w0.P p) (hP : w.P p) (hh : w.H p = some (.lst vs)) (rs : Reps K w vs ds) : Q (.ref p) w.H := by
  have nz := (st.pz p hP).1
  cases k with
  | false =>
    have hp' : Post K (Rep K) w0 E Q (.ok (.lst ds) s) := hp
    let w2 : Wd := ⟨w.A, fun a => w.Z a ∨ a = p, fun a => w.P a ∧ a ≠ p, w.H⟩
    have e0 : Ex0 w w2 := ⟨fun _ _ h => h, fun _ h => .inl h, fun _ _ => rfl⟩
    have e2 : Ext w0 w2 := ⟨⟨e.A, fun a z => .inl (e.Z a z), e.H⟩, fun a z => ⟨e.P a z, fun q => h1 (q ▸ z)⟩, e.HP⟩
    refine hp' (.ref p) w2 e2 ⟨fun n ct q => ?_, fun n ct a q ha z => st.np n ct a q ha z.1, fun a z => ⟨fun q => q.elim (st.pz a z.1).1 z.2, (st.pz a z.1).2⟩, st.inj, fun a z => ?_, st.new⟩ (.lst (.inr rfl) hh (rs.ex0 e0))
    · obtain ⟨a, k1, k2, k3⟩ := st.at_ n ct q
      exact ⟨a, k1, k2.mono (w' := w2) fun (z : w.Z a ∨ a = p) => Or.elim z id fun z => absurd (z ▸ hP) (st.np n ct a q k1), k3.sam0 e0 rfl⟩
    · rcases z with z | z
      · exact st.fz a z
      · rw [z, show w2.H p = some (.lst vs) from hh]
        exact fun q => nomatch q
  | true =>
    have hp' : Post K (Rep K) w0 E Q (.ok (.cel s.length) (s ++ [some (.lst ds)])) := hp
    let w2 : Wd := ⟨fun m => if m = s.length then some p else w.A m, w.Z, fun a => w.P a ∧ a ≠ p, w.H⟩
    have hA : ∀ m a, w.A m = some a → w2.A m = some a := fun m a q => by
      have ne : ¬ m = s.length := fun z => by
        rw [st.new m (by omega)] at q
        exact nomatch q
      show (if m = s.length then some p else w.A m) = some a
      rw [if_neg ne]
      exact q
    have e0 : Ex0 w w2 := ⟨hA, fun _ h => h, fun _ _ => rfl⟩
    have e2 : Ext w0 w2 := ⟨⟨fun n a q => hA n a (e.A n a q), e.Z, e.H⟩, fun a z => ⟨e.P a z, fun q => h1 (q ▸ z)⟩, e.HP⟩
    have at' : ∀ m ct, (s ++ [some (Ct.lst ds)])[m]? = some (some ct) → (m < s.length ∧ s[m]? = some (some ct)) ∨ (m = s.length ∧ ct = .lst ds) := fun m ct q => by
      by_cases hm : m < s.length
      · rw [List.getElem?_append_left hm] at q
        exact .inl ⟨hm, q⟩
      · rw [List.getElem?_append_right (by omega)] at q
        by_cases h0 : m - s.length = 0
        · rw [h0] at q
          exact .inr ⟨by omega, by simpa using q.symm⟩
        · rw [List.getElem?_eq_none (by simp; omega)] at q
          cases q
    have AtN : w2.A s.length = some p := if_pos rfl
    have AtO : ∀ m, m < s.length → w2.A m = w.A m := fun m hm => if_neg (by omega)
    have npo : ∀ m ct a, s[m]? = some (some ct) → w.A m = some a → a ≠ p := fun m ct a q ha z => st.np m ct a q ha (z ▸ hP)
    refine hp' (.ref p) w2 e2 ⟨fun m ct q => ?_, fun m ct a q ha z => ?_, fun a z => st.pz a z.1, fun m k b x y qm qk hm hk => ?_, st.fz, fun m hm => ?_⟩ (.cel AtN)
    · rcases at' m ct q with ⟨hm, q⟩ | ⟨rfl, rfl⟩
      · obtain ⟨a, k1, k2, k3⟩ := st.at_ m ct q
        exact ⟨a, hA m a k1, k2, k3.sam0 e0 rfl⟩
      · exact ⟨p, AtN, nz, vs, hh, rs.ex0 e0⟩
    · rcases at' m ct q with ⟨hm, q⟩ | ⟨rfl, rfl⟩
      · rw [AtO m hm] at ha
        exact st.np m ct a q ha z.1
      · rw [AtN] at ha
        cases ha
        exact z.2 rfl
    · rcases at' m x qm with ⟨lm, qm'⟩ | ⟨rfl, rfl⟩
      · rcases at' k y qk with ⟨lk, qk'⟩ | ⟨rfl, rfl⟩
        · rw [AtO m lm] at hm
          rw [AtO k lk] at hk
          exact st.inj m k b x y qm' qk' hm hk
        · rw [AtO m lm] at hm
          rw [AtN] at hk
          cases hk
          exact absurd rfl (npo m x _ qm' hm)
      · rcases at' k y qk with ⟨lk, qk'⟩ | ⟨rfl, rfl⟩
        · rw [AtO k lk] at hk
          rw [AtN] at hm
          cases hm
          exact absurd rfl (npo k y _ qk' hk)
        · rfl
    · rw [List.length_append] at hm
      have hm' : s.length + 1 ≤ m := hm
      show (if m = s.length then some p else w.A m) = none
      rw [if_neg (by omega)]
      exact st.new m (by omega)
end
/-! ### the reading -/
theorem lc_imp {K : Frag} {W : WX} {k : Bool} {mi : DM Src} {g : DG} {tt : DM Bool} {te : DE} {ns : List Nat} {t : L2.St} {H : Hp} {Q : VK} (h : tE K W (lcM k mi g tt te ns) t H Q) : tLc (tI K W mi) (tGw K g ns) (tT K W0 tt) (tE K W0 te) ns t H Q := by
  obtain ⟨r, s, w, rfl, env, st, hp⟩ := h
  exact hp.bind env st fun J sc s1 w1 e1 st1 r1 hp1 => by
    obtain ⟨its, cl⟩ := sc
    intro Dn nD
    have hz : ¬ w1.Z Dn := fun z => st1.fz Dn z nD
    have hP : ¬ w1.P Dn := fun z => (st1.pz Dn z).2 nD
    have env1 := env.ext e1
    cases ef : lcF ⟨its, cl⟩ g tt te (wipeE r ns) its [] s1 with
    | exc C fs s' => simp only [ef] at hp1; exact hp1.elim
    | bad => simp only [ef] at hp1; exact hp1.elim
    | ok fin sf =>
      simp only [ef] at hp1
      refine ⟨fun i m H => i + m = its.length ∧ ∃ (w : Wd) (s : Sto) (acc : List D) (vs : List V), w.H = H ∧ Ext w1 w ∧ StR K w s ∧ w.P Dn ∧ w.H Dn = some (.lst vs) ∧ Reps K w vs acc ∧ lcF ⟨its, cl⟩ g tt te (wipeE r ns) (its.drop i) acc s = .ok fin sf,
        ⟨its.length, Nat.zero_add _, w1.pin Dn (.lst []), s1, [], [], rfl, Wd.pin_ext st1 nD, Wd.pin_st st1 nD, .inr rfl, upd_same, .nil, ef⟩, fun i m H h => ?_⟩
      obtain ⟨him, w2, s2, acc, vs, rfl, x2, st2, hP2, hh2, rs2, ef2⟩ := h
      cases m with
      | zero =>
        have hi : i = its.length := by omega
        subst hi
        rw [List.drop_length] at ef2
        unfold lcF at ef2
        by_cases ck : SrcOk ⟨its, cl⟩ s2
        · rw [if_pos ck] at ef2
          cases ef2
          exact .inl ⟨r1.stop w2 sf x2 st2 ck, Post.unpin hp1 x2 st2 hP hP2 hh2 rs2⟩
        · rw [if_neg ck] at ef2
          cases ef2
      | succ m =>
        have hlt : i < its.length := by omega
        have hd : its[i]? = some its[i] := List.getElem?_eq_getElem hlt
        rw [List.drop_eq_getElem_cons hlt] at ef2
        unfold lcF at ef2
        by_cases ck : SrcOk ⟨its, cl⟩ s2
        rotate_left
        · rw [if_neg ck] at ef2
          cases ef2
        rw [if_pos ck] at ef2
        obtain ⟨hgo, hy⟩ := r1.go i _ w2 s2 hd x2 st2 ck
        refine .inr ⟨hgo, fun H' => i + 1 + m = its.length ∧ ∃ (w : Wd) (s : Sto) (acc : List D) (vs : List V), w.H = H' ∧ Ext w1 w ∧ StR K w s ∧ w.P Dn ∧ w.H Dn = some (.lst vs) ∧ Reps K w vs acc ∧ lcF ⟨its, cl⟩ g tt te (wipeE r ns) (its.drop (i + 1)) acc s = .ok fin sf,
          fun H' q => ⟨m, Nat.lt_succ_self m, q⟩, fun x H' yl => ?_⟩
        obtain ⟨w3, x3, rfl, st3, rx⟩ := hy x H' yl
        refine ⟨wipeE r ns, s2, w3, its[i], rfl, (wipe_env env1 ns).ext (x2.trans x3), st3, rx, ?_⟩
        cases eg : g its[i] (wipeE r ns) s2 with
        | none => rw [eg] at ef2; cases ef2
        | some p =>
          rw [eg] at ef2
          dsimp only at ef2
          intro t4 w4 x4 env4 st4 wi4
          refine ⟨?_, ?_⟩
          · have ww : wipe (wipe t ns) ns = wipe t ns := by
              have key : ∀ ms : List Nat, (∀ j ∈ ms, j ∈ ns) → wipe (wipe t ms) ns = wipe t ns := by
                intro ms
                induction ms with
                | nil => intro _; rfl
                | cons j ms ih =>
                  intro hj
                  show wipe ((wipe t ms).set j none) ns = wipe t ns
                  rw [wipe_set (hj j List.mem_cons_self)]
                  exact ih fun q hq => hj q (List.mem_cons_of_mem _ hq)
              exact key ns fun j hj => hj
            rw [← ww]
            exact wi4
          · refine ⟨p.1, p.2, w4, rfl, env4, st4, ?_⟩
            cases et : tt p.1 p.2 with
            | exc C fs s' => rw [et] at ef2; cases ef2
            | bad => rw [et] at ef2; cases ef2
            | ok kk s5 =>
              rw [et] at ef2
              dsimp only at ef2
              intro b w5 x5 st5 eb
              subst eb
              have x25 := ((x2.trans x3).trans x4).trans x5
              have x5' := (x3.trans x4).trans x5
              cases b with
              | false => exact ⟨by omega, w5, s5, acc, vs, rfl, x25, st5, x5'.P Dn hP2, (x5'.HP Dn hP2).trans hh2, rs2.ext x5', ef2⟩
              | true =>
                refine ⟨p.1, s5, w5, rfl, env4.ext x5, st5, ?_⟩
                simp only [if_true] at ef2
                cases ee : te p.1 s5 with
                | exc C fs s' => rw [ee] at ef2; cases ef2
                | bad => rw [ee] at ef2; cases ef2
                | ok y s6 =>
                  rw [ee] at ef2
                  dsimp only at ef2
                  by_cases hl : acc.length < sizeLine
                  rotate_left
                  · rw [if_neg hl] at ef2
                    cases ef2
                  rw [if_pos hl] at ef2
                  intro v w6 x6 st6 rv
                  have x6' := x5'.trans x6
                  have P6 := x6'.P Dn hP2
                  have H6 : w6.H Dn = some (.lst vs) := (x6'.HP Dn hP2).trans hh2
                  have e0 := Wd.turn_ex0 (o := .lst (vs ++ [v])) st6 P6
                  refine ⟨vs, H6, by rw [rs2.length]; exact hl, by omega, w6.put Dn (.lst (vs ++ [v])), s6, acc ++ [y], vs ++ [v], rfl, Wd.turn_ext (x25.trans x6) hz hP, Wd.turn_st st6 P6, P6, upd_same, ?_, ef2⟩
                  exact ((rs2.ext x6').ex0 e0).append (.cons (rv.ex0 e0) .nil)
section
variable {X : Cx} {W : WX} {elt tg iter : Expr} {ifs : List Expr} {scope : Scope} {own : List (Str × Nat)} {pos : Pos} {mi : DM Src} {g : DG} {tt : DM Bool} {te : DE}
theorem e_lc (k : Bool) (hc : X.calm = true) (hN : X.N.Nodup) (hi : PI X tg iter (tI X.K W mi)) (ok : BlkOk X.N X.env.scope scope own)
    (hg : ∀ (s : Shared) (H : Hp) (C : Addr) (cl : List (Str × Addr)) (fp : List Addr), PG (X.blk s H scope (compEnvC scope cl C X.env) fp) tg (tGw X.K g (own.map (·.2))))
    (ht : ∀ (s : Shared) (H : Hp) (C : Addr) (cl : List (Str × Addr)) (fp : List Addr), PTs (X.blk s H scope (compEnvC scope cl C X.env) fp) ifs (tT X.K W0 tt))
    (he : ∀ (s : Shared) (H : Hp) (C : Addr) (cl : List (Str × Addr)) (fp : List Addr), PE (X.blk s H scope (compEnvC scope cl C X.env) fp) elt (tE X.K W0 te)) (hs : ∀ x, foldedSetIterable iter X.env x = pure x := by intro _; rfl) :
    PE X (.ListComp elt [⟨tg, iter, ifs, 0⟩] scope pos) (tE X.K W (lcM k mi g tt te (own.map (·.2)))) := PE.imp (pe_lc hc hN hi ok hg ht he hs) fun t H Q h => lc_imp h
theorem s_setLc {i : Nat} {y : Str} {py spos : Pos} (k : Bool) (hc : X.calm = true) (hN : X.N.Nodup) (hy : X.N[i]? = some y) (hyl : X.env.scope.names.lookup y = some .local)
    (hsw : swapsWith (.ListComp elt [⟨tg, iter, ifs, 0⟩] scope pos) (some (.Name y py)) spos.line X.env = pure true) (hi : PI X tg iter (tI X.K W mi)) (ok : BlkOk X.N X.env.scope scope own)
    (hg : ∀ (s : Shared) (H : Hp) (C : Addr) (cl : List (Str × Addr)) (fp : List Addr), PG (X.blk s H scope (compEnvC scope cl C X.env) fp) tg (tGw X.K g (own.map (·.2))))
    (ht : ∀ (s : Shared) (H : Hp) (C : Addr) (cl : List (Str × Addr)) (fp : List Addr), PTs (X.blk s H scope (compEnvC scope cl C X.env) fp) ifs (tT X.K W0 tt))
    (he : ∀ (s : Shared) (H : Hp) (C : Addr) (cl : List (Str × Addr)) (fp : List Addr), PE (X.blk s H scope (compEnvC scope cl C X.env) fp) elt (tE X.K W0 te)) (hs : ∀ x, foldedSetIterable iter X.env x = pure x := by intro _; rfl) :
    PS X (.Assign [.Name y py] (.ListComp elt [⟨tg, iter, ifs, 0⟩] scope pos) spos) (tS X.K W (setS i (lcM k mi g tt te (own.map (·.2))))) := PS.imp (ps_setLc hc hN hy hyl hsw hi ok hg ht he hs) fun E t H h => by
  obtain ⟨r, s, w, rfl, env, st, hp⟩ := h
  have h2 : tE X.K W (lcM k mi g tt te (own.map (·.2))) t w.H (fun x H1 => gName i x t H1 E.nx) := hp.bind env st fun x d s1 w1 e1 st1 r1 hp1 => hp1 _ w1 (Ext.refl w1) ((env.ext e1).set r1 i) st1
  exact lc_imp h2
end
end Mp
set_option Elab.async false
set_option linter.all false
set_option maxRecDepth 100000
set_option maxHeartbeats 4000000
/-! Mp: defs, calls, own classes. -/
namespace Mp
open PySem PySem.Spec PyProof.Rows L2
abbrev DF := List D → Sto → Res D
/-- a def's promise by its function on data -/
def spD (K : Frag) (m : DF) : Sp := fun vs H Q E => ∃ ds s w, w.H = H ∧ Reps K w vs ds ∧ StR K w s ∧ Post K (Rep K) w E Q (m ds s)
/-- the function of a body: its slots, its statement -/
def bodyX (n : Nat) (b : DS) : DF := fun ds s => match b (ds.map some ++ List.replicate (n - ds.length) none) s with
  | .nx _ s' => .ok .non s'
  | .rt d s' => .ok d s'
  | .exc C fs _ s' => .exc C fs s'
  | _ => .bad
/-- the parameters' values: k of them, the last ones with defaults -/
def argsD (k : Nat) (dd : List D) (ds : List D) : Option (List D) := if ds.length ≤ k ∧ k ≤ ds.length + dd.length then some (ds ++ dd.drop (ds.length + dd.length - k)) else none
def bodyM (k : Nat) (dd : List D) (n : Nat) (b : DS) : DF := fun ds s => match argsD k dd ds with
  | some es => bodyX n b es s
  | none => .bad
/-- a def with a star parameter behind k others -/
def bodyV (k : Nat) (n : Nat) (b : DS) : DF := fun ds s => if k ≤ ds.length ∧ ds.length ≤ 1000 then bodyX n b (ds.take k ++ [.tup (ds.drop k)]) s else .bad
def callM (m : DF) (a : DM (List D)) : DE := bindM a fun ds => fun _ s => m ds s
inductive Ak where
  | fld | prop (m : DF) | con (d : D)
def attrD (tb : List (Str × Ak)) (f : Str) (x : D) (s : Sto) : Res D := match insOf s x with
  | none => .bad
  | some (C, fs) => (match tb.lookup C with
    | some .fld => okO s (fs.lookup f)
    | some (.prop m) => m [x] s
    | some (.con d) => (match fs.lookup f with
      | none => .ok d s
      | some _ => .bad)
    | none => .bad)
def attrM (tb : List (Str × Ak)) (f : Str) (a : DE) : DE := bindM a fun x => fun _ s => attrD tb f x s
def methM (tb : List (Str × DF)) (m : Str) (o : DE) (a : DM (List D)) : DE := bindM o fun x => fun r s => match insOf s x with
  | none => .bad
  | some (C, fs) => (match fs.lookup m with
    | some _ => .bad
    | none => (match tb.lookup C with
      | none => .bad
      | some f => (bindM a fun ds => fun _ s => f (x :: ds) s) r s))
/-- a new instance: its __init__, then frozen or not -/
def freezeI (k : Bool) (n : Nat) (s : Sto) : Res D := if k = true then .ok (.cel n) s else (match s[n]? with
  | some (some (.ins C fs)) => .ok (.ins C fs) (s.set n none)
  | _ => .bad)
def makeM (k : Bool) (C : Str) (m : DF) (a : DM (List D)) : DE := bindM a fun ds => fun _ s => match m (.cel s.length :: ds) (s ++ [some (.ins C [])]) with
  | .ok .non s' => freezeI k s.length s'
  | .ok _ _ => .bad
  | .exc E fs s' => .exc E fs s'
  | .bad => .bad
def putD (f : Str) (d : D) : List (Str × D) → List (Str × D)
  | [] => [(f, d)]
  | (g, x) :: r => if g = f then (g, d) :: r else (g, x) :: putD f d r
/-- o.f = e -/
def fldS (tb : List Str) (f : Str) (o v : DE) : DS := thenS v fun y => thenS o fun x => fun r s => match x with
  | .cel n => (match s[n]? with
    | some (some (.ins C fs)) => if C ∈ tb ∧ fs.length < 1000 then .nx r (s.set n (some (.ins C (putD f y fs)))) else .bad
    | _ => .bad)
  | _ => .bad
/-! ### soundness -/
theorem KVR.lookup {K : Frag} {w : Wd} {f : Str} : ∀ {l : List (Str × V)} {m : List (Str × D)}, KVR K w l m → (match m.lookup f with | some d => ∃ v, l.lookup f = some v ∧ Rep K w v d | none => l.lookup f = none)
  | _, _, .nil => rfl
  | _, _, .cons (k := j) h r => by
    have ih := KVR.lookup (f := f) r
    by_cases e : f = j
    · subst e
      simp only [List.lookup_cons_self]
      exact ⟨_, rfl, h⟩
    · have hb : (f == j) = false := by simpa using e
      simp only [List.lookup_cons, hb]
      exact ih
theorem KVR.put {K : Frag} {w : Wd} {f : Str} {y : V} {d : D} (q : Rep K w y d) : ∀ {l : List (Str × V)} {m : List (Str × D)}, KVR K w l m → KVR K w (putF f y l) (putD f d m)
  | _, _, .nil => .cons q .nil
  | _, _, .cons (k := j) h r => by
    unfold putF putD
    by_cases e : j = f
    · rw [if_pos e, if_pos e]
      exact .cons q r
    · rw [if_neg e, if_neg e]
      exact .cons h (r.put q)
section
variable {P : Program} {w : World} {K : Frag} {mg : Str → Option Value} {base : Heap}
/-- room, and no repr under way -/
structure Rm (k : Nat) (A : Around) : Prop where
  rm : Room k A
  gd : A.guards = some []
theorem Rm.mono {j k : Nat} {A : Around} (r : Rm k A) (h : j ≤ k) : Rm j A := ⟨r.rm.mono h, r.gd⟩
theorem Rm.in1 {k : Nat} {A : Around} (r : Rm (k + 1) A) : Rm k A.in1 := ⟨r.rm.in1, r.gd⟩
theorem Rm.deeper {k : Nat} {A : Around} (r : Rm (k + 1) A) (env : Env) : Rm k (A.deeper env) := ⟨r.rm.deeper env, r.gd⟩
theorem Rm.make {k : Nat} {A : Around} (r : Rm (k + 1) A) (C : Addr) (us : List Value) (kw : List (Str × Value)) : Rm k (A.under (.builtin "type.__call__" ⟨.ref C :: us, kw⟩)) :=
  ⟨r.rm.make C us kw, by
    have e : Code.guards (.builtin "type.__call__" ⟨.ref C :: us, kw⟩) = [] := by
      unfold Code.guards
      exact if_neg (by show ¬ (guardIds.contains "type.__call__" = true); decide +kernel)
    show pushGuards (Code.guards (.builtin "type.__call__" ⟨.ref C :: us, kw⟩)) A.guards = _
    rw [e, r.gd]
    rfl⟩
/-- a promise by positional values, however they are bound, where no repr is under way -/
def FnG (P : Program) (w : World) (K : Frag) (mg : Str → Option Value) (base : Heap) (CX : CXT) (k : Nat) (f : Addr) (sp : Sp) : Prop :=
  ∀ (A : Around) (outer : List Env) (s : Shared) (H : Hp) (us : List Value) (vs : List V) (Q : VK) (E : XK), Rm k A → Env0 P w K mg base A outer s H → Vals vs us → sp vs H Q E → codeAny (model P w) A (.call (.ref f) ⟨us, []⟩) (CR CX outer P w H s Q E) s
theorem FnG.mono {CX : CXT} {j k : Nat} {f : Addr} {sp : Sp} (F : FnG P w K mg base CX j f sp) (h : j ≤ k) : FnG P w K mg base CX k f sp := fun A outer s H us vs Q E hr => F A outer s H us vs Q E (hr.mono h)
abbrev FnD (P : Program) (w : World) (K : Frag) (mg : Str → Option Value) (base : Heap) (k : Nat) (f : Addr) (m : DF) : Prop := FnG P w K mg base (L2.CX P w) k f (spD K m)
theorem env_start {u : Wd} {n : Nat} : ∀ {vs : List V} {ds : List D}, Reps K u vs ds → EnvR K u (ds.map some ++ List.replicate (n - ds.length) none) (vs.map some ++ List.replicate (n - vs.length) none) := fun {vs ds} rs => by
  refine ⟨by simp [rs.length], fun i d h => ?_⟩
  by_cases hi : i < ds.length
  · rw [List.getElem?_append_left (by simpa using hi), List.getElem?_map] at h
    cases e : ds[i]? with
    | none => rw [e] at h; cases h
    | some d' =>
      rw [e] at h
      cases h
      obtain ⟨v, hv, rv⟩ := rs.get e
      refine ⟨v, ?_, rv⟩
      rw [List.getElem?_append_left (by simpa [rs.length] using hi), List.getElem?_map, hv]
      rfl
  · rw [List.getElem?_append_right (by simpa using Nat.le_of_not_lt hi)] at h
    rw [List.getElem?_replicate] at h
    split at h <;> cases h
theorem body_end {n : Nat} {b : DS} {vs : List V} {ds : List D} {so : Sto} {u : Wd} {Q : VK} {E : XK} (rs : Reps K u vs ds) (st : StR K u so) (hp : Post K (Rep K) u E Q (bodyX n b ds so)) :
    tS K (fun c d _ H' => E c d H') b { nx := fun _ H' => Q .non H', rt := Q } (vs.map some ++ List.replicate (n - vs.length) none) u.H := by
  refine ⟨_, so, u, rfl, env_start (n := n) rs, st, ?_⟩
  unfold bodyX at hp
  cases e : b (ds.map some ++ List.replicate (n - ds.length) none) so with
  | nx r' s' => rw [e] at hp; exact fun t' w' e' _ st' => hp .non w' e' st' .non
  | rt d s' => rw [e] at hp; exact hp
  | bk r' s' => rw [e] at hp; exact hp.elim
  | ct r' s' => rw [e] at hp; exact hp.elim
  | exc C fs r' s' => rw [e] at hp; exact fun t' ed w' e' _ st' x' => hp ed w' e' st' x'
  | bad => rw [e] at hp; exact hp.elim
/-- what a def's derivation is -/
abbrev BodyD (P : Program) (w : World) (K : Frag) (mg : Str → Option Value) (base : Heap) (N : List Str) (qual : Str) (scope : Scope) (f : Addr) (k : Nat) (body : List Stmt) (b : DS) : Prop :=
  ∀ (cdv : Value) (A : Around) (outer : List Env) (s : Shared) (H : Hp) (E : XK), Rm k (A.deeper (envOfC qual scope s.heap.objs.size f cdv)) → PSs (cxOf (L2.CX P w) P w K mg base N qual scope f cdv A outer s H E) body (tS K (fun c d _ H' => E c d H') b)
/-- a def keeps the promise of its function on data, by the derivation of its body -/
theorem fn_ok {x qual : Str} {params : Arguments} {body : List Stmt} {scope : Scope} {dvs : List V} {kws : List (Str × V)} {f : Addr} {fd : FuncData} {N ps : List Str} {k : Nat} {b : DS} {dd : List D} (F : FunD K x qual params body scope dvs kws f fd) (S : FnScope N ps scope)
    (hD : ∀ w, Reps K w dvs dd) (hB : ∀ j, j ≤ dvs.length → ∃ ds, Vals (dvs.drop j) ds ∧ Binds K fd ps ds) (hbody : BodyD P w K mg base N qual scope f k body b) : FnD P w K mg base (k + 1) f (bodyM ps.length dd N.length b) := by
  intro A outer s H us vs Q E hr e0 r h
  obtain ⟨ds, so, u, rfl, rs, st, hp⟩ := h
  unfold bodyM argsD at hp
  have l1 := rs.length
  have l2 := (hD u).length
  split at hp
  · rename_i es he
    split at he
    · rename_i hc
      cases he
      obtain ⟨dv, rv, hb⟩ := hB (ds.length + dd.length - ps.length) (by omega)
      have rs2 := rs.append ((hD u).drop (ds.length + dd.length - ps.length))
      obtain ⟨oc, od, dV, kV, doc, pm, an, cdv, ct, osl, rfl, lk, hcd, hD1, hK⟩ := F.ex
      have hl : (vs ++ dvs.drop (ds.length + dd.length - ps.length)).length = ps.length := by
        rw [rs2.length, List.length_append, List.length_drop]
        omega
      have rr := r.append rv
      refine StX.run_bnd lk hcd S hr.rm e0 (G := fun xs H2 => xs = vs ++ dvs.drop (ds.length + dd.length - ps.length) ∧ H2 = u.H) (fun A' Ex Q' h => ?_) fun s2 H2 xs hx hr' => ?_
      · exact hb s us (e0.mod.kin.keeps fun b o e => (e0.bs b o e).1) (by rw [← rr.length]; exact hl) _ _ _ _ (h s u.H _ _ e0 Un.refl rfl (fun _ _ z => z) rr hl ⟨rfl, rfl⟩)
      · obtain ⟨rfl, rfl⟩ := hx
        exact ⟨_, hbody cdv A outer s2 u.H E (hr.deeper _), body_end rs2 st hp⟩
    · cases he
  · exact hp.elim
/-- .. without defaults -/
theorem fn_ok0 {x qual : Str} {params : Arguments} {body : List Stmt} {scope : Scope} {kws : List (Str × V)} {f : Addr} {fd : FuncData} {N ps : List Str} {k : Nat} {b : DS} (F : FunD K x qual params body scope [] kws f fd) (S : FnScope N ps scope)
    (hB : ∀ (kV doc pm : Value) (an : Option Addr) (cdv ct : Value) (us : List Value), us.length = ps.length → bindArgs (PySem.W.fnOf x qual params body scope .none kV doc pm an cdv ct) ⟨us, []⟩ = pure (ps.zip us)) (hbody : BodyD P w K mg base N qual scope f k body b) :
    FnD P w K mg base (k + 1) f (bodyM ps.length [] N.length b) :=
  fn_ok F S (fun _ => .nil) (fun j hj => ⟨[], by rw [List.drop_nil]; exact .nil, F.bindsN hB⟩) hbody
/-- a def f(a, .., *v) -/
theorem fn_okV {x qual : Str} {params : Arguments} {body : List Stmt} {scope : Scope} {kws : List (Str × V)} {f : Addr} {fd : FuncData} {N ps : List Str} {pv : Str} {k : Nat} {b : DS} (F : FunD K x qual params body scope [] kws f fd) (S : FnScope N (ps ++ [pv]) scope)
    (hB : ∀ (kV doc pm : Value) (an : Option Addr) (cdv ct : Value) (us rest : List Value), us.length = ps.length → bindArgs (PySem.W.fnOf x qual params body scope .none kV doc pm an cdv ct) ⟨us ++ rest, []⟩ = (newTuple rest >>= fun t => pure (ps.zip us ++ [(pv, t)])))
    (hbody : BodyD P w K mg base N qual scope f k body b) : FnD P w K mg base (k + 1) f (bodyV ps.length N.length b) := by
  obtain ⟨oc, od, dV, kV, doc, pm, an, cdv, ct, osl, rfl, lk, hcd, hD, hK⟩ := F.ex
  rcases hD with ⟨_, rfl⟩ | ⟨e, _⟩
  · intro A outer s H us vs Q E hr e0 r h
    obtain ⟨ds, so, u, rfl, rs, st, hp⟩ := h
    unfold bodyV at hp
    split at hp
    · rename_i hc
      have l1 := rs.length
      obtain ⟨u1, u2, eu, r1, r2⟩ := StX.vals_split (ws := vs.take ps.length) (rest := vs.drop ps.length) (by rw [List.take_append_drop]; exact r)
      subst eu
      have hn : u.H s.heap.objs.size = none := e0.hok.fresh (Nat.le_refl _)
      have hl1 : u1.length = ps.length := by
        rw [← r1.length, List.length_take]
        omega
      have hz : (vs.drop ps.length).length ≤ sizeLine := by
        rw [List.length_drop]
        exact Nat.le_trans (Nat.sub_le _ _) (Nat.le_trans (by omega : vs.length ≤ 1000) (by rw [PySem.sizeLine_eq]; omega))
      have e1 := Wd.frz_ext st (o := .tup (vs.drop ps.length)) hn
      have st1 := Wd.frz_st st (o := .tup (vs.drop ps.length)) hn
      have rsT : Reps K (u.frz s.heap.objs.size (.tup (vs.drop ps.length))) (vs.take ps.length ++ [V.ref s.heap.objs.size]) (ds.take ps.length ++ [.tup (ds.drop ps.length)]) :=
        ((rs.take ps.length).ext e1).append (.cons (.tup (.inl ⟨Wd.frz_z, Rd.of Wd.frz_h⟩) ((rs.drop ps.length).ext e1)) .nil)
      have hnew : ObjOk P w (upd u.H s.heap.objs.size (.tup (vs.drop ps.length))) (s.heap.push ({ cls := .type "tuple", data := .seq u2.toArray } : Obj)) s.heap.objs.size (.tup (vs.drop ps.length)) :=
        ⟨hz, u2, r2, _, Heap.get?_push_size _ rfl, rfl, _, rfl⟩
      have hun := StX.un_laid (fs := frs outer) (s := s) (o := ({ cls := .type "tuple", data := .seq u2.toArray } : Obj)) (u := .tup (vs.drop ps.length)) hn
      refine StX.run_bnd lk hcd S hr.rm e0 (G := fun xs H2 => xs = vs.take ps.length ++ [V.ref s.heap.objs.size] ∧ H2 = (u.frz s.heap.objs.size (.tup (vs.drop ps.length))).H) (fun A' Ex Q' h => ?_) fun s2 H2 xs hx hr' => ?_
      · rw [hB kV doc pm an cdv ct u1 u2 hl1]
        refine wpAny_bind (wpAny_newTuple (wpAny_pure ?_) (by rw [← r2.length]; exact hz))
        have q := h _ _ (vs.take ps.length ++ [V.ref s.heap.objs.size]) (u1 ++ [Value.ref s.heap.objs.size]) (StX.env0_laid e0 hnew) hun rfl (fun er s3 => StX.cxUp outer s u.H _ _ E er s3 hun (fun _ _ z => Heap.get?_push_of_some _ z) rfl) (r1.append (.cons rfl .nil)) (by rw [List.length_append, List.length_append, r1.length, hl1] <;> rfl) ⟨rfl, rfl⟩
        rw [List.zip_append hl1.symm] at q
        exact q
      · obtain ⟨rfl, rfl⟩ := hx
        exact ⟨_, hbody cdv A outer s2 _ E (hr.deeper _), body_end rsT st1 (Post.ext e1 hp)⟩
    · exact hp.elim
  · exact absurd rfl e
end
section
variable {X : Cx} {W : WX} {a b c o : Expr} {es : List Expr} {pos p apos : Pos} {ma mb mo : DE} {mr : DM (List D)} {m x : Str} {k : Nat} {f : Addr} {mf : DF}
theorem run_fnRD {pins : List (Addr × Obj)} {t : L2.St} {H : Hp} {s : Shared} {Q : VK} {E : XK} {us : List Value} {vs : List V} {sp : Sp} {CX : CXT} (F : FnG X.prog X.w X.K X.mg X.base CX k f sp) (hr : Rm k X.A) (hx : PassesAt CX X t E) (I : Inv X pins t H s) (r : Vals vs us) (h : sp vs H Q E) :
    wpAny (model X.prog X.w) X.A (call (.ref f) us) (EP X pins t Q) X.xe s := by
  refine wpAny_call (codeAny_mono (F X.A X.stack s H us vs Q E hr I.env0 r h) fun z s' hz => ?_)
  cases z with
  | error er => exact hx pins H s er s' I hz
  | ok fl =>
    cases fl with
    | ret u => exact I.after hz
    | _ => exact hz.elim
theorem sp_post {w : Wd} {s : Sto} {vs : List V} {dv : List D} {Q : VK} {E : XK} {K : Frag} (rs : Reps K w vs dv) (st : StR K w s) (hp : Post K (Rep K) w E Q (mf dv s)) : spD K mf vs w.H Q E := ⟨dv, s, w, rfl, rs, st, hp⟩
theorem sp_bind {w : Wd} {s : Sto} {r : En} {t : L2.St} {Q : VK} {K : Frag} (hp : Post K (Rep K) w (fun c d H' => W c d t H') Q (callM mf mr r s)) : Post K (Reps K) w (fun c d H' => W c d t H') (fun vs H1 => spD K mf vs H1 Q (WE W t)) (mr r s) := by
  unfold callM bindM at hp
  cases e : mr r s with
  | ok dv s1 =>
    rw [e] at hp
    exact fun vs w1 e1 st1 r1 => sp_post r1 st1 (Post.ext e1 hp)
  | exc C fs s1 => rw [e] at hp; exact hp
  | bad => rw [e] at hp; exact hp
/-- f(e, ..) -/
theorem e_call (tk : Takes X W) (F : FnD X.prog X.w X.K X.mg X.base k f mf) (hr : Rm k X.A) (hg : Gl X x) (hm : X.mg x = some (.ref f)) (hk : PySem.W.keepIn X.K (.ref f) = true)
    (ha : PA X (a :: es) (tA X.K W mr)) (hdb : (x == ("__debug__" : Str)) = false := by decide) (he : starEach (a :: es) X.env = (false, eval a X.env) :: starEach es X.env := by rfl) (hpl : (backTo pos (starEach es X.env)).any (·.1) = false := by rfl) :
    PE X (.Call (.Name x p) (a :: es) [] pos) (tE X.K W (callM mf mr)) := by
  refine ⟨fun pins s t H Q I h => ?_⟩
  obtain ⟨r, so, w, rfl, env, st, hp⟩ := h
  refine wpAny_Call_Name_kw (ld_glob I hg hm ?_ hdb)
  refine PySem.W.callWith_K (h₀ := X.base) I.ok.mod.kin hk (thn (ha.run pos pins s t w.H _ I ⟨r, so, w, rfl, env, st, sp_bind hp⟩) fun us s1 ⟨vs, H1, I1, rv, q⟩ => ⟨I1.kIn, ?_⟩) he hpl
  exact run_fnRD F hr (passAt tk t) I1 rv q
/-! attributes -/
structure PropD (X : Cx) (C : Str) (f : Str) (m : DF) : Prop where
  cls : Cls X.K (He.ga X.K C)
  ex : ∃ (q g : Addr) (k : Nat), PropOf X.K (He.ga X.K C) f q g ∧ FnD X.prog X.w X.K X.mg X.base k g m ∧ Rm (k + 1) X.A
theorem getprop_R {C q g a0 dx : Addr} {fs : List (Str × V)} {nm : Str} {sp : Sp} {CX : CXT} {E : XK} {pins : List (Addr × Obj)} {t : L2.St} {H : Hp} {s : Shared} {Q : VK} {bb : Bool} {E1 : Value → Shared → Prop} (I : Inv X pins t H s) (ea : H a0 = some (.ins C dx fs)) (c : Cls X.K C) (hp : PropOf X.K C nm q g)
    (F : FnG X.prog X.w X.K X.mg X.base CX k g sp) (hr : Rm (k + 1) X.A) (hx : Passes CX X.nox E) (h : sp [.ref a0] H Q E) : wpAny (model X.prog X.w) X.A (getAttr (.ref a0) nm bb) (EP X pins t Q) E1 s := by
  obtain ⟨mA, O, _, _, _, _⟩ := ins_get I.hok ea
  obtain ⟨od, J, _⟩ := O.look
  obtain ⟨rest, hrec⟩ := hp.rec_
  have I1 := I.tok (s.toks + 1)
  have hc : (PySem.W.clsIn X.K C).isSome = true := by
    obtain ⟨cd, hc, _⟩ := PySem.W.any_some c.hd
    rw [hc]
    rfl
  have P1 := PySem.W.plainGet_of (c.get nm)
  refine PySem.W.get_bind I.kIn J P1.1 (PySem.W.findObj_data hc hp.at_ hp.get hp.tak) P1.2 (wpAny_call (PySem.W.prop_get (s := { s with toks := s.toks + 1 }) I.kIn hrec ?_))
  refine codeAny_mono (F X.A.in1 X.stack { s with toks := s.toks + 1 } H [.ref a0] [.ref a0] Q E hr.in1 I1.env0.in1 (.cons rfl .nil) h) fun z s' hz => ?_
  cases z with
  | error er => exact (hx pins t H _ er s' (I1.wish _) hz).elim
  | ok fl =>
    cases fl with
    | ret u =>
      obtain ⟨v, H2, I3, rv, q3⟩ := I1.after hz
      refine wpAny_of_eq (PySem.W.handedOut_of (handed_of rv)) ?_
      exact ⟨v, H2, I3, rv, q3⟩
    | _ => exact hz.elim
inductive ATab (X : Cx) (f : Str) : List (Str × Ak) → Prop
  | nil : ATab X f []
  | fld {C : Str} {r : List (Str × Ak)} : Cls X.K (He.ga X.K C) → NoAttr X.K (He.ga X.K C) f → ATab X f r → ATab X f ((C, .fld) :: r)
  | prop {C : Str} {m : DF} {r : List (Str × Ak)} : PropD X C f m → (∀ d s C fs s', m [d] s ≠ .exc C fs s') → ATab X f r → ATab X f ((C, .prop m) :: r)
  | con {C : Str} {d : D} {v : V} {u : Value} {r : List (Str × Ak)} : Cls X.K (He.ga X.K C) → Con X.K (He.ga X.K C) f v u → (∀ w, Rep X.K w v d) → ATab X f r → ATab X f ((C, .con d) :: r)
def AkOk (X : Cx) (f C : Str) : Ak → Prop
  | .fld => Cls X.K (He.ga X.K C) ∧ NoAttr X.K (He.ga X.K C) f
  | .prop m => PropD X C f m ∧ ∀ d s C fs s', m [d] s ≠ .exc C fs s'
  | .con d => Cls X.K (He.ga X.K C) ∧ ∃ v u, Con X.K (He.ga X.K C) f v u ∧ ∀ w, Rep X.K w v d
theorem ATab.get {f C : Str} {kd : Ak} : ∀ {tb : List (Str × Ak)}, ATab X f tb → tb.lookup C = some kd → AkOk X f C kd
  | _, .nil, h => by simp at h
  | _, .fld (C := E) h1 h2 r, h => by
    by_cases e : C = E
    · subst e
      rw [List.lookup_cons_self] at h
      cases h
      exact ⟨h1, h2⟩
    · have hb : (C == E) = false := by simpa using e
      rw [List.lookup_cons, hb] at h
      exact r.get h
  | _, .prop (C := E) h1 h2 r, h => by
    by_cases e : C = E
    · subst e
      rw [List.lookup_cons_self] at h
      cases h
      exact ⟨h1, h2⟩
    · have hb : (C == E) = false := by simpa using e
      rw [List.lookup_cons, hb] at h
      exact r.get h
  | _, .con (C := E) h1 h2 h3 r, h => by
    by_cases e : C = E
    · subst e
      rw [List.lookup_cons_self] at h
      cases h
      exact ⟨h1, _, _, h2, h3⟩
    · have hb : (C == E) = false := by simpa using e
      rw [List.lookup_cons, hb] at h
      exact r.get h
theorem e_attr {g : Str} {tb : List (Str × Ak)} (T : ATab X g tb) (ha : PE X a (tE X.K W ma)) (hab : attributeBase a g X.env (eval a X.env) = eval a X.env := by rfl) : PE X (.Attribute a g pos) (tE X.K W (attrM tb g ma)) := by
  refine ⟨fun pins s t H Q I h => ?_⟩
  obtain ⟨r, so, w, rfl, env, st, hp⟩ := h
  refine attr_of hab (thn (ha.run pins s t w.H (fun x H1 => ∃ d s1 w1, w1.H = H1 ∧ StR X.K w1 s1 ∧ Rep X.K w1 x d ∧ Post X.K (Rep X.K) w1 (fun c d H' => W c d t H') Q (attrD tb g d s1)) I (hp.bind env st fun x d s1 w1 e1 st1 r1 hp1 => ⟨d, s1, w1, rfl, st1, r1, hp1⟩)) fun v s1 h => ?_)
  obtain ⟨y, H1, I1, rx, d, so1, w1, rfl, st1, r1, hp1⟩ := h
  unfold attrD at hp1
  cases e : insOf so1 d with
  | none => rw [e] at hp1; exact hp1.elim
  | some q =>
    obtain ⟨C, fs⟩ := q
    rw [e] at hp1
    dsimp only at hp1
    obtain ⟨q, dx, l, rfl, hh, kv⟩ := insOf_ok st1 r1 e
    obtain rfl : v = Value.ref q := rx
    cases e2 : tb.lookup C with
    | none => rw [e2] at hp1; exact hp1.elim
    | some kd =>
      rw [e2] at hp1
      have A := T.get e2
      have g1 := kv.lookup (f := g)
      cases kd with
      | fld =>
        dsimp only at hp1
        cases e3 : fs.lookup g with
        | none => rw [e3] at hp1; exact hp1.elim
        | some d3 =>
          rw [e3] at g1 hp1
          obtain ⟨v3, hv3, rv3⟩ := g1
          exact getattr_ok I1 hh A.1 A.2 hv3 fun u' s2 I2 ru => ⟨v3, w1.H, I2, ru, hp1.pure st1 rv3⟩
      | prop mm =>
        obtain ⟨⟨hc, q2, g2, kk, hpo, F, hr⟩, nox⟩ := A
        refine getprop_R (E := fun _ _ _ => False) I1 hh hc hpo F hr (fun pins σ H s e s' _ z => ?_) ?_
        · obtain ⟨_, _, _, _, _, _, _, _, _, _, _, _, z⟩ := z
          exact z
        · refine sp_post (.cons r1 .nil) st1 ?_
          dsimp only at hp1
          cases e4 : mm [d] so1 with
          | ok d4 s4 => rw [e4] at hp1; exact hp1
          | exc E4 f4 s4 => exact absurd e4 (nox _ _ _ _ _)
          | bad => rw [e4] at hp1; exact hp1
      | con dc =>
        obtain ⟨hc, v3, u3, hcon, rep3⟩ := A
        dsimp only at hp1
        cases e3 : fs.lookup g with
        | some d3 => rw [e3] at hp1; exact hp1.elim
        | none =>
          rw [e3] at g1 hp1
          exact getcon_ok I1 hh hc hcon g1 fun s2 I2 => ⟨v3, w1.H, I2, hcon.rel, hp1.pure st1 (rep3 w1)⟩
/-! methods -/
structure MethD (X : Cx) (C m : Str) (mf : DF) : Prop where
  cls : Cls X.K (He.ga X.K C)
  ex : ∃ (g : Addr) (k : Nat), Meth X.K (He.ga X.K C) m g ∧ FnD X.prog X.w X.K X.mg X.base k g mf ∧ Rm k X.A
inductive MTab (X : Cx) (m : Str) : List (Str × DF) → Prop
  | nil : MTab X m []
  | cons {C : Str} {f : DF} {r : List (Str × DF)} : MethD X C m f → MTab X m r → MTab X m ((C, f) :: r)
theorem MTab.get {C : Str} {f : DF} : ∀ {tb : List (Str × DF)}, MTab X m tb → tb.lookup C = some f → MethD X C m f
  | _, .nil, h => by simp at h
  | _, .cons (C := E) h1 r, h => by
    by_cases e : C = E
    · subst e
      rw [List.lookup_cons_self] at h
      cases h
      exact h1
    · have hb : (C == E) = false := by simpa using e
      rw [List.lookup_cons, hb] at h
      exact r.get h
/-- the receiver is known, its method found -/
theorem meth_mid {tb : List (Str × DF)} {pins : List (Addr × Obj)} {t : L2.St} {Q : VK} {r : En} {so : Sto} {w : Wd} {s : Shared} (I : Inv X pins t w.H s) (ho : PE X o (tE X.K W mo)) (env : EnvR X.K w r t) (st : StR X.K w so) (hp : Post X.K (Rep X.K) w (fun c d H' => W c d t H') Q (methM tb m mo mr r so)) {Q2 : Value → Shared → Prop}
    (k : ∀ (q : Addr) (C : Str) (f : DF) (d : D) (s1 : Shared) (so1 : Sto) (w1 : Wd) (dx : Addr) (l : List (Str × V)), Inv X pins t w1.H s1 → Ext w w1 → StR X.K w1 so1 → Rep X.K w1 (.ref q) d → w1.H q = some (.ins (He.ga X.K C) dx l) → l.lookup m = none → tb.lookup C = some f →
      Post X.K (Rep X.K) w1 (fun c d H' => W c d t H') Q ((bindM mr fun ds => fun _ s => f (d :: ds) s) r so1) → Q2 (.ref q) s1) : wpAny (model X.prog X.w) X.A (eval o X.env) Q2 X.xe s := by
  refine thn (ho.run pins s t w.H (fun x H1 => ∃ d s1 w1, w1.H = H1 ∧ Ext w w1 ∧ StR X.K w1 s1 ∧ Rep X.K w1 x d ∧ Post X.K (Rep X.K) w1 (fun c d H' => W c d t H') Q (match insOf s1 d with
    | none => .bad
    | some (C, fs) => (match fs.lookup m with
      | some _ => .bad
      | none => (match tb.lookup C with
        | none => .bad
        | some f => (bindM mr fun ds => fun _ s => f (d :: ds) s) r s1)))) I (hp.bind env st fun x d s1 w1 e1 st1 r1 hp1 => ⟨d, s1, w1, rfl, e1, st1, r1, hp1⟩)) fun v s1 h => ?_
  obtain ⟨y, H1, I1, rx, d, so1, w1, rfl, e1, st1, r1, hp1⟩ := h
  cases e : insOf so1 d with
  | none => rw [e] at hp1; exact hp1.elim
  | some q =>
    obtain ⟨C, fs⟩ := q
    rw [e] at hp1
    dsimp only at hp1
    obtain ⟨q, dx, l, rfl, hh, kv⟩ := insOf_ok st1 r1 e
    obtain rfl : v = Value.ref q := rx
    have g1 := kv.lookup (f := m)
    cases e3 : fs.lookup m with
    | some d3 => rw [e3] at hp1; exact hp1.elim
    | none =>
      rw [e3] at g1 hp1
      dsimp only at hp1
      cases e2 : tb.lookup C with
      | none => rw [e2] at hp1; exact hp1.elim
      | some f =>
        rw [e2] at hp1
        exact k q C f d s1 so1 w1 dx l I1 e1 st1 r1 hh g1 e2 hp1
theorem meth_bind {w : Wd} {so : Sto} {r : En} {t : L2.St} {Q : VK} {K : Frag} {q : Addr} {d : D} (r1 : Rep K w (.ref q) d) (hp : Post K (Rep K) w (fun c d H' => W c d t H') Q ((bindM mr fun ds => fun _ s => mf (d :: ds) s) r so)) :
    Post K (Reps K) w (fun c d H' => W c d t H') (fun vs H2 => spD K mf (.ref q :: vs) H2 Q (WE W t)) (mr r so) := by
  unfold bindM at hp
  cases e : mr r so with
  | ok dv s3 =>
    rw [e] at hp
    exact fun vs w3 e3 st3 r3 => sp_post (.cons (r1.ext e3) r3) st3 (Post.ext e3 hp)
  | exc C fs s3 => rw [e] at hp; exact hp
  | bad => rw [e] at hp; exact hp
theorem e_meth {pl : Sem Bool} {tb : List (Str × DF)} (tk : Takes X W) (T : MTab X m tb) (ho : PE X o (tE X.K W mo)) (ha : PA X (a :: es) (tA X.K W mr))
    (hst : starEach (a :: es) X.env = (false, eval a X.env) :: starEach es X.env := by rfl) (hpl : (backTo pos (starEach es X.env)).any (·.1) = false := by rfl)
    (ht : eval (.Call (.Attribute o m apos) (a :: es) [] pos) X.env = (eval o X.env >>= fun ov => standAt apos.atName >>= fun _ => holding [ov] (getMethod ov m pl) >>= fun z => callWith pos z.1 z.2 (backTo pos (starEach (a :: es) X.env)) (backToKw pos (keywordEach [] X.env))) := by rfl) :
    PE X (.Call (.Attribute o m apos) (a :: es) [] pos) (tE X.K W (methM tb m mo mr)) := by
  refine ⟨fun pins s t H Q I h => ?_⟩
  obtain ⟨r, so, w, rfl, env, st, hp⟩ := h
  refine PySem.W.methodCall_KW (pl := pl) (meth_mid I ho env st hp fun q C f d s1 so1 w1 dx l I1 e1 st1 r1 hh g1 e2 hp1 => ?_) ht
  obtain ⟨hc, g, kk, hm, F, hr⟩ := T.get e2
  refine getmeth_ok I1 hh hc hm g1 ?_
  refine PySem.W.callWith_K (first := [.ref q]) (h₀ := X.base) I1.ok.mod.kin hm.kp (thn (ha.run pos pins s1 t w1.H (fun vs H2 => spD X.K f (.ref q :: vs) H2 Q (WE W t)) I1 ⟨r, so1, w1, rfl, env.ext e1, st1, meth_bind r1 hp1⟩) fun us s2 z => ?_) hst hpl
  obtain ⟨vs, H2, I2, rv, q2⟩ := z
  exact ⟨I2.kIn, run_fnRD (us := .ref q :: us) (vs := .ref q :: vs) F hr (passAt tk t) I2 (.cons rfl rv) q2⟩
theorem e_meth0 {pl : Sem Bool} {tb : List (Str × DF)} (tk : Takes X W) (T : MTab X m tb) (ho : PE X o (tE X.K W mo))
    (ht : eval (.Call (.Attribute o m apos) [] [] pos) X.env = (eval o X.env >>= fun ov => standAt apos.atName >>= fun _ => holding [ov] (getMethod ov m pl) >>= fun z => callWith pos z.1 z.2 (backTo pos (starEach [] X.env)) (backToKw pos (keywordEach [] X.env))) := by rfl) :
    PE X (.Call (.Attribute o m apos) [] [] pos) (tE X.K W (methM tb m mo nilA)) := by
  refine ⟨fun pins s t H Q I h => ?_⟩
  obtain ⟨r, so, w, rfl, env, st, hp⟩ := h
  refine PySem.W.methodCall_KW (pl := pl) (meth_mid I ho env st hp fun q C f d s1 so1 w1 dx l I1 e1 st1 r1 hh g1 e2 hp1 => ?_) ht
  obtain ⟨hc, g, kk, hm, F, hr⟩ := T.get e2
  refine getmeth_ok I1 hh hc hm g1 ?_
  exact PySem.W.callWith_K0 (first := [.ref q]) I1.kIn hm.kp (run_fnRD (us := [.ref q]) (vs := [.ref q]) F hr (passAt tk t) I1 (.cons rfl .nil) (sp_post (.cons r1 .nil) st1 hp1))
/-- o.m( *e) -/
structure MethB (X : Cx) (C m : Str) (mf : DF) : Prop where
  cls : Cls X.K (He.ga X.K C)
  ex : ∃ (g : Addr) (k : Nat), BMeth X.K (He.ga X.K C) m g ∧ FnD X.prog X.w X.K X.mg X.base k g mf ∧ Rm k X.A
inductive BTab (X : Cx) (m : Str) : List (Str × DF) → Prop
  | nil : BTab X m []
  | cons {C : Str} {f : DF} {r : List (Str × DF)} : MethB X C m f → BTab X m r → BTab X m ((C, f) :: r)
theorem BTab.get {C : Str} {f : DF} : ∀ {tb : List (Str × DF)}, BTab X m tb → tb.lookup C = some f → MethB X C m f
  | _, .nil, h => by simp at h
  | _, .cons (C := E) h1 r, h => by
    by_cases e : C = E
    · subst e
      rw [List.lookup_cons_self] at h
      cases h
      exact h1
    · have hb : (C == E) = false := by simpa using e
      rw [List.lookup_cons, hb] at h
      exact r.get h
def starA (e : DE) : DM (List D) := bindM e fun x => fun _ s => match x with
  | .tup l => .ok l s
  | _ => .bad
/-! making -/
/-! o.f = e -/
theorem s_fld {tb : List Str} {g : Str} {pos' : Pos} (hT : ∀ C ∈ tb, Cls X.K (He.ga X.K C) ∧ NoAttr X.K (He.ga X.K C) g) (ho : PE X o (tE X.K W mo)) (hv : PE X a (tE X.K W ma)) (hs : swapsWith a (some (.Attribute o g pos')) pos.line X.env = pure false := by rfl) :
    PS X (.Assign [.Attribute o g pos'] a pos) (tS X.K W (fldS tb g mo ma)) := PS.imp (ps_fld ho hv hs) fun E t H h => by
  obtain ⟨r, s, w, rfl, env, st, hp⟩ := h
  exact hp.bind env st fun y dy s1 w1 e1 st1 r1 hp1 => hp1.bind (env.ext e1) st1 fun x d s2 w2 e2 st2 r2 hp2 => by
    cases r2 with
    | @cel n a0 hA =>
      dsimp only at hp2
      cases e5 : s2[n]? with
      | none => rw [e5] at hp2; exact hp2.elim
      | some oc =>
        rw [e5] at hp2
        cases oc with
        | none => exact hp2.elim
        | some ct =>
          cases ct with
          | ins C fs =>
            dsimp only at hp2
            split at hp2
            · rename_i hc
              obtain ⟨hc1, hc2⟩ := hT C hc.1
              obtain ⟨a1, h1, hz, dx1, l, hh, kv⟩ := st2.at_ _ _ e5
              have ea : a1 = a0 := Option.some.inj (h1.symm.trans hA)
              subst ea
              have nP := st2.np n _ a1 e5 h1
              have e3 : Ext w2 (w2.put a1 (.ins (He.ga X.K C) dx1 (putF g y l))) := Wd.mut_ext hz nP
              refine ⟨a1, _, dx1, l, rfl, hh, hc1, hc2, by rw [kv.length]; exact hc.2, ?_⟩
              refine hp2 t (w2.put a1 (.ins (He.ga X.K C) dx1 (putF g y l))) e3 (((env.ext e1).ext e2).ext e3) (Wd.mut_st st2 e5 h1 hz ⟨dx1, _, upd_same, ?_⟩)
              exact (kv.ext e3).put ((r1.ext e2).ext e3)
            · exact hp2.elim
          | _ => exact hp2.elim
    | _ => exact hp2.elim
end
end Mp
set_option Elab.async false
set_option linter.all false
set_option maxRecDepth 100000
set_option maxHeartbeats 4000000
/-! Mp: exceptions of the program: class C(B) whose __init__ says B.__init__(self, text) and stores one field or none. -/
namespace Mp
open PySem PySem.Spec PyProof.Rows L2
/-! ### the base -/
structure BaseX (B newId initId : String) (bm : List Value) : Prop where
  F : ExcBaseFacts B newId initId bm
  pass : ∀ self : Value, refuseLoop self "__setattr__" bm = pure ()
  ob : bm.contains (.type "object") = true
  boot : bootBuiltins (Str.ofString B) = some (.type B)
  typ : typeOf (.type B) = pure (.type "type")
  nn : Str.ofString B ≠ "__name__"
  nd : (Str.ofString B == ("__debug__" : Str)) = false
  stub : Manifest.isStub B = false
  hand : PySem.W.handedIn (.builtin initId) = true
  fnd : ∀ K : Frag, PySem.W.findCls K (.type B) (.type "type") "__init__" = some (.val (.builtin initId))
abbrev mValue : List Value := [.type "ValueError", .type "Exception", .type "BaseException", .type "object"]
theorem bxValue : BaseX "ValueError" "ValueError.__new__" "ValueError.__init__" mValue := ⟨F.excBase_ValueError, F.store_ValueError.passes, by decide +kernel, by decide +kernel, by kernel_rfl, by decide +kernel, by decide +kernel, by decide +kernel, by decide +kernel, fun K => by kernel_rfl⟩
/-! ### the class -/
def exB (K : Frag) (C : Addr) (bm : List Value) (newId : String) : Bool := match K.lookup C with
  | some ⟨.type c, _, .cls cd, sl⟩ => decide (c = "type") && (cd.hasDict && (!cd.hasDel && (decide (cd.mro = .ref C :: bm) && (match sl.toList with
    | [_, _, _, _, some (.builtin n), _] => decide (n = newId)
    | _ => false))))
  | _ => false
theorem exB_ok {K : Frag} {C : Addr} {bm : List Value} {newId : String} (h : exB K C bm newId = true) : ∃ nm q N bs sn sub ab col dd k0 k1 k2 k3 k5, K.lookup C = some (excClassObj nm q C N bs bm true sn sub ab col dd k0 k1 k2 k3 k5 newId) := by
  unfold exB at h
  cases e : K.lookup C with
  | none => rw [e] at h; cases h
  | some o =>
    obtain ⟨oc, od, dt, sl⟩ := o
    rw [e] at h
    cases oc with
    | type c =>
      cases dt with
      | cls cd =>
        obtain ⟨h1, h⟩ := He.ba h
        obtain ⟨h2, h⟩ := He.ba h
        obtain ⟨h3, h⟩ := He.ba h
        obtain ⟨h4, h5⟩ := He.ba h
        have e1 := of_decide_eq_true h1
        have e4 := of_decide_eq_true h4
        have e3 : cd.hasDel = false := by simpa using h3
        obtain ⟨nm, bs, mro, ns, qn, hd, sn, sub, ab, col, del⟩ := cd
        dsimp only at h2 e3 e4
        subst e1 e3 e4 h2
        obtain ⟨sl⟩ := sl
        dsimp only at h5
        split at h5
        · have e5 := of_decide_eq_true h5
          subst e5
          exact ⟨nm, qn, ns, bs, sn, sub, ab, col, od, _, _, _, _, _, rfl⟩
        · cases h5
      | _ => cases h
    | _ => cases dt <;> cases h
structure OexB (K : Frag) (C : Addr) (B newId initId : String) (bm : List Value) : Prop where
  base : BaseX B newId initId bm
  cls : ∃ nm q N bs sn sub ab col dd k0 k1 k2 k3 k5, K.lookup C = some (excClassObj nm q C N bs bm true sn sub ab col dd k0 k1 k2 k3 k5 newId)
  sa : PySem.W.findIn K (.ref C) "__setattr__" = some (some (.builtin "object.__setattr__"))
  exC : PySem.W.subIn K (.ref C) (.type "BaseException") = some true
  tyC : PySem.W.typeIn K (.ref C) = some (.type "type")
  kC : PySem.W.keepIn K (.ref C) = true
section
open Builtin Builtin.ObjectAttr PySem.HandSPX
variable {prog : Program} {w : World} {A : Around} {E : Value → Shared → Prop} {R : Result → Shared → Prop} {hp : Heap} {g : Array GenState} {d : Drawn} {t : Nat} {os : OsState}
/-- self.name = v, the first one, on an exception -/
theorem exc_store {K : Frag} {name : Str} {tk : Tok} {v : Value} {x C : Addr} {fv : Array Value} {cd : ClassData} (X : K.In hp) (hx : hp.get? x = some { cls := .ref C, data := .fields fv }) (hcd : W.clsIn K C = some cd)
    (hne : cd.mro.isEmpty = false) (hob : cd.mro.contains (.type "object") = true) (hps : ∀ self, refuseLoop self "__setattr__" cd.mro = pure ()) (hh : cd.hasDict = true) (ha : W.findIn K (.ref C) name = some none)
    (hq : ∀ h' tk' dx, (∀ b o, b ≠ x → hp.get? b = some o → h'.get? b = some o) → hp.objs.size ≤ dx → dx ≠ x → h'.get? x = some { cls := .ref C, dict := some dx, data := .fields fv } → h'.Ns1 dx (fun y => if y = name then some v else none) → R (.ok (.ret .none)) ⟨h', g, d, tk', os⟩) :
    codeAny (model prog w) A (.call (.builtin "object.__setattr__") ⟨[.ref x, .str name tk, v], []⟩) R ⟨hp, g, d, t, os⟩ := by
  have J : W.InstAt hp x { cls := .ref C, data := .fields fv } C none := ⟨hx, rfl, rfl, trivial⟩
  have nx : x ≠ hp.objs.size := Nat.ne_of_lt (Heap.lt_size hx)
  have sub : W.Looks (model prog w) hp (isInstance (.ref x) (.type "object")) true := J.type.andThen (W.looks_mroIn X (by unfold W.mroIn; rw [hcd, Option.bind_some, if_neg (by rw [hne]; decide), hob]))
  refine codeAny_call_builtin F.store_object.slot.plain F.store_object.entry (@W.check_slot (model prog w) _ _ ⟨hp, g, d, t, os⟩ "object.__setattr__" "object" "__setattr__" (.ref x) [.str name tk, v] [] _ F.store_object.kind F.store_object.split sub (F.store_object.args _ _ _) ?_)
  have lm : W.Looks (model prog w) hp (mroOf (.ref C)) cd.mro := (W.looks_clsIn X hcd).andThen .now
  have ln : W.Looks (model prog w) hp (storeTaker? none) none := .now
  have lc : W.Looks (model prog w) hp (classData C) cd := W.looks_clsIn X hcd
  rw [W.osa_eq, refuse_eq]
  refine wpAny_bind (wpAny_bind (J.type.at (wpAny_bind (lm.at ?_))))
  rw [hps]
  refine wpAny_pure (wpAny_bind (J.type.at (wpAny_bind ((W.looks_findIn X ha).at (wpAny_bind (ln.at ?_))))))
  show wpAny _ _ (storeInOwnDict (.ref x) (.ref C) (.str name tk) name v false) _ _ _
  obtain ⟨nm, bs, mro, ns, qn, hd, sn, sb, ab, col, del⟩ := cd
  cases (show hd = true from hh)
  unfold storeInOwnDict ownDictForStores
  repeat (first | with_reducible refine store_in_new ?_ ?_ | with_reducible refine wpAny_loadPart_at hx ?_ | with_reducible refine lc.at ?_ | wp_step)
  · exact ⟨_, #[], _, (Heap.get?_update_ne _ _ _ _ nx.symm).trans (Heap.get?_push_at rfl rfl), rfl, fun e he => absurd he (by simp), fun _ => rfl⟩
  · intro h' tk' hn' hs
    refine hq h' tk' hp.objs.size (fun b o hb ho => (hs.2 b (Nat.ne_of_lt (Heap.lt_size ho))).trans ((Heap.get?_update_ne _ _ _ _ hb).trans (Heap.get?_push_of_some _ ho))) (Nat.le_refl _) nx.symm ?_ hn'
    exact (hs.2 x nx).trans (Heap.get?_update_self _ (Heap.get?_push_of_some _ hx) rfl)
end
section
variable {X : Cx} {pins : List (Addr × Obj)} {t : L2.St} {H : Hp} {s : Shared} {a C : Addr} {f : Str} {y : V} {u : Value} {Q : Unit → Shared → Prop} {E : Value → Shared → Prop} {A : Around} {B newId initId : String} {bm : List Value}
theorem ostB (T : OexB X.K C B newId initId bm) (I : Inv X pins t H s) (e : H a = some (exo a C none)) (hno : PySem.W.findIn X.K (.ref C) f = some none) (ry : RelV y u)
    (h : ∀ dx s', H dx = none → dx ≠ a → Inv X pins t (upd (upd H dx (exd dx [(f, y)])) a (exo a C (some dx))) s' → Q () s') : wpAny (model X.prog X.w) A (setAttr (.ref a) f u) Q E s := by
  obtain ⟨nm, q, N, bs, sn, sub, ab, col, dd, k0, k1, k2, k3, k5, hC⟩ := T.cls
  have hcl : PySem.W.clsIn X.K C = some { name := nm, bases := bs, mro := .ref C :: bm, ns := N, qualname := q, hasDict := true, slotNames := sn, subclasses := sub, abstract := ab, collection := col, hasDel := false } := by
    unfold PySem.W.clsIn
    rw [hC] <;> rfl
  obtain ⟨t1, ho⟩ := exo_at I.hok e
  obtain ⟨hp, g, d, tk, os⟩ := s
  refine PySem.W.set_plain I.kIn (ox := { cls := .ref C, dict := none, data := .fields #[.ref t1, .none, .none, .none, .bool false, .none] }) (od := none) ⟨ho, rfl, rfl, trivial⟩ T.sa ?_
  refine exc_store I.kIn ho hcl rfl (by show (Value.ref C :: bm).contains (.type "object") = true; rw [List.contains_cons, T.base.ob, Bool.or_true]) (fun self => (refuseLoop_ref self "__setattr__" C bm).trans (T.base.pass self)) rfl hno fun h' tk' dx k dn dne hx hn => ?_
  have hnd : H dx = none := I.hok.fresh dn
  have nd : ∀ {b : Addr} {o : Obj}, hp.get? b = some o → b ≠ dx := fun {b o} z => Nat.ne_of_lt (Nat.lt_of_lt_of_le (Heap.lt_size z) dn)
  have na : ∀ {b : Addr}, H b = none → b ≠ a := fun {b} n z => by
    rw [z, e] at n
    cases n
  have U : Un X.fs [] H (upd (upd H dx (exd dx [(f, y)])) a (exo a C (some dx))) hp h' :=
    ⟨fun b o z n _ _ => k b o (na n) z, fun b o z n _ _ => ⟨o.slots, k b o (na n) z⟩, fun b o z n _ => by rw [upd_ne (na n), upd_ne (nd z)]; exact n,
      fun b o z _ => by
        by_cases hb : b = a
        · exact ⟨_, hb ▸ hx⟩
        · exact ⟨o, k b o hb z⟩,
      fun b xs z => by rw [upd_ne (at_ne e z exo_tup), upd_ne (ne_of_none z hnd)]; exact z, fun b o v z => by rw [upd_ne (at_ne e z exo_frz), upd_ne (ne_of_none z hnd)]; exact z,
      fun b ps z => ⟨#[], by rw [upd_ne (at_ne e z exo_tbl), upd_ne (ne_of_none z hnd), z]; simp⟩⟩
  refine h dx _ hnd dne (I.un (t' := tk') U fun b o z => ?_)
  by_cases hb : b = a
  · subst hb
    rw [upd_same] at z
    cases z
    exact exo_ok hx
  · rw [upd_ne hb] at z
    by_cases hd : b = dx
    · subst hd
      rw [upd_same] at z
      cases z
      exact exd_ok hn (relO_put (fs := []) ry fun _ => trivial)
    · rw [upd_ne hd] at z
      refine (I.hok b o z).stay (fun c v hc y => k c v (hc.elim (fun hc => hc ▸ hb) fun hc => at_ne e hc exo_own) y) (fun c hc => ?_) fun c xs hc => ?_
      · rw [upd_ne (at_ne e hc exo_own), upd_ne (ne_of_none hc hnd)]
        exact hc
      · rw [upd_ne (at_ne e hc exo_tup), upd_ne (ne_of_none hc hnd)]
        exact hc
theorem oinitB {us : List Value} {Q : Value → Shared → Prop} (T : OexB X.K C B newId initId bm) (I : Inv X pins t H s) (e : H a = some (exo a C none)) (hl : us.length ≤ sizeLine) (h : ∀ s', Inv X pins t H s' → Q .none s') : wpAny (model X.prog X.w) A (call (.builtin initId) (.ref a :: us)) Q E s := by
  obtain ⟨nm, q, N, bs, sn, sub, ab, col, dd, k0, k1, k2, k3, k5, hC⟩ := T.cls
  obtain ⟨t1, ho⟩ := exo_at I.hok e
  obtain ⟨hp, g, d, tk, os⟩ := s
  refine wpAny_call (PySem.HandSPX.init_base T.base.F (fun _ => rfl) (I.kIn _ _ hC) ho hl fun h' t2 k hx => ?_)
  have J := I.write (t' := tk) (x := a) (e := a) (o := exo a C none) (by rw [e]; exact trivial) (.inl rfl) k ⟨_, hx⟩ (exo_ok hx)
  have eu : upd H a (exo a C none) = H := by
    funext b
    by_cases hb : b = a
    · rw [hb, upd_same, e]
    · rw [upd_ne hb]
  exact h _ (eu ▸ J)
end
section
variable {X : Cx} {o e : Expr} {es : List Expr} {to te : TE} {ta : TA} {f : Str} {p p' p1 p2 pos : Pos} {B newId initId : String} {bm : List Value}
/-- B.__init__(self, ..) -/
def tIniB (K : Frag) (B newId initId : String) (bm : List Value) (ta : TA) : TE := fun t H Q => ta t H fun vs H1 => ∃ (a C : Addr) (ws : List V), vs = .ref a :: ws ∧ ws.length ≤ 1000 ∧ OexB K C B newId initId bm ∧ H1 a = some (exo a C none) ∧ Q .non H1
theorem pe_initB {pl : Sem Bool} (hB : BaseX B newId initId bm) (hg : Gl X (Str.ofString B)) (hm : X.mg (Str.ofString B) = none) (ha : PA X (e :: es) ta)
    (hc : eval (.Call (.Attribute (.Name (Str.ofString B) p1) "__init__" p2) (e :: es) [] pos) X.env = (eval (.Name (Str.ofString B) p1) X.env >>= fun ov => standAt p2.atName >>= fun _ => holding [ov] (getMethod ov "__init__" pl) >>= fun z => callWith pos z.1 z.2 (backTo pos (starEach (e :: es) X.env)) (backToKw pos (keywordEach [] X.env))) := by rfl)
    (he : starEach (e :: es) X.env = (false, eval e X.env) :: starEach es X.env := by rfl) (hpl : (backTo pos (starEach es X.env)).any (·.1) = false := by rfl) :
    PE X (.Call (.Attribute (.Name (Str.ofString B) p1) "__init__" p2) (e :: es) [] pos) (tIniB X.K B newId initId bm ta) := by
  refine ⟨fun pins s t H Q I h => ?_⟩
  refine PySem.W.methodCall_KW (ld_blt I hg hm hB.boot ?_ hB.nn hB.nd) hc
  obtain ⟨m, fr⟩ := I.fr
  refine PySem.W.method_type fr I.ok.mod.kin hB.typ hB.stub (hB.fnd X.K) hB.hand ?_
  show wpAny _ _ (callWith pos (Value.builtin initId) [] (backTo pos (starEach (e :: es) X.env)) []) _ _ _
  refine PyProof.Rows.callWith_method1 (thn (ha.run pos pins _ t H _ (I.tok _) h) fun us s1 z => ?_) he hpl
  obtain ⟨vs, H1, I1, r1, a, C, ws, rfl, hl, T, ea, q⟩ := z
  cases r1 with
  | @cons _ u0 _ ur ra rr =>
    obtain rfl : u0 = Value.ref a := ra
    exact oinitB T I1 ea (by rw [← Paired.length rr, sizeLine_eq]; omega) fun s' J => ⟨.non, H1, J, rfl, q⟩
/-- self.f = e, on an exception that has no field yet -/
def tOstB (K : Frag) (B newId initId : String) (bm : List Value) (f : Str) (to te : TE) : TS := fun E t H => te t H fun y H1 => to t H1 fun x H2 => ∃ a C : Addr, x = .ref a ∧ OexB K C B newId initId bm ∧ PySem.W.findIn K (.ref C) f = some none ∧ H2 a = some (exo a C none) ∧
  ∀ dx, H2 dx = none → dx ≠ a → E.nx t (upd (upd H2 dx (exd dx [(f, y)])) a (exo a C (some dx)))
theorem ps_ostB (ho : PE X o to) (he : PE X e te) (hs : swapsWith e (some (.Attribute o f p')) pos.line X.env = pure false := by rfl) : PS X (.Assign [.Attribute o f p'] e pos) (tOstB X.K B newId initId bm f to te) := by
  refine ⟨fun pins s t H E I h => ?_⟩
  refine plainObj_wpAny_Assign_Attribute (thn (he.run pins s t H _ I h) fun v s1 z1 => ?_) hs
  obtain ⟨y, H1, I1, r1, q1⟩ := z1
  refine thn (ho.run pins s1 t H1 _ I1 q1) fun u s2 z2 => ?_
  obtain ⟨x, H2, I2, r2, a, C, rfl, T, hno, ea, q⟩ := z2
  obtain rfl : u = Value.ref a := r2
  exact ostB T I2 ea hno r1 fun dx s' n ne J => ⟨t, _, J, q dx n ne⟩
end
/-! ### __init__ -/
/-- with one field: B.__init__(self, text); self.f = f -/
def spI1 (C : Addr) (f : Str) : Sp := fun vs H Q _ => ∃ (a : Addr) (v : V), vs = [.ref a, v] ∧ H a = some (exo a C none) ∧ ∀ dx, H dx = none → dx ≠ a → Q .non (upd (upd H dx (exd dx [(f, v)])) a (exo a C (some dx)))
section
variable {P : Program} {w : World} {K : Frag} {mg : Str → Option Value} {base : Heap} {B newId initId : String} {bm : List Value} {x qual f : Str} {params : Arguments} {scope : Scope} {g C : Addr} {fd : FuncData} {z : Str} {p0 p1 p2 p3 p4 p5 p6 p7 p8 p9 : Pos} {j : Nat}
theorem init_eq {env : Env} (hL : (p2.endLine == p5.line) = true) : eval (.Call (.Attribute (.Name (Str.ofString B) p1) "__init__" p2) [.Name "self" p3, .Constant (.str z) j p4] [] p5) env = (eval (.Name (Str.ofString B) p1) env >>= fun ov => standAt p2.atName >>= fun _ => holding [ov] (getMethod ov "__init__" (plainOf (.Name (Str.ofString B) p1) env)) >>= fun q => callWith p5 q.1 q.2 (backTo p5 (starEach [.Name "self" p3, .Constant (.str z) j p4] env)) (backToKw p5 (keywordEach [] env))) := by
  show (eval (.Name (Str.ofString B) p1) env >>= fun ov => standAt p2.atName >>= fun _ => methodCall (.Name (Str.ofString B) p1) "__init__" p2 p5 env ov 2 (backTo p5 (starEach [.Name "self" p3, .Constant (.str z) j p4] env)) (backToKw p5 (keywordEach [] env))) = _
  congr 1
  funext ov
  congr 1
  funext _
  rw [mcall_line (n := 2) rfl hL]
theorem fn_init1 (F : FunD K x qual params [.Expr (.Call (.Attribute (.Name (Str.ofString B) p1) "__init__" p2) [.Name "self" p3, .Constant (.str z) j p4] [] p5) p6, .Assign [.Attribute (.Name "self" p7) f p8] (.Name f p9) p0] scope [] [] g fd) (S : FnScope ["self", f] ["self", f] scope)
    (hL : (p2.endLine == p5.line) = true) (hG : scope.names.lookup (Str.ofString B) = some .globalImplicit) (h1 : (f == ("__debug__" : Str)) = false) (h2 : (f == ("__classdict__" : Str)) = false) (hm : mg (Str.ofString B) = none) (T : OexB K C B newId initId bm) (hno : PySem.W.findIn K (.ref C) f = some none) :
    FnOk P w K mg base (L2.CX P w) 1 g fd ["self", f] (spI1 C f) := by
  refine F.ok S (fun vs H Q E h => ?_) (fun cdv A outer s H vs Q E hr h => ?_)
  · obtain ⟨a, v, rfl, _⟩ := h
    rfl
  · obtain ⟨a, v, rfl, ea, q⟩ := h
    have v0 : Vis scope "self" := (S.par "self" (by simp)).elim .inl fun h => .inr (.inl h)
    have v1 : Vis scope f := (S.par f (by simp)).elim .inl fun h => .inr (.inl h)
    refine ⟨_, pss_cons (ps_expr (pe_initB (pl := plainOf (.Name (Str.ofString B) p1) _) T.base hG hm (pa_cons (pe_var (i := 0) rfl v0) (pa_cons pe_str pa_nil)) (init_eq hL))) (pss_one (ps_ostB (B := B) (newId := newId) (initId := initId) (bm := bm) (pe_var (i := 0) rfl v0) (pe_var (i := 1) rfl v1 h1 h2))), ?_⟩
    exact ⟨_, rfl, a, C, _, rfl, by show 1 ≤ 1000; decide, T, ea, _, rfl, _, rfl, a, C, rfl, T, hno, ea, q⟩
end
end Mp
set_option Elab.async false
set_option linter.all false
set_option maxRecDepth 100000
set_option maxHeartbeats 4000000
/-! Mp: raise, try. -/
namespace Mp
open PySem PySem.Spec PyProof.Rows L2
section
end
section
variable {X : Cx} {e : Expr} {ta : TA} {f x : Str} {p pos : Pos} {B newId initId : String} {bm : List Value} {C fI : Addr} {k : Nat} {fd : FuncData}
/-- what the written part says of an exception's class and its __init__ -/
structure ExcD (X : Cx) (C : Addr) (B newId initId : String) (bm : List Value) (fI : Addr) : Prop where
  T : OexB X.K C B newId initId bm
  ini : PySem.W.findIn X.K (.ref C) "__init__" = some (some (.ref fI))
  fn : PySem.W.typeIn X.K (.ref fI) = some (.type "function")
theorem pmkB1 (T : ExcD X C B newId initId bm fI) (F1 : FnOk X.prog X.w X.K X.mg X.base (L2.CX X.prog X.w) k fI fd ["self", f] (spI1 C f)) (hr : Room (k + 1) X.A) (hb : Binds X.K fd ["self", f] []) (hg : Gl X x) (hm : X.mg x = some (.ref C)) (ha : PA X [e] ta)
    (hdb : (x == ("__debug__" : Str)) = false := by decide) (he : starEach [e] X.env = (false, eval e X.env) :: starEach [] X.env := by rfl) :
    PMk X (.Call (.Name x p) [e] [] pos) (fun t H Q => ta t H fun vs H1 => ∃ v, vs = [v] ∧ ∀ d, H1 d = none → Q (.ref C) (some d) (upd H1 d (.xd [(f, v)]))) := by
  intro pins s t H Q I h
  obtain ⟨nm, q, N, bs, sn, sub, ab, col, dd, k0, k1, k2, k3, k5, hC⟩ := T.T.cls
  refine wpAny_Call_Name_kw (ld_glob I hg hm ?_ hdb)
  refine PySem.W.callWith_K (h₀ := X.base) I.ok.mod.kin T.T.kC (thn (ha.run pos pins s t H _ I h) fun us s1 z => ?_) he rfl
  obtain ⟨vs, H1, I1, r1, v, rfl, q1⟩ := z
  refine ⟨I1.kIn, ?_⟩
  show wpAny _ _ (call (.ref C) us) _ _ _
  obtain ⟨hp, g, dr, tk, os⟩ := s1
  cases r1 with
  | @cons _ u _ _ ru rr =>
    cases rr
    have hsz : hp.objs.size ≤ hp.objs.size + 1 := Nat.le_succ _
    have hn : H1 (hp.objs.size + 1) = none := I1.hok.fresh hsz
    have kk : ∀ b o, hp.get? b = some o → ((hp.push (PySem.W.kdv_tup [u])).push (PySem.HandSPX.excO C hp.objs.size)).get? b = some o := fun b o z => Heap.get?_push_of_some _ (Heap.get?_push_of_some _ z)
    have hget : ((hp.push (PySem.W.kdv_tup [u])).push (PySem.HandSPX.excO C hp.objs.size)).get? (hp.objs.size + 1) = some (PySem.HandSPX.excO C hp.objs.size) := by heap_get
    have I2 := I1.laid (t' := tk) (a := hp.objs.size + 1) (o := exo (hp.objs.size + 1) C none) (h' := (hp.push (PySem.W.kdv_tup [u])).push (PySem.HandSPX.excO C hp.objs.size)) kk hsz (exo_ok hget)
    have rv : Vals [V.ref (hp.objs.size + 1), v] [Value.ref (hp.objs.size + 1), u] := .cons rfl (.cons ru .nil)
    have hq : spI1 C f [.ref (hp.objs.size + 1), v] (upd H1 (hp.objs.size + 1) (exo (hp.objs.size + 1) C none)) (fun z H2 => z = .non ∧ ∃ d, H1 d = none ∧ d ≠ hp.objs.size + 1 ∧ H2 = upd (upd (upd H1 (hp.objs.size + 1) (exo (hp.objs.size + 1) C none)) d (exd d [(f, v)])) (hp.objs.size + 1) (exo (hp.objs.size + 1) C (some d))) (fun _ _ _ => False) :=
      ⟨_, v, rfl, upd_same, fun dx ndx ne => ⟨rfl, dx, (upd_ne ne).symm.trans ndx, ne, rfl⟩⟩
    refine wpAny_call (PySem.HandSPX.call_own T.T.base.F (fun _ => rfl) (I1.kIn _ _ hC) (PySem.W.looks_findIn I1.kIn T.ini) (fun self => PySem.W.bind_fn I1.kIn self T.fn) (by show 1 ≤ sizeLine; decide)
      (codeAny_mono (F1.run _ X.stack _ _ ⟨[.ref (hp.objs.size + 1), u], []⟩ [.ref (hp.objs.size + 1), u] _ _ (fun _ _ _ => False) (hr.make C [u] []) (I2.env0.make C [u] []) (hb _ [.ref (hp.objs.size + 1), u] I2.kIn rfl) rv hq) fun r s' hz => ?_))
    cases r with
    | error er =>
      obtain ⟨_, _, _, _, _, _, _, _, _, _, _, _, z⟩ := hz
      exact z.elim
    | ok fl =>
      cases fl with
      | ret w =>
        obtain ⟨z, H2, osE, bareE, unE, hokE, rz, ez, d, nd, ne, eH⟩ := hz
        subst ez
        obtain ⟨h2, g2, d2, t2, os'⟩ := s'
        have ea : H2 (hp.objs.size + 1) = some (exo (hp.objs.size + 1) C (some d)) := by rw [eH, upd_same]
        have ed : H2 d = some (exd d [(f, v)]) := by rw [eH, upd_ne ne, upd_same]
        refine ⟨rz, mk_end (raises_own T.T.exC T.T.tyC) I1 hsz kk unE hokE osE bareE ea ed nd ?_⟩
        have eq : upd (del H2 (hp.objs.size + 1)) d (.xd [(f, v)]) = upd H1 d (.xd [(f, v)]) := by
          funext b
          by_cases hb : b = d
          · rw [hb, upd_same, upd_same]
          · rw [upd_ne hb, upd_ne hb]
            by_cases hb2 : b = hp.objs.size + 1
            · rw [hb2, del_same, hn]
            · rw [del_ne hb2, eH, upd_ne hb2, upd_ne hb, upd_ne hb2]
        rw [eq]
        exact q1 d nd
      | next => exact hz.elim
      | brk => exact hz.elim
      | cont => exact hz.elim
end
/-! ### on data -/
def raiseS (C f : Str) (m : DM (List D)) : DS := thenS m fun ds => fun r s => match ds with
  | [d] => .exc C [(f, d)] r s
  | _ => .bad
def raise0S (C : Str) : DS := fun r s => .exc C [] r s
section
variable {X : Cx} {W : WX} {a : Expr} {f cc : Str} {p pos pos2 : Pos} {B newId initId : String} {bm : List Value} {fI : Addr} {k : Nat} {fd : FuncData} {mr : DM (List D)}
theorem s_raise1 (hc : X.calm = true) (tk : Takes X W) (T : ExcD X (He.ga X.K cc) B newId initId bm fI) (F1 : FnOk X.prog X.w X.K X.mg X.base (L2.CX X.prog X.w) k fI fd ["self", f] (spI1 (He.ga X.K cc) f)) (hr : Room (k + 1) X.A) (hb : Binds X.K fd ["self", f] []) (hg : Gl X cc) (hm : X.mg cc = some (.ref (He.ga X.K cc))) (ha : PA X [a] (tA X.K W mr))
    (hdb : (cc == ("__debug__" : Str)) = false := by decide) (he : starEach [a] X.env = (false, eval a X.env) :: starEach [] X.env := by rfl) : PS X (.Raise (some (.Call (.Name cc p) [a] [] pos)) none pos2) (tS X.K W (raiseS cc f mr)) :=
  PS.imp (ps_raise hc tk (pmkB1 T F1 hr hb hg hm ha hdb he)) fun E t H h => by
    obtain ⟨r, s, w, rfl, env, st, hp⟩ := h
    exact hp.bind env st fun vs ds s1 w1 e1 st1 r1 hp1 => by
      cases r1 with
      | nil => exact hp1.elim
      | @cons v d vs ds q r2 =>
        cases r2 with
        | cons _ _ => exact hp1.elim
        | nil =>
          refine ⟨v, rfl, fun dx ndx => ?_⟩
          have e2 := Wd.frz_ext st1 (o := .xd [(f, v)]) ndx
          exact hp1 t (some dx) (w1.frz dx (.xd [(f, v)])) e2 ((env.ext e1).ext e2) (Wd.frz_st st1 ndx) ⟨Wd.frz_z, _, Wd.frz_h, .cons (q.ext e2) .nil⟩
end
end Mp
set_option Elab.async false
set_option linter.all false
set_option maxRecDepth 100000
set_option maxHeartbeats 4000000
/-! Mp: built-in functions. -/
namespace Mp
open PySem PySem.Spec PyProof.Rows L2
/-! ### on data -/
def absD (ds : List D) (s : Sto) : Res D := match ds with
  | [.int i] => .ok (.int (if i < 0 then -i else i)) s
  | _ => .bad
def intD (ds : List D) (s : Sto) : Res D := match ds with
  | [.int i] => .ok (.int i) s
  | [.bl b] => .ok (.int (if b then 1 else 0)) s
  | _ => .bad
def lenD (ds : List D) (s : Sto) : Res D := match ds with
  | [.str z] => if z.length ≤ sizeLine then .ok (.int (z.length : Nat)) s else .bad
  | [x] => (match seqOf s x with
    | some l => .ok (.int (l.length : Nat)) s
    | none => .bad)
  | _ => .bad
def listD (k : Bool) (ds : List D) (s : Sto) : Res D := match ds with
  | [x] => (match seqOf s x with
    | some l => newL k l s
    | none => .bad)
  | _ => .bad
def bools : List D → Option (List Bool)
  | [] => some []
  | .bl b :: r => (bools r).map fun l => b :: l
  | _ => none
def intsOf : List D → Option (List Int)
  | [] => some []
  | .int b :: r => (intsOf r).map fun l => b :: l
  | _ => none
def allD (ds : List D) (s : Sto) : Res D := match ds with
  | [x] => (match (lstOf s x).bind bools with
    | some l => .ok (.bl (l.all id)) s
    | none => .bad)
  | _ => .bad
def sumD (ds : List D) (s : Sto) : Res D := match ds with
  | [x] => (match (lstOf s x).bind intsOf with
    | some l => .ok (.int l.sum) s
    | none => .bad)
  | _ => .bad
inductive Tg where
  | bt (n : String) | own (C : Str)
def tagD (s : Sto) : D → Option Tg
  | .non => some (.bt "NoneType")
  | .bl _ => some (.bt "bool")
  | .int _ => some (.bt "int")
  | .str _ => some (.bt "str")
  | .tup _ => some (.bt "tuple")
  | .lst _ => some (.bt "list")
  | .dct _ => some (.bt "dict")
  | .ins C _ => some (.own C)
  | .cel n => (match s[n]? with
    | some (some (.lst _)) => some (.bt "list")
    | some (some (.dct _)) => some (.bt "dict")
    | some (some (.rod _)) => some (.bt "dict")
    | some (some (.ins C _)) => some (.own C)
    | _ => none)
  | _ => none
/-- which own classes are which: own of own, built-in of own (never), own of built-in -/
structure Isi where
  cs : List Str
  oo : List ((Str × Str) × Bool)
  bo : List Str
  ob : List ((Str × String) × Bool)
def isiT (it : Isi) : Tg → D → Option Bool
  | .bt a, .ty b => kitB a b
  | .bt _, .glo C => if C ∈ it.bo then some false else none
  | .own C, .glo E => if C ∈ it.cs then it.oo.lookup (C, E) else none
  | .own C, .ty b => if C ∈ it.cs then it.ob.lookup (C, b) else none
  | _, _ => none
def isiD (it : Isi) (ds : List D) (s : Sto) : Res D := match ds with
  | [x, c] => (match tagD s x with
    | some t => (match isiT it t c with
      | some b => .ok (.bl b) s
      | none => .bad)
    | none => .bad)
  | _ => .bad
/-! ### soundness -/
def VRC (K : Frag) (r : List V → Hp → VK → Prop) (f : DF) : Prop := ∀ w s xs ds Q E, StR K w s → Reps K w xs ds → Post K (Rep K) w E Q (f ds s) → r xs w.H Q
section
variable {X : Cx} {W : WX} {a : Expr} {es : List Expr} {pos p : Pos} {mr : DM (List D)} {x : Str} {f : DF} {r : List V → Hp → VK → Prop} {id T : String}
theorem e_callB (hc : CallR X (.builtin id) r) (hv : VRC X.K r f) (hg : Gl X x) (hm : X.mg x = none) (hb : bootBuiltins x = some (.builtin id)) (ha : PA X (a :: es) (tA X.K W mr)) (hn : x ≠ "__name__" := by decide) (hdb : (x == ("__debug__" : Str)) = false := by decide)
    (he : starEach (a :: es) X.env = (false, eval a X.env) :: starEach es X.env := by rfl) (hpl : (backTo pos (starEach es X.env)).any (·.1) = false := by rfl) : PE X (.Call (.Name x p) (a :: es) [] pos) (tE X.K W (argM f mr)) :=
  PE.imp (pe_callB hc hg hm hb ha hn hdb he hpl) fun t H Q h => by
    obtain ⟨r, s, w, rfl, env, st, hp⟩ := h
    exact hp.bind env st fun vs ds s1 w1 e1 st1 r1 hp1 => hv w1 s1 vs ds Q _ st1 r1 hp1
theorem e_callTy (hc : CallR X (.type T) r) (hv : VRC X.K r f) (hg : Gl X x) (hm : X.mg x = none) (hb : bootBuiltins x = some (.type T)) (ha : PA X (a :: es) (tA X.K W mr)) (hn : x ≠ "__name__" := by decide) (hdb : (x == ("__debug__" : Str)) = false := by decide)
    (he : starEach (a :: es) X.env = (false, eval a X.env) :: starEach es X.env := by rfl) (hpl : (backTo pos (starEach es X.env)).any (·.1) = false := by rfl) : PE X (.Call (.Name x p) (a :: es) [] pos) (tE X.K W (argM f mr)) :=
  PE.imp (pe_callTy hc hg hm hb ha hn hdb he hpl) fun t H Q h => by
    obtain ⟨r, s, w, rfl, env, st, hp⟩ := h
    exact hp.bind env st fun vs ds s1 w1 e1 st1 r1 hp1 => hv w1 s1 vs ds Q _ st1 r1 hp1
theorem v_abs : VRC X.K (fun xs H Q => ∃ i, xs = [.int i] ∧ Q (.int (if i < 0 then -i else i)) H) absD := fun w s xs ds Q E st rs hp => by
  unfold absD at hp
  split at hp
  · cases rs with | cons q r => cases q; cases r; exact ⟨_, rfl, hp.pure st (.int _)⟩
  · exact hp.elim
theorem v_int : VRC X.K (fun xs H Q => (∃ i, xs = [.int i] ∧ Q (.int i) H) ∨ ∃ k, xs = [.bl k] ∧ Q (.int (if k then 1 else 0)) H) intD := fun w s xs ds Q E st rs hp => by
  unfold intD at hp
  split at hp
  · cases rs with | cons q r => cases q; cases r; exact .inl ⟨_, rfl, hp.pure st (.int _)⟩
  · cases rs with | cons q r => cases q; cases r; exact .inr ⟨_, rfl, hp.pure st (.int _)⟩
  · exact hp.elim
theorem v_len : VRC X.K (fun xs H Q => ∃ x n, xs = [x] ∧ LenV X.K x H n ∧ Q (.int (n : Nat)) H) lenD := fun w s xs ds Q E st rs hp => by
  unfold lenD at hp
  split at hp
  · cases rs with
    | cons q r =>
      cases q
      cases r
      split at hp
      · rename_i z hl
        exact ⟨_, _, rfl, ⟨hl, rfl⟩, hp.pure st (.int _)⟩
      · exact hp.elim
  · cases rs with
    | cons q r =>
      cases r
      split at hp
      · rename_i l el
        obtain ⟨p, vs, rfl, hq, rs⟩ := seqOf_ok st q el
        refine ⟨_, vs.length, rfl, ?_, by rw [rs.length]; exact hp.pure st (.int _)⟩
        rcases hq with hq | hq
        · exact .inl ⟨vs, hq, rfl⟩
        · exact .inr ⟨vs, hq, rfl⟩
      · exact hp.elim
  · exact hp.elim
theorem v_list {k : Bool} : VRC X.K (fun xs H Q => ∃ p ys, xs = [.ref p] ∧ (SqL X.K H p ys ∨ SqT X.K H p ys) ∧ ∀ l, H l = none → Q (.ref l) (upd H l (.lst ys))) (listD k) := fun w s xs ds Q E st rs hp => by
  unfold listD at hp
  split at hp
  · cases rs with
    | cons q r =>
      cases r
      split at hp
      · rename_i l el
        obtain ⟨p, vs, rfl, hq, rs⟩ := seqOf_ok st q el
        exact ⟨p, vs, rfl, hq, hp.newL st rs⟩
      · exact hp.elim
  · exact hp.elim
theorem bools_ok {K : Frag} {w : Wd} : ∀ {ds : List D} {vs : List V} {l : List Bool}, Reps K w vs ds → bools ds = some l → vs = l.map V.bl
  | [], _, _, h, e => by
    cases h
    cases e
    rfl
  | d :: r, _, _, h, e => by
    cases h with
    | cons h1 h2 =>
      cases d with
      | bl b =>
        cases h1
        have e' : (bools r).map (fun l => b :: l) = some _ := e
        cases q : bools r with
        | none => rw [q] at e'; cases e'
        | some l2 =>
          rw [q] at e'
          cases e'
          rw [bools_ok h2 q]
          rfl
      | _ => cases e
theorem intsOf_ok {K : Frag} {w : Wd} : ∀ {ds : List D} {vs : List V} {l : List Int}, Reps K w vs ds → intsOf ds = some l → vs = l.map V.int
  | [], _, _, h, e => by
    cases h
    cases e
    rfl
  | d :: r, _, _, h, e => by
    cases h with
    | cons h1 h2 =>
      cases d with
      | int b =>
        cases h1
        have e' : (intsOf r).map (fun l => b :: l) = some _ := e
        cases q : intsOf r with
        | none => rw [q] at e'; cases e'
        | some l2 =>
          rw [q] at e'
          cases e'
          rw [intsOf_ok h2 q]
          rfl
      | _ => cases e
theorem v_all : VRC X.K (rAll X.K) allD := fun w s xs ds Q E st rs hp => by
  unfold allD at hp
  split at hp
  · cases rs with
    | cons q r =>
      cases r
      split at hp
      · rename_i l el
        obtain ⟨l1, e1, e2⟩ := Option.bind_eq_some_iff.mp el
        obtain ⟨p, vs, rfl, hq, rs⟩ := lstOf_ok st q e1
        have ev := bools_ok rs e2
        subst ev
        exact ⟨p, l, rfl, hq, hp.pure st (.bl _)⟩
      · exact hp.elim
  · exact hp.elim
theorem v_sum : VRC X.K (rSum X.K) sumD := fun w s xs ds Q E st rs hp => by
  unfold sumD at hp
  split at hp
  · cases rs with
    | cons q r =>
      cases r
      split at hp
      · rename_i l el
        obtain ⟨l1, e1, e2⟩ := Option.bind_eq_some_iff.mp el
        obtain ⟨p, vs, rfl, hq, rs⟩ := lstOf_ok st q e1
        have ev := intsOf_ok rs e2
        subst ev
        exact ⟨p, l, rfl, hq, hp.pure st (.int _)⟩
      · exact hp.elim
  · exact hp.elim
/-! isinstance -/
structure TyC (K : Frag) (C : Addr) : Prop where
  cl : Cls K C
  ha : PySem.W.findIn K (.ref C) "__class__" = some (some (.builtin "object.__class__"))
  hn : PySem.W.specialIn K (.builtin "object.__class__") "__get__" = some (some (.builtin "getset_descriptor.__get__"))
  htk : PySem.W.takesIn K (.builtin "object.__class__") = some true
  hm : PySem.W.mroIn K C (.type "object") = some true
abbrev tyNames : List String := ["NoneType", "bool", "int", "str", "list", "tuple", "dict"]
structure IsiOk (K : Frag) (it : Isi) : Prop where
  cs : ∀ C ∈ it.cs, TyC K (He.ga K C)
  oo : ∀ q ∈ it.oo, PySem.W.kitOne K (.ref (He.ga K q.1.1)) (.ref (He.ga K q.1.2)) = some q.2
  bo : ∀ C ∈ it.bo, ∀ n ∈ tyNames, PySem.W.kitOne K (.type n) (.ref (He.ga K C)) = some false
  ob : ∀ q ∈ it.ob, PySem.W.kitOne K (.ref (He.ga K q.1.1)) (.type q.1.2) = some q.2
def TgOk (K : Frag) (w : Wd) (v : V) : Tg → Prop
  | .bt n => TyX K w.H v (.type n) ∧ n ∈ tyNames
  | .own C => ∃ a dx fs, v = .ref a ∧ w.H a = some (.ins (He.ga K C) dx fs)
theorem tag_ok {K : Frag} {w : Wd} {s : Sto} {v : V} {d : D} {t : Tg} (st : StR K w s) (r : Rep K w v d) (h : tagD s d = some t) : TgOk K w v t := by
  cases r with
  | non => cases h; exact ⟨.base .non, by simp⟩
  | bl b => cases h; exact ⟨.base (.bl b), by simp⟩
  | int i => cases h; exact ⟨.base (.int i), by simp⟩
  | str z => cases h; exact ⟨.base (.str z), by simp⟩
  | tup hh rs =>
    cases h
    refine ⟨?_, by simp⟩
    rcases hh with ⟨_, hh | ⟨o, hh⟩⟩ | ⟨o, its, n, hk, hc, _⟩
    · exact .base (.tup hh)
    · exact .fTuple hh
    · exact .kTuple hk hc
  | lst z hh rs => cases h; exact ⟨.base (.lst hh), by simp⟩
  | dct z hh hl rs => cases h; exact ⟨.fDict hh, by simp⟩
  | ins z hh hl rs => cases h; exact ⟨_, _, _, rfl, hh⟩
  | @cel n a0 hA =>
    unfold tagD at h
    dsimp only at h
    cases e : s[n]? with
    | none => rw [e] at h; cases h
    | some oc =>
      cases oc with
      | none => rw [e] at h; cases h
      | some ct =>
        rw [e] at h
        cases ct with
        | lst l =>
          cases h
          obtain ⟨a1, h1, _, vs, hh, rs⟩ := st.at_ n _ e
          have ea : a1 = a0 := Option.some.inj (h1.symm.trans hA)
          subst ea
          exact ⟨.base (.lst hh), by simp⟩
        | dct l =>
          cases h
          obtain ⟨a1, h1, _, vs, hh, rs⟩ := st.at_ n _ e
          have ea : a1 = a0 := Option.some.inj (h1.symm.trans hA)
          subst ea
          exact ⟨.base (.dK hh), by simp⟩
        | rod l =>
          cases h
          obtain ⟨a1, h1, _, o, vs, _, hh, rs⟩ := st.at_ n _ e
          have ea : a1 = a0 := Option.some.inj (h1.symm.trans hA)
          subst ea
          exact ⟨.fDict hh, by simp⟩
        | ins C l =>
          cases h
          obtain ⟨a1, h1, _, dx, vs, hh, rs⟩ := st.at_ n _ e
          have ea : a1 = a0 := Option.some.inj (h1.symm.trans hA)
          subst ea
          exact ⟨_, _, _, rfl, hh⟩
        | tab x => cases h
  | _ => cases h
theorem look_mem {T : Type} [BEq T] [LawfulBEq T] {k : T} {b : Bool} : ∀ {l : List (T × Bool)}, l.lookup k = some b → (k, b) ∈ l
  | [], h => by cases h
  | (k2, b2) :: l, h => by
    rw [List.lookup_cons] at h
    split at h
    · rename_i hk
      have e1 := eq_of_beq hk
      cases h
      rw [e1]
      exact List.mem_cons_self
    · exact List.mem_cons_of_mem _ (look_mem h)
theorem v_isi {it : Isi} (O : IsiOk X.K it) : VRC X.K (rIsi X.K) (isiD it) := fun w s xs ds Q E st rs hp => by
  unfold isiD at hp
  split at hp
  · cases rs with
    | cons q r =>
      cases r with
      | cons q2 r =>
        cases r
        split at hp
        · rename_i t et
          have h1 := tag_ok st q et
          split at hp
          · rename_i b eb
            cases t with
            | bt n =>
              cases q2 with
              | ty m => exact ⟨_, _, _, _, b, rfl, .ty m, h1.1, kit_ty eb, hp.pure st (.bl _)⟩
              | glo C =>
                have eb' : (if C ∈ it.bo then some false else none) = some b := eb
                split at eb'
                · rename_i hc
                  cases eb'
                  exact ⟨_, _, _, _, false, rfl, .own _, h1.1, O.bo C hc n h1.2, hp.pure st (.bl _)⟩
                · cases eb'
              | _ => cases eb
            | own C =>
              obtain ⟨a, dx, fs, rfl, hh⟩ := h1
              cases q2 with
              | ty m =>
                have eb' : (if C ∈ it.cs then it.ob.lookup (C, m) else none) = some b := eb
                split at eb'
                · rename_i hc
                  obtain ⟨c1, c2, c3, c4, c5⟩ := O.cs C hc
                  exact ⟨_, _, _, _, b, rfl, .ty m, .base (.ins hh c1 c2 c3 c4 c5), O.ob _ (look_mem (k := (C, m)) eb'), hp.pure st (.bl _)⟩
                · cases eb'
              | glo E =>
                have eb' : (if C ∈ it.cs then it.oo.lookup (C, E) else none) = some b := eb
                split at eb'
                · rename_i hc
                  obtain ⟨c1, c2, c3, c4, c5⟩ := O.cs C hc
                  exact ⟨_, _, _, _, b, rfl, .own _, .base (.ins hh c1 c2 c3 c4 c5), O.oo _ (look_mem (k := (C, E)) eb'), hp.pure st (.bl _)⟩
                · cases eb'
              | _ => cases eb
          · exact hp.elim
        · exact hp.elim
  · exact hp.elim
end
end Mp
set_option Elab.async false
set_option linter.all false
set_option maxRecDepth 100000
set_option maxHeartbeats 4000000
/-! Mp: dicts, stores by key or place, x op= e, append. -/
namespace Mp
open PySem PySem.Spec PyProof.Rows L2
/-! ### on data -/
def putA {T U : Type} [DecidableEq T] (l : List (T × U)) (k : T) (v : U) : List (T × U) := if (l.any fun p => decide (p.1 = k)) = true then l.map (fun p => if p.1 = k then (p.1, v) else p) else l ++ [(k, v)]
def mergeA {T U : Type} [DecidableEq T] (l more : List (T × U)) : List (T × U) := more.foldl (fun acc p => putA acc p.1 p.2) l
def pairsM : List (DE × DE) → DM (List (D × D))
  | [] => pureM []
  | (k, v) :: r => bindM k fun x => bindM v fun y => bindM (pairsM r) fun l => pureM ((x, y) :: l)
def keyed : List (D × D) → Option (List (Key × D))
  | [] => some []
  | (k, v) :: r => (keyD k).bind fun x => (keyed r).map fun l => (x, v) :: l
/-- {k: v, ..}, a new cell -/
def dispM (l : List (DE × DE)) : DE := bindM (pairsM l) fun ps => fun _ s => match keyed ps with
  | some kvs => if kvs.length ≤ 15 then .ok (.cel s.length) (s ++ [some (.dct (mergeA [] kvs))]) else .bad
  | none => .bad
/-- o[k] = v: a cell's dict or list -/
def putI (o k v : D) (s : Sto) : Option Sto := match o with
  | .cel n => (match s[n]? with
    | some (some (.dct m)) => (match keyD k with
      | some q => if m.length < sizeLine then some (s.set n (some (.dct (putA m q v)))) else none
      | none => none)
    | some (some (.lst l)) => (match k with
      | .int i => (match ixN l.length i with
        | some j => some (s.set n (some (.lst (l.set j v))))
        | none => none)
      | _ => none)
    | _ => none)
  | _ => none
def subS (o k v : DE) : DS := thenS v fun y => thenS o fun x => thenS k fun z => fun r s => match putI x z y s with
  | some s' => .nx r s'
  | none => .bad
/-- xs.append(e) on a cell -/
def appD (x : D) (ds : List D) (s : Sto) : Res D := match x with
  | .cel n => (match s[n]? with
    | some (some (.lst l)) => (match ds with
      | [d] => if l.length < sizeLine then .ok .non (s.set n (some (.lst (l ++ [d])))) else .bad
      | _ => .bad)
    | _ => .bad)
  | _ => .bad
/-! ### soundness -/
section
variable {K : Frag} {w : Wd}
theorem KVR.any {T : Type} [DecidableEq T] {k : T} : ∀ {l : List (T × V)} {m : List (T × D)}, KVR K w l m → (l.any fun p => decide (p.1 = k)) = (m.any fun p => decide (p.1 = k))
  | _, _, .nil => rfl
  | _, _, .cons h r => by
    rw [List.any_cons, List.any_cons, r.any]
theorem KVR.mapP {T : Type} [DecidableEq T] {k : T} {y : V} {d : D} (q : Rep K w y d) : ∀ {l : List (T × V)} {m : List (T × D)}, KVR K w l m → KVR K w (l.map fun p => if p.1 = k then (p.1, y) else p) (m.map fun p => if p.1 = k then (p.1, d) else p)
  | _, _, .nil => .nil
  | _, _, .cons (k := j) h r => by
    rw [List.map_cons, List.map_cons]
    by_cases e : j = k
    · rw [if_pos e, if_pos e]
      exact .cons q (r.mapP q)
    · rw [if_neg e, if_neg e]
      exact .cons h (r.mapP q)
theorem KVR.app {T : Type} : ∀ {l l2 : List (T × V)} {m m2 : List (T × D)}, KVR K w l m → KVR K w l2 m2 → KVR K w (l ++ l2) (m ++ m2)
  | _, _, _, _, .nil, r => r
  | _, _, _, _, .cons h t, r => .cons h (t.app r)
theorem KVR.putK {T : Type} [DecidableEq T] {k : T} {y : V} {d : D} (q : Rep K w y d) {l : List (T × V)} {m : List (T × D)} (r : KVR K w l m) : KVR K w (L2.putK l k y) (putA m k d) := by
  unfold L2.putK putA
  rw [r.any]
  by_cases e : (m.any fun p => decide (p.1 = k)) = true
  · rw [if_pos e, if_pos e]
    exact r.mapP q
  · rw [if_neg e, if_neg e]
    exact r.app (.cons q .nil)
theorem KVR.merge : ∀ {l2 : List (Key × V)} {m2 : List (Key × D)} {l : List (Key × V)} {m : List (Key × D)}, KVR K w l m → KVR K w l2 m2 → KVR K w (mergeK l l2) (mergeA m m2)
  | _, _, _, _, r, .nil => r
  | _, _, _, _, r, .cons h t => (r.putK h).merge t
inductive RPs (K : Frag) (w : Wd) : List (V × V) → List (D × D) → Prop
  | nil : RPs K w [] []
  | cons {x y : V} {a b : D} {l : List (V × V)} {m : List (D × D)} : Rep K w x a → Rep K w y b → RPs K w l m → RPs K w ((x, y) :: l) ((a, b) :: m)
theorem RPs.ext {w' : Wd} (e : Ext w w') : ∀ {l : List (V × V)} {m : List (D × D)}, RPs K w l m → RPs K w' l m
  | _, _, .nil => .nil
  | _, _, .cons h k r => .cons (h.ext e) (k.ext e) (r.ext e)
theorem keyed_ok : ∀ {l : List (V × V)} {m : List (D × D)} {kvs : List (Key × D)}, RPs K w l m → keyed m = some kvs → ∃ kv : List (Key × V), l = kv.map (fun p => (kV p.1, p.2)) ∧ KVR K w kv kvs
  | _, _, _, .nil, h => by
    cases h
    exact ⟨[], rfl, .nil⟩
  | _, _, _, .cons (a := a) (b := b) (m := m) h k r, e => by
    have e' : ((keyD a).bind fun x => (keyed m).map fun l => (x, b) :: l) = some _ := e
    cases q1 : keyD a with
    | none => rw [q1] at e'; cases e'
    | some z =>
      cases q2 : keyed m with
      | none => rw [q1, q2] at e'; cases e'
      | some kvs2 =>
        rw [q1, q2] at e'
        cases e'
        obtain ⟨kv, rfl, hr⟩ := keyed_ok r q2
        exact ⟨(z, _) :: kv, by rw [keyD_ok h q1]; rfl, .cons k hr⟩
end
theorem pairs_imp {K : Frag} {W : WX} {r : En} {t : L2.St} : ∀ {l : List (DE × DE)} {w : Wd} {s : Sto} {Q : List (V × V) → Hp → Prop}, EnvR K w r t → StR K w s → Post K (RPs K) w (fun c d H' => W c d t H') Q (pairsM l r s) → tPairs (l.map fun p => (tE K W p.1, tE K W p.2)) t w.H Q
  | [], w, s, Q, env, st, hp => hp.pure st .nil
  | (k, v) :: l, w, s, Q, env, st, hp => hp.bind env st fun x d s1 w1 e1 st1 r1 hp1 => hp1.bind (env.ext e1) st1 fun y d2 s2 w2 e2 st2 r2 hp2 => by
    refine pairs_imp ((env.ext e1).ext e2) st2 ?_
    unfold bindM at hp2
    cases e : pairsM l r s2 with
    | ok ps s3 =>
      rw [e] at hp2
      exact fun z w3 e3 st3 r3 => hp2 _ w3 e3 st3 (.cons ((r1.ext e2).ext e3) (r2.ext e3) r3)
    | exc C fs s3 => rw [e] at hp2; exact hp2
    | bad => rw [e] at hp2; exact hp2
/-- the pinned thing becomes a cell -/
theorem unpin_cell {K : Frag} {w0 w : Wd} {s : Sto} {p : Addr} {ct : Ct} (e : Ext w0 w) (st : StR K w s) (h1 : ¬ w0.P p) (hP : w.P p) (hc : CtR K w p ct) :
    ∃ w2 : Wd, w2.H = w.H ∧ Ext w0 w2 ∧ StR K w2 (s ++ [some ct]) ∧ Rep K w2 (.ref p) (.cel s.length) := by
  have nz := (st.pz p hP).1
  let w2 : Wd := ⟨fun m => if m = s.length then some p else w.A m, w.Z, fun a => w.P a ∧ a ≠ p, w.H⟩
  have hA : ∀ m a, w.A m = some a → w2.A m = some a := fun m a q => by
    have ne : ¬ m = s.length := fun z => by
      rw [st.new m (by omega)] at q
      exact nomatch q
    show (if m = s.length then some p else w.A m) = some a
    rw [if_neg ne]
    exact q
  have e0 : Ex0 w w2 := ⟨hA, fun _ h => h, fun _ _ => rfl⟩
  have at' : ∀ m c, (s ++ [some ct])[m]? = some (some c) → (m < s.length ∧ s[m]? = some (some c)) ∨ (m = s.length ∧ c = ct) := fun m c q => by
    by_cases hm : m < s.length
    · rw [List.getElem?_append_left hm] at q
      exact .inl ⟨hm, q⟩
    · rw [List.getElem?_append_right (by omega)] at q
      by_cases h0 : m - s.length = 0
      · rw [h0] at q
        exact .inr ⟨by omega, by simpa using q.symm⟩
      · rw [List.getElem?_eq_none (by simp; omega)] at q
        cases q
  have AtN : w2.A s.length = some p := if_pos rfl
  have AtO : ∀ m, m < s.length → w2.A m = w.A m := fun m hm => if_neg (by omega)
  have npo : ∀ m c a, s[m]? = some (some c) → w.A m = some a → a ≠ p := fun m c a q ha z => st.np m c a q ha (z ▸ hP)
  refine ⟨w2, rfl, ⟨⟨fun n a q => hA n a (e.A n a q), e.Z, e.H⟩, fun a z => ⟨e.P a z, fun q => h1 (q ▸ z)⟩, e.HP⟩, ⟨fun m c q => ?_, fun m c a q ha z => ?_, fun a z => st.pz a z.1, fun m k b x y qm qk hm hk => ?_, st.fz, fun m hm => ?_⟩, .cel AtN⟩
  · rcases at' m c q with ⟨hm, q⟩ | ⟨rfl, rfl⟩
    · obtain ⟨a, k1, k2, k3⟩ := st.at_ m c q
      exact ⟨a, hA m a k1, k2, k3.sam0 e0 rfl⟩
    · exact ⟨p, AtN, NZ.of nz, hc.sam0 e0 rfl⟩
  · rcases at' m c q with ⟨hm, q⟩ | ⟨rfl, rfl⟩
    · rw [AtO m hm] at ha
      exact st.np m c a q ha z.1
    · rw [AtN] at ha
      cases ha
      exact z.2 rfl
  · rcases at' m x qm with ⟨lm, qm'⟩ | ⟨rfl, rfl⟩
    · rcases at' k y qk with ⟨lk, qk'⟩ | ⟨rfl, rfl⟩
      · rw [AtO m lm] at hm
        rw [AtO k lk] at hk
        exact st.inj m k b x y qm' qk' hm hk
      · rw [AtO m lm] at hm
        rw [AtN] at hk
        cases hk
        exact absurd rfl (npo m x _ qm' hm)
    · rcases at' k y qk with ⟨lk, qk'⟩ | ⟨rfl, rfl⟩
      · rw [AtO k lk] at hk
        rw [AtN] at hm
        cases hm
        exact absurd rfl (npo k y _ qk' hk)
      · rfl
  · rw [List.length_append] at hm
    have hm' : s.length + 1 ≤ m := hm
    show (if m = s.length then some p else w.A m) = none
    rw [if_neg (by omega)]
    exact st.new m (by omega)
section
variable {X : Cx} {W : WX} {a b o : Expr} {es : List Expr} {pos pos' p apos : Pos} {ma mb mo : DE} {mr : DM (List D)}
theorem pp_nil : PPs X pos [] [] (([] : List (DE × DE)).map fun p => (tE X.K W p.1, tE X.K W p.2)) := pps_nil
theorem pp_cons {ks : List (Option Expr)} {vs : List Expr} {l : List (DE × DE)} (hk : PE X a (tE X.K W ma)) (hv : PE X b (tE X.K W mb)) (hr : PPs X pos ks vs (l.map fun p => (tE X.K W p.1, tE X.K W p.2))) : PPs X pos (some a :: ks) (b :: vs) (((ma, mb) :: l).map fun p => (tE X.K W p.1, tE X.K W p.2)) := pps_cons hk hv hr
theorem e_disp {ks : List (Option Expr)} {vs : List Expr} {l : List (DE × DE)} (h : PPs X pos ks vs (l.map fun p => (tE X.K W p.1, tE X.K W p.2))) (hall : ks.all (·.isSome) = true := by rfl) (hl : ks.length = vs.length := by rfl) (h0 : ks ≠ [] := by exact fun z => nomatch z) (h15 : ks.length ≤ 15 := by decide) :
    PE X (.Dict ks vs pos) (tE X.K W (dispM l)) := PE.imp (pe_disp h hall hl h0 h15) fun t H Q h => by
  obtain ⟨r, s, w, rfl, env, st, hp⟩ := h
  intro q nq
  have hP : ¬ w.P q := fun z => (st.pz q z).2 nq
  have hz : ¬ w.Z q := fun z => st.fz q z nq
  have e1 := Wd.pin_ext (o := .dK []) st nq
  refine pairs_imp (w := w.pin q (.dK [])) (env.ext e1) (Wd.pin_st st nq) ?_
  unfold dispM bindM at hp
  cases e : pairsM l r s with
  | exc C fs s3 => rw [e] at hp; exact Post.ext e1 hp
  | bad => rw [e] at hp; exact hp
  | ok ps s3 =>
    rw [e] at hp
    dsimp only at hp
    intro vs2 w3 e3 st3 r3
    have P3 : w3.P q := e3.P q (.inr rfl)
    have H3 : w3.H q = some (.dK []) := (e3.HP q (.inr rfl)).trans upd_same
    refine ⟨H3, ?_⟩
    cases ek : keyed ps with
    | none => rw [ek] at hp; exact hp.elim
    | some kvs =>
      rw [ek] at hp
      dsimp only at hp
      obtain ⟨kv, rfl, hr⟩ := keyed_ok r3 ek
      by_cases hl : kvs.length ≤ 15
      · rw [if_pos hl] at hp
        refine ⟨kv, rfl, by rw [hr.length]; exact hl, ?_⟩
        have x4 := Wd.turn_ext (o := .dK (mergeK [] kv)) (e1.trans e3) hz hP
        have st4 := Wd.turn_st (o := .dK (mergeK [] kv)) st3 P3
        have e0 := Wd.turn_ex0 (o := .dK (mergeK [] kv)) st3 P3
        obtain ⟨w5, h5, x5, st5, r5⟩ := unpin_cell (ct := .dct (mergeA [] kvs)) x4 st4 hP P3 ⟨mergeK [] kv, upd_same, KVR.merge .nil (hr.ex0 e0)⟩
        have z := hp (.ref q) w5 x5 st5 r5
        rw [h5] at z
        exact z
      · rw [if_neg hl] at hp
        exact hp.elim
/-! stores -/
theorem set_dict (hu : X.A.units + 1 < cLine) : PSet X (fun o i v H Q => ∃ a H', o = .ref a ∧ DPut H a i v H' ∧ Q H') := fun pins s t H o i v ov iv u Q I ro ri rv h => by
  obtain ⟨q, H', rfl, g, k⟩ := h
  obtain rfl : ov = Value.ref q := ro
  exact d_setItem hu I g ri rv fun s3 I3 => ⟨H', I3, k⟩
theorem PSet.or {t t' : TSet} (h : PSet X t) (h' : PSet X t') : PSet X (fun o i v H Q => t o i v H Q ∨ t' o i v H Q) := fun pins s σ H o i v ov iv u Q I ro ri rv q => q.elim (h pins s σ H o i v ov iv u Q I ro ri rv) (h' pins s σ H o i v ov iv u Q I ro ri rv)
theorem putI_ok {w : Wd} {s s' : Sto} {x z y : V} {dx dz dy : D} {Q : Hp → Prop} (st : StR X.K w s) (rx : Rep X.K w x dx) (rz : Rep X.K w z dz) (ry : Rep X.K w y dy) (h : putI dx dz dy s = some s') (k : ∀ w', Ext w w' → StR X.K w' s' → Q w'.H) :
    (∃ a H', x = .ref a ∧ DPut w.H a z y H' ∧ Q H') ∨ (∃ p xs i j, x = V.ref p ∧ z = .int i ∧ w.H p = some (.lst xs) ∧ ixN xs.length i = some j ∧ Q (upd w.H p (.lst (xs.set j y)))) := by
  cases rx with
  | @cel n a0 hA =>
    unfold putI at h
    dsimp only at h
    cases e : s[n]? with
    | none => rw [e] at h; cases h
    | some oc =>
      cases oc with
      | none => rw [e] at h; cases h
      | some ct =>
        rw [e] at h
        obtain ⟨a1, h1, hz, hc⟩ := st.at_ n _ e
        have ea : a1 = a0 := Option.some.inj (h1.symm.trans hA)
        subst ea
        have hP := st.np n _ a1 e h1
        cases ct with
        | dct m =>
          dsimp only at h
          obtain ⟨l, hh, kv⟩ := hc
          cases ek : keyD dz with
          | none => rw [ek] at h; cases h
          | some q =>
            rw [ek] at h
            dsimp only at h
            split at h
            · rename_i hl
              cases h
              have e3 : Ext w (w.put a1 (.dK (L2.putK l q y))) := Wd.mut_ext hz hP
              refine .inl ⟨a1, _, rfl, .inl ⟨l, q, hh, keyD_ok rz ek, by rw [kv.length]; exact hl, rfl⟩, ?_⟩
              exact k (w.put a1 (.dK (L2.putK l q y))) e3 (Wd.mut_st st e h1 hz ⟨_, upd_same, (kv.ext e3).putK (ry.ext e3)⟩)
            · cases h
        | lst l =>
          dsimp only at h
          obtain ⟨vs, hh, rs⟩ := hc
          cases rz with
          | int i =>
            dsimp only at h
            cases ei : ixN l.length i with
            | none => rw [ei] at h; cases h
            | some j =>
              rw [ei] at h
              cases h
              have e3 : Ext w (w.put a1 (.lst (vs.set j y))) := Wd.mut_ext hz hP
              refine .inr ⟨a1, vs, i, j, rfl, rfl, hh, by rw [rs.length]; exact ei, ?_⟩
              exact k (w.put a1 (.lst (vs.set j y))) e3 (Wd.mut_st st e h1 hz ⟨_, upd_same, (rs.ext e3).set (ry.ext e3) j⟩)
          | _ => cases h
        | ins C l => cases h
        | rod l => cases h
        | tab x => cases h
  | _ => cases h
theorem s_sub {mk : DE} (hu : X.A.units + 1 < cLine) (ho : PE X o (tE X.K W mo)) (hk : PE X b (tE X.K W mk)) (hv : PE X a (tE X.K W ma)) (hs : swapsWithSole [.Subscript o b p] a pos.line X.env = pure false := by rfl) (hw : swappedStores [.Subscript o b p] a X.env = pure none := by rfl)
    (h1 : (assignEach [.Subscript o b p] X.env).map (·.2) = [assign (.Subscript o b p) X.env] := by rfl)
    (hA : ∀ v, assign (.Subscript o b p) X.env v = (holding [v] (eval o X.env) >>= fun ov => holding [v, ov] (eval b X.env) >>= fun iv => standAt p >>= fun _ => holding [v, ov, iv] (setItem ov iv v) >>= fun _ => release [v, ov, iv] []) := by intro _; rfl) :
    PS X (.Assign [.Subscript o b p] a pos) (tS X.K W (subS mo mk ma)) := PS.imp (ps_asg hv (pg_sub ho hk (PSet.or (set_dict hu) set_list) hA) hs hw h1) fun E t H h => by
  obtain ⟨r, s, w, rfl, env, st, hp⟩ := h
  exact hp.bind env st fun y dy s1 w1 e1 st1 r1 hp1 => hp1.bind (env.ext e1) st1 fun x dx s2 w2 e2 st2 r2 hp2 => hp2.bind ((env.ext e1).ext e2) st2 fun z dz s3 w3 e3 st3 r3 hp3 => by
    cases e : putI dx dz dy s3 with
    | none => rw [e] at hp3; exact hp3.elim
    | some s4 =>
      rw [e] at hp3
      have q := putI_ok (Q := fun H3 => E.nx t H3) st3 (r2.ext e3) r3 ((r1.ext e2).ext e3) e fun w4 e4 st4 => hp3 t w4 e4 ((((env.ext e1).ext e2).ext e3).ext e4) st4
      rcases q with q | q
      · exact .inl q
      · obtain ⟨p1, xs, i, j, h1, h2, h3, h4, h5⟩ := q
        exact .inr ⟨p1, xs, i, j, h1, h2, h3, h4, h5⟩
/-! x op= e -/
def addI (x y : D) (s : Sto) : Res D := match x with
  | .int i => (match y with
    | .int j => .ok (.int (i + j)) s
    | _ => .bad)
  | _ => .bad
end
end Mp
set_option Elab.async false
set_option linter.all false
set_option maxRecDepth 100000
set_option maxHeartbeats 4000000
/-! Mp: try. -/
namespace Mp
open PySem PySem.Spec PyProof.Rows L2
/-! ### on data -/
def noExc : Fl → Fl
  | .exc _ _ _ _ => .bad
  | f => f
/-- try: body except c: suite; tb: which of the package's errors c is -/
def tryS (mb : DS) (tb : List (Str × Bool)) (mh : DS) : DS := fun r s => match mb r s with
  | .exc C fs r' s' => (match tb.lookup C with
    | some true => noExc (mh r' s')
    | some false => .exc C fs r' s'
    | none => .bad)
  | f => f
def offS (i : Nat) : Fl → Fl
  | .nx r s => .nx (r.set i none) s
  | .bk r s => .bk (r.set i none) s
  | .ct r s => .ct (r.set i none) s
  | .rt d s => .rt d s
  | _ => .bad
open Classical in
noncomputable def joinF (f : Addr → Option Addr → Fl) : Fl := if ∀ a d, f a d = f 0 none then f 0 none else .bad
theorem joinF_of {f : Addr → Option Addr → Fl} (h : ∀ a d, f a d = f 0 none) : joinF f = f 0 none := if_pos h
noncomputable def tryAsS (i : Nat) (E : Str) (mb : DS) (tb : List (Str × Bool)) (mh : Addr → Option Addr → List (Str × D) → DS) : DS := fun r s => match mb r s with
  | .exc C fs r' s' => (match tb.lookup C with
    | some true => if C = E then joinF (fun a d => offS i (mh a d fs (r'.set i (some (.exn a d C fs))) s')) else .bad
    | some false => .exc C fs r' s'
    | none => .bad)
  | f => f
/-- e.f of the caught one -/
def exnM (a : Addr) (d : Option Addr) (f : Str) (m : DE) : DE := bindM m fun x => fun _ s => match x with
  | .exn a' d' _ fs => if a' = a ∧ d' = d then okO s (fs.lookup f) else .bad
  | _ => .bad
/-! ### soundness -/
section
end
end Mp
set_option Elab.async false
set_option linter.all false
set_option maxRecDepth 100000
set_option maxHeartbeats 4000000
/-! Mp: methods that say super().m(..). -/
namespace Mp
open PySem PySem.Spec PyProof.Rows L2
section
end
/-- super().m(a, ..): by the class of the instance -/
def superM (tb : List (Str × DF)) (a : DM (List D)) : DE := bindM (vM 0) fun x => fun r s => match insOf s x with
  | none => .bad
  | some (C, _) => (match tb.lookup C with
    | none => .bad
    | some f => (bindM a fun ds => fun _ s => f (x :: ds) s) r s)
def superS (tb : List (Str × DF)) (a : DM (List D)) : DS := thenS (superM tb a) fun _ => fun r s => .nx r s
structure SupF (X : Cx) (D : Addr) (C m : Str) (mf : DF) : Prop where
  cls : (PySem.W.clsIn X.K (He.ga X.K C)).isSome = true
  sub : PySem.W.mroIn X.K (He.ga X.K C) (.ref D) = some true
  ex : ∃ (g : Addr) (k : Nat), PySem.W.ks_superIn X.K (He.ga X.K C) D m = some (some (.ref g)) ∧ PySem.W.typeIn X.K (.ref g) = some (.type "function") ∧ PySem.W.fnIn X.K g = true ∧ FnD X.prog X.w X.K X.mg X.base k g mf ∧ Rm k X.A
inductive STab (X : Cx) (D : Addr) (m : Str) : List (Str × DF) → Prop
  | nil : STab X D m []
  | cons {C : Str} {f : DF} {r : List (Str × DF)} : SupF X D C m f → STab X D m r → STab X D m ((C, f) :: r)
theorem STab.get {X : Cx} {D : Addr} {m C : Str} {f : DF} : ∀ {tb : List (Str × DF)}, STab X D m tb → tb.lookup C = some f → SupF X D C m f
  | _, .nil, h => by simp at h
  | _, .cons (C := E) h1 r, h => by
    by_cases e : C = E
    · subst e
      rw [List.lookup_cons_self] at h
      cases h
      exact h1
    · have hb : (C == E) = false := by simpa using e
      rw [List.lookup_cons, hb] at h
      exact r.get h
section
end
section
end
end Mp
set_option Elab.async false
set_option linter.all false
set_option maxRecDepth 100000
set_option maxHeartbeats 4000000
/-! Mp: repr of plain data, chained comparisons. -/
namespace Mp
open PySem PySem.Spec PyProof.Rows L2
section
variable {X : Cx} {W : WX} {a b c : Expr} {pos : Pos} {ma mb mc : DE}
/-! a op b op c -/
def chainT (g : D → D → Sto → Res D) (y : D) (c : DE) : D → DE
  | .bl true => bindM c fun u => fun _ s => g y u s
  | .bl false => pureM (.bl false)
  | _ => fun _ _ => .bad
def chainM (f g : D → D → Sto → Res D) (a b c : DE) : DE := bindM a fun x => bindM b fun y => fun r s => match f x y s with
  | .ok z s' => chainT g y c z r s'
  | .exc C fs s' => .exc C fs s'
  | .bad => .bad
theorem chain_imp {op op' : CmpOp} {f g : D → D → Sto → Res D} {r r' : R2} (hv : VR2 X.K r f) (hv' : VR2 X.K r' g) {t : L2.St} {H : Hp} {Q : VK} (h : tE X.K W (chainM f g ma mb mc) t H Q) :
    tChain r r' (tE X.K W ma) (tE X.K W mb) (tE X.K W mc) t H Q := by
  obtain ⟨q, s, w, rfl, env, st, hp⟩ := h
  refine hp.bind env st fun x d s1 w1 e1 st1 r1 hp1 => ?_
  refine hp1.bind (env.ext e1) st1 fun y e s2 w2 e2 st2 r2 hp2 => ?_
  cases e5 : f d e s2 with
  | bad => rw [e5] at hp2; exact hp2.elim
  | exc C fs s3 =>
    rw [e5] at hp2
    refine hv w2 s2 x y d e _ (fun c d H' => W c d t H') st2 (r1.ext e2) r2 ?_
    rw [e5]
    exact hp2
  | ok z s3 =>
    rw [e5] at hp2
    refine hv w2 s2 x y d e _ (fun c d H' => W c d t H') st2 (r1.ext e2) r2 ?_
    rw [e5]
    intro vz w3 e3 st3 r3
    have hp3 := Post.ext e3 hp2
    cases z with
    | bl k =>
      cases r3
      refine ⟨k, rfl, ?_⟩
      cases k with
      | false =>
        exact hp3.pure st3 (.bl false)
      | true =>
        refine Post.bind (m := mc) (f := fun u => fun _ s => g e u s) (r := q) (R' := Rep X.K) hp3 (((env.ext e1).ext e2).ext e3) st3 fun u du s4 w4 e4 st4 r4 hp4 => ?_
        exact hv' w4 s4 y u e du Q _ st4 ((r2.ext e3).ext e4) r4 hp4
    | _ => exact hp3.elim
theorem e_chain {op op' : CmpOp} {f g : D → D → Sto → Res D} {r r' : R2} (ho : OpR X (compareOp op) r) (ho' : OpR X (compareOp op') r') (hv : VR2 X.K r f) (hv' : VR2 X.K r' g) (ha : PE X a (tE X.K W ma)) (hb : PE X b (tE X.K W mb)) (hc : PE X c (tE X.K W mc))
    (hm : lastMarks [op, op'] [b, c] = false := by with_unfolding_all rfl) : PE X (.Compare a [op, op'] [b, c] pos) (tE X.K W (chainM f g ma mb mc)) := PE.imp (pe_chain ho ho' ha hb hc hm) fun t H Q h => chain_imp (op := op) (op' := op') hv hv' h
theorem t_chain {op op' : CmpOp} {f g : D → D → Sto → Res D} {r r' : R2} (ho : OpR X (compareOp op) r) (ho' : OpR X (compareOp op') r') (hv : VR2 X.K r f) (hv' : VR2 X.K r' g) (ha : PE X a (tE X.K W ma)) (hb : PE X b (tE X.K W mb)) (hc : PE X c (tE X.K W mc))
    (hm : lastMarks [op, op'] [b, c] = false := by with_unfolding_all rfl) : PT X (.Compare a [op, op'] [b, c] pos) (tT X.K W (blM (chainM f g ma mb mc))) := PT.imp (pt_chain ho ho' ha hb hc hm) fun t H Q h => by
  refine chain_imp (op := op) (op' := op') (W := W) hv hv' ?_
  obtain ⟨q, s, w, rfl, env, st, hp⟩ := h
  exact hp.bind env st fun x d s1 w1 e1 st1 r1 hp1 => by
    cases r1 with
    | bl k => exact ⟨k, rfl, hp1.pure st1 rfl⟩
    | _ => exact hp1.elim
end
end Mp
set_option Elab.async false
set_option linter.all false
set_option maxRecDepth 100000
set_option maxHeartbeats 4000000
/-! Mp: the end of a law, the head's facts. -/
namespace Mp
open PySem PySem.Spec PyProof.Rows L2
/-! ### the end -/
abbrev LawEnd (s₁ : Shared) : Result → Shared → Prop := fun r s' => r = .ok (.ret (.bool true)) ∧ OldK s₁.heap s'.heap ∧ s'.os = s₁.os ∧ AllBare s'.gens
section
end
end Mp
set_option Elab.async false
set_option linter.all false
set_option maxRecDepth 100000
set_option maxHeartbeats 4000000
/-! Mp: the head's facts. -/
namespace Mp
open PySem PySem.Spec PyProof.Rows L2
/-! ### defs -/
structure DefM where
  ad : Frag → Addr
  name : Str
  qual : Str
  params : Arguments
  body : List Stmt
  scope : Scope
  dfl : List He.Dv := []
  sup : Option Str := none
def fnWM (K : Frag) (d : DefM) : He.FnW := match K.lookup (d.ad K) with
  | some ⟨_, _, .func fd, _⟩ => some (fd.name, fd.qualname, fd.params, fd.body, fd.scope, fd.globals, [], fd.builtins)
  | _ => none
def DefM.val (d : DefM) : He.FnW := some (d.name, d.qual, d.params, .stmts d.body, d.scope, mainGlobals, [], builtinsNs)
def DefM.dvs (K : Frag) (d : DefM) : List V := d.dfl.map (He.Dv.v K)
def fileB (file : Str) (K : Frag) : Value → Bool
  | .ref c => (match K.lookup c with
    | some ⟨_, _, .fields vs, _⟩ => (match (vs[2]? : Option Value) with
      | some (.str f _) => file == f
      | _ => false)
    | _ => false)
  | _ => false
def clB (file : Str) (K : Frag) (sup : Option Str) (fd : FuncData) : Bool := match sup with
  | none => (match fd.closure with
    | [] => true
    | _ => false)
  | some C => (match fd.closure with
    | [(n, cc)] => decide (n = "__class__") && ((match K.lookup cc with
      | some ⟨_, _, .cell (some (.ref e)), _⟩ => decide (e = He.ga K C)
      | _ => false) && ((PySem.W.clsIn K (He.ga K C)).isSome && (fileB file K fd.code && He.eqO (PySem.W.nsIn K cStatics "thirdparty.any") (some none))))
    | _ => false)
def DefM.ok (file : Str) (K : Frag) (d : DefM) : Bool := PySem.W.keepIn K (.ref (d.ad K)) && (match K.lookup (d.ad K) with
  | some ⟨_, _, .func fd, _⟩ => PySem.W.codeIn K fd.code d.qual && (He.dflB K fd.defaults (d.dvs K) && clB file K d.sup fd)
  | _ => false)
theorem DefM.funD {file : Str} {K : Frag} {d : DefM} (hs : d.sup = none) (e : fnWM K d = d.val) (c : d.ok file K = true) : ∃ fd, FunD K d.name d.qual d.params d.body d.scope (d.dvs K) [] (d.ad K) fd := by
  obtain ⟨kp, c2⟩ := He.ba c
  unfold fnWM at e
  cases q : K.lookup (d.ad K) with
  | none => rw [q] at c2; cases c2
  | some o =>
    obtain ⟨oc, od, dt, osl⟩ := o
    rw [q] at c2 e
    cases dt with
    | func fd =>
      obtain ⟨n1, n2, n3, n4, n5, n6, n7, n8, n9, n10, n11, n12, n13, n14, n15⟩ := fd
      have e2 : (some (n1, n2, n3, n4, n5, n6, [], n15) : He.FnW) = some (d.name, d.qual, d.params, .stmts d.body, d.scope, mainGlobals, [], builtinsNs) := e
      simp only [Option.some.injEq, Prod.mk.injEq] at e2
      obtain ⟨h1, h2, h3, h4, h5, h6, _, h8⟩ := e2
      subst h1 h2 h3 h4 h5 h6 h8
      obtain ⟨k1, k2⟩ := He.ba c2
      obtain ⟨k3, k4⟩ := He.ba k2
      unfold clB at k4
      rw [hs] at k4
      dsimp only at k4
      cases n7 with
      | nil => exact ⟨_, ⟨oc, od, n8, n9, n10, n11, n12, n13, n14, osl, rfl, q, k1, He.dflB_ok k3, .inl rfl⟩, kp⟩
      | cons _ _ => cases k4
    | _ => cases c2
/-! ### the Hook -/
abbrev AlM : Type := Bool × List He.FnW
def obsM (file : Str) (fb : List (Frag → Bool)) (fn : List DefM) (K : Frag) : AlM := ((fb.all fun f => f K) && fn.all fun d => d.ok file K, fn.map fun d => fnWM K d)
def valM (fn : List DefM) : AlM := (true, fn.map DefM.val)
def SaysM (file : Str) (fb : List (Frag → Bool)) (fn : List DefM) (K : Frag) : Prop := obsM file fb fn K = valM fn
def refsM (g : Addr → Option Obj) (a : Addr) : List Addr := match g a with
  | some o => He.refsD o
  | none => []
/-- those that are not marked yet -/
def markK (k : Nat → List Addr → List Addr) : List Addr → Nat → List Addr → List Addr
  | [], seen, out => k seen out
  | a :: as, seen, out => (match Nat.testBit seen a with
    | true => markK k as seen out
    | false => markK k as (seen ||| (1 <<< a)) (a :: out))
def levelM (g : Addr → Option Obj) : Nat → List Addr → Nat → List Addr
  | 0, front, _ => front
  | n + 1, front, seen => front ++ markK (fun seen' out => levelM g n out seen') (front.flatMap (refsM g)) seen []
def asM (g : Addr → Option Obj) (n : Nat) : List Addr := cStatics :: sysModules :: levelM g n [mainGlobals] (1 <<< mainGlobals)
/-- all that a derivation may ask of the head -/
structure Fx (P : Program) (fb : List (Frag → Bool)) (fn : List DefM) (K : Frag) (mg : Str → Option Value) : Prop where
  says : SaysM P.main.file fb fn K
  ex : ∃ h : Heap, K.In h ∧ h.Ns mainGlobals mg
section
variable {P : Program} {fb : List (Frag → Bool)} {fn : List DefM} {K : Frag} {mg : Str → Option Value} (Z : Fx P fb fn K mg)
include Z
theorem Fx.fact (i : Nat) {f : Frag → Bool} (h : fb[i]? = some f) : f K = true := by
  have c1 := (He.ba (show ((fb.all fun f => f K) && fn.all fun d => d.ok P.main.file K) = true from congrArg (fun z : AlM => z.1) Z.says)).1
  exact List.all_eq_true.mp c1 f (List.mem_of_getElem? h)
theorem Fx.dfOk (i : Nat) {d : DefM} (h : fn[i]? = some d) : fnWM K d = d.val ∧ d.ok P.main.file K = true := by
  have c2 := (He.ba (show ((fb.all fun f => f K) && fn.all fun d => d.ok P.main.file K) = true from congrArg (fun z : AlM => z.1) Z.says)).2
  have e : fn.map (fun d => fnWM K d) = fn.map DefM.val := congrArg (fun z : AlM => z.2) Z.says
  have e2 : (fn.map fun d => fnWM K d)[i]? = (fn.map DefM.val)[i]? := by rw [e]
  rw [List.getElem?_map, List.getElem?_map, h] at e2
  exact ⟨Option.some.inj e2, List.all_eq_true.mp c2 d (List.mem_of_getElem? h)⟩
theorem Fx.df (i : Nat) {d : DefM} (h : fn[i]? = some d) (hs : d.sup = none) : ∃ fd, FunD K d.name d.qual d.params d.body d.scope (d.dvs K) [] (d.ad K) fd := let q := Z.dfOk i h; DefM.funD hs q.1 q.2
theorem Fx.keep (i : Nat) {d : DefM} (h : fn[i]? = some d) : PySem.W.keepIn K (.ref (d.ad K)) = true := (He.ba (Z.dfOk i h).2).1
abbrev ckF (f : He.Fa) : Frag → Bool := fun K => f.ok K
omit Z in
theorem fx_in (Z : Fx P fb fn K mg) {T : Prop} (k : ∀ h : Heap, K.In h → h.Ns mainGlobals mg → T) : T := let ⟨h, a, b⟩ := Z.ex; k h a b
theorem Fx.glo (i : Nat) {x : Str} (h : fb[i]? = some (ckF (.glo x))) : mg x = some (.ref (He.ga K x)) := fx_in Z fun _ a b => He.glo_ok a b (Z.fact i h)
theorem Fx.free (i : Nat) {x : Str} (h : fb[i]? = some (ckF (.free x))) : mg x = none := fx_in Z fun _ a b => He.free_ok a b (Z.fact i h)
theorem Fx.int (i : Nat) {x : Str} {j : Int} (h : fb[i]? = some (ckF (.int x j))) : ∃ t, mg x = some (.int j t) := fx_in Z fun _ a b => He.int_ok a b (Z.fact i h)
theorem Fx.str (i : Nat) {x z : Str} (h : fb[i]? = some (ckF (.str x z))) : ∃ t, mg x = some (.str z t) := fx_in Z fun _ a b => He.str_ok a b (Z.fact i h)
theorem Fx.cls (i : Nat) {x : Str} (h : fb[i]? = some (ckF (.cls x))) : Cls K (He.ga K x) := He.cls_ok (Z.fact i h)
theorem Fx.noat (i : Nat) {x f : Str} (h : fb[i]? = some (ckF (.noat x f))) : NoAttr K (He.ga K x) f := He.noat_ok (Z.fact i h)
theorem Fx.meth (i : Nat) {x f : Str} (h : fb[i]? = some (ckF (.meth x f))) : Meth K (He.ga K x) f (He.ma K (He.ga K x) f) := He.meth_ok (Z.fact i h)
theorem Fx.mkr (i : Nat) {x : Str} (h : fb[i]? = some (ckF (.mkr x))) : Mk K (He.ga K x) (He.ma K (He.ga K x) "__init__") := He.mkr_ok (Z.fact i h)
abbrev ckTup (x : Str) (vs : List He.Dv) : Frag → Bool := fun K => He.tupB K x vs
theorem Fx.tup (i : Nat) {x : Str} {vs : List He.Dv} (h : fb[i]? = some (ckTup x vs)) : KT K (He.ga K x) (vs.map (He.Dv.v K)) := by
  rcases He.tupB_ok (Z.fact i h) (fun _ => none) with (z | ⟨o, z⟩) | z
  · cases z
  · cases z
  · exact z
/-! own exceptions -/
abbrev ckExc (x : Str) (newId : String) (bm : List Value) : Frag → Bool := fun K => exB K (He.ga K x) bm newId && (He.eqO (PySem.W.findIn K (.ref (He.ga K x)) "__setattr__") (some (some (.builtin "object.__setattr__"))) && (decide (PySem.W.subIn K (.ref (He.ga K x)) (.type "BaseException") = some true) &&
  (decide (PySem.W.typeIn K (.ref (He.ga K x)) = some (.type "type")) && (PySem.W.keepIn K (.ref (He.ga K x)) && (He.eqO (PySem.W.findIn K (.ref (He.ga K x)) "__init__") (some (some (.ref (He.ma K (He.ga K x) "__init__")))) && decide (PySem.W.typeIn K (.ref (He.ma K (He.ga K x) "__init__")) = some (.type "function")))))))
theorem Fx.exc (i : Nat) {x : Str} {B newId initId : String} {bm : List Value} (b : BaseX B newId initId bm) (h : fb[i]? = some (ckExc x newId bm)) :
    OexB K (He.ga K x) B newId initId bm ∧ PySem.W.findIn K (.ref (He.ga K x)) "__init__" = some (some (.ref (He.ma K (He.ga K x) "__init__"))) ∧ PySem.W.typeIn K (.ref (He.ma K (He.ga K x) "__init__")) = some (.type "function") := by
  obtain ⟨h1, r⟩ := He.ba (Z.fact i h)
  obtain ⟨h2, r⟩ := He.ba r
  obtain ⟨h3, r⟩ := He.ba r
  obtain ⟨h4, r⟩ := He.ba r
  obtain ⟨h5, r⟩ := He.ba r
  obtain ⟨h6, h7⟩ := He.ba r
  exact ⟨⟨b, exB_ok h1, He.eqO_ok h2, of_decide_eq_true h3, of_decide_eq_true h4, h5⟩, He.eqO_ok h6, of_decide_eq_true h7⟩
/-! isinstance -/
abbrev ckTyC (x : Str) : Frag → Bool := fun K => (ckF (.cls x)) K && (He.eqO (PySem.W.findIn K (.ref (He.ga K x)) "__class__") (some (some (.builtin "object.__class__"))) && (He.eqO (PySem.W.specialIn K (.builtin "object.__class__") "__get__") (some (some (.builtin "getset_descriptor.__get__"))) &&
  (decide (PySem.W.takesIn K (.builtin "object.__class__") = some true) && decide (PySem.W.mroIn K (He.ga K x) (.type "object") = some true))))
abbrev ckIsi (it : Isi) : Frag → Bool := fun K => (it.cs.all fun C => ckTyC C K) && ((it.oo.all fun q => decide (PySem.W.kitOne K (.ref (He.ga K q.1.1)) (.ref (He.ga K q.1.2)) = some q.2)) && ((it.bo.all fun C => tyNames.all fun n => decide (PySem.W.kitOne K (.type n) (.ref (He.ga K C)) = some false)) &&
  it.ob.all fun q => decide (PySem.W.kitOne K (.ref (He.ga K q.1.1)) (.type q.1.2) = some q.2)))
theorem Fx.isi (i : Nat) {it : Isi} (h : fb[i]? = some (ckIsi it)) : IsiOk K it := by
  obtain ⟨h1, r⟩ := He.ba (Z.fact i h)
  obtain ⟨h2, r⟩ := He.ba r
  obtain ⟨h3, h4⟩ := He.ba r
  refine ⟨fun C hC => ?_, fun q hq => of_decide_eq_true (List.all_eq_true.mp h2 q hq), fun C hC n hn => of_decide_eq_true (List.all_eq_true.mp (List.all_eq_true.mp h3 C hC) n hn), fun q hq => of_decide_eq_true (List.all_eq_true.mp h4 q hq)⟩
  obtain ⟨a1, a⟩ := He.ba (List.all_eq_true.mp h1 C hC)
  obtain ⟨a2, a⟩ := He.ba a
  obtain ⟨a3, a⟩ := He.ba a
  obtain ⟨a4, a5⟩ := He.ba a
  exact ⟨He.cls_ok a1, He.eqO_ok a2, He.eqO_ok a3, of_decide_eq_true a4, of_decide_eq_true a5⟩
/-! bound methods, super -/
abbrev ckBm (x m : Str) : Frag → Bool := fun K => (ckF (.meth x m)) K && (He.eqO (PySem.W.specialIn K (.ref (He.ma K (He.ga K x) m)) "__get__") (some (some (.builtin "function.__get__"))) && (decide (PySem.W.takesIn K (.ref (He.ma K (He.ga K x) m)) = some false) && (!PySem.W.copiedNames.contains m && PySem.W.fnIn K (He.ma K (He.ga K x) m))))
theorem Fx.bm (i : Nat) {x m : Str} (h : fb[i]? = some (ckBm x m)) : BMeth K (He.ga K x) m (He.ma K (He.ga K x) m) := by
  obtain ⟨h1, r⟩ := He.ba (Z.fact i h)
  obtain ⟨h2, r⟩ := He.ba r
  obtain ⟨h3, r⟩ := He.ba r
  obtain ⟨h4, h5⟩ := He.ba r
  exact ⟨He.meth_ok h1, He.eqO_ok h2, of_decide_eq_true h3, by simpa using h4, h5⟩
end
/-! properties, constants -/
abbrev ckCon (C f : Str) (v : He.Dv) : Frag → Bool := fun K => (match PySem.W.findIn K (.ref (He.ga K C)) f with
  | some (some u) => He.relB (v.v K) u && He.eqO (PySem.W.specialIn K u "__get__") (some none)
  | _ => false) && !PySem.W.copiedNames.contains f
theorem Fx.con {P : Program} {fb : List (Frag → Bool)} {fn : List DefM} {K : Frag} {mg : Str → Option Value} (Z : Fx P fb fn K mg) (i : Nat) {C f : Str} {v : He.Dv} (h : fb[i]? = some (ckCon C f v)) : ∃ u, Con K (He.ga K C) f (v.v K) u := by
  obtain ⟨h1, h2⟩ := He.ba (Z.fact i h)
  split at h1
  · rename_i u e
    obtain ⟨a, b⟩ := He.ba h1
    exact ⟨u, e, He.relB_ok a, He.eqO_ok b, by simpa using h2⟩
  · cases h1
end Mp
set_option Elab.async false
set_option linter.all false
set_option maxRecDepth 100000
set_option maxHeartbeats 4000000
/-! Mp: more built-in functions. -/
namespace Mp
open PySem PySem.Spec PyProof.Rows L2
def max2D (ds : List D) (s : Sto) : Res D := match ds with
  | [.int i, .int j] => .ok (.int (if j > i then j else i)) s
  | _ => .bad
def min2D (ds : List D) (s : Sto) : Res D := match ds with
  | [.int i, .int j] => .ok (.int (if j < i then j else i)) s
  | _ => .bad
section
end
/-- a getter that lets no exception out -/
def noxF (m : DF) : DF := fun ds s => match m ds s with
  | .exc _ _ _ => .bad
  | r => r
theorem FnD.nox {P : Program} {w : World} {K : Frag} {mg : Str → Option Value} {base : Heap} {k : Nat} {f : Addr} {m : DF} (F : FnD P w K mg base k f m) : FnD P w K mg base k f (noxF m) := fun A outer s H us vs Q E hr e0 r h => by
  obtain ⟨ds, so, u, hu, rs, st, hp⟩ := h
  refine F A outer s H us vs Q E hr e0 r ⟨ds, so, u, hu, rs, st, ?_⟩
  unfold noxF at hp
  cases e : m ds so <;> rw [e] at hp
  · exact hp
  · exact hp.elim
  · exact hp
end Mp
set_option Elab.async false
set_option linter.all false
set_option maxRecDepth 100000
set_option maxHeartbeats 4000000
/-! Mp: a caught error as a value: isinstance(e, C). -/
namespace Mp
open PySem PySem.Spec PyProof.Rows L2 PySem.Calls
section
end
/-! ### on data -/
def isxD (a : Addr) (d : Option Addr) (tt : List (String × Bool)) (ds : List D) (s : Sto) : Res D := match ds with
  | [.exn a' d' _ _, .ty n] => if a' = a ∧ d' = d then (match tt.lookup n with
    | some b => .ok (.bl b) s
    | none => .bad) else .bad
  | _ => .bad
/-! ### the head's facts -/
end Mp
set_option Elab.async false
set_option linter.all false
set_option maxRecDepth 100000
set_option maxHeartbeats 4000000
/-! Mp: repr of data with dicts. -/
namespace Mp
open PySem PySem.Spec PyProof.Rows L2
def keyP : Key → PyData
  | .inl i => .int i
  | .inr z => .str z
mutual
inductive Dq (K : Frag) (H : Hp) : V → PyData → Prop
  | non : Dq K H .non .none
  | bl (b : Bool) : Dq K H (.bl b) (.bool b)
  | int (i : Int) : Dq K H (.int i) (.int i)
  | str (x : Str) : Dq K H (.str x) (.str x)
  | lst {a : Addr} {xs : List V} {ds : List PyData} : SqL K H a xs → Dqs K H xs ds → Dq K H (.ref a) (.list ds)
  | tup {a : Addr} {xs : List V} {ds : List PyData} : SqT K H a xs → Dqs K H xs ds → Dq K H (.ref a) (.tuple ds)
  | dic {a : Addr} {kvs : List (Key × V)} {ds : List PyData} : Rd H a (.dK kvs) → Dqs K H (kvs.map (·.2)) ds → Dq K H (.ref a) (.dict ((kvs.map fun p => keyP p.1).zip ds))
inductive Dqs (K : Frag) (H : Hp) : List V → List PyData → Prop
  | nil : Dqs K H [] []
  | cons {v : V} {vs : List V} {d : PyData} {ds : List PyData} : Dq K H v d → Dqs K H vs ds → Dqs K H (v :: vs) (d :: ds)
end
theorem Dqs.length {K : Frag} {H : Hp} : ∀ {vs : List V} {ds : List PyData}, Dqs K H vs ds → vs.length = ds.length
  | _, _, .nil => rfl
  | _, _, .cons _ r => congrArg (· + 1) r.length
/-- sys.modules is no list -/
def SysD (K : Frag) : Prop := ∃ o, K.lookup sysModules = some o ∧ o.cls = .type "dict"
theorem pairs_keys {P : Program} {w : World} {h : Heap} : ∀ {es : List DictEntry} {vs : List (Key × Value)}, Pairs (mixKind P w) es vs → ∃ as, ReadsAll h (es.map (·.key)) (vs.map fun p => keyP p.1) as ∧ sysModules ∉ as
  | _, _, .nil => ⟨[], .nil, by simp⟩
  | e :: es, kv :: vs, .cons h1 h2 r => by
    obtain ⟨as, ra, hn⟩ := pairs_keys (h := h) r
    have k1 : ∃ as1, Reads h e.key (keyP kv.1) as1 ∧ sysModules ∉ as1 := by
      rcases keyIs_shape h1 with ⟨i, t, e1, e2⟩ | ⟨x, t, e1, e2⟩
      · rw [e1, e2]
        exact ⟨_, .int i t, by simp⟩
      · rw [e1, e2]
        exact ⟨_, .str x t, by simp⟩
    obtain ⟨as1, r1, n1⟩ := k1
    exact ⟨_, .cons r1 ra, fun z => (List.mem_append.mp z).elim n1 hn⟩
theorem pairs_vals {P : Program} {w : World} : ∀ {es : List DictEntry} {vs : List (Key × Value)}, Pairs (mixKind P w) es vs → es.map (·.val) = vs.map (·.2)
  | _, _, .nil => rfl
  | e :: es, kv :: vs, .cons h1 h2 r => by
    rw [List.map_cons, List.map_cons, pairs_vals r, h2]
theorem kv_vals : ∀ {l : List (Key × V)} {m : List (Key × Value)}, KV l m → Vals (l.map (·.2)) (m.map (·.2)) ∧ l.map (·.1) = m.map (·.1)
  | _, _, .nil => ⟨.nil, rfl⟩
  | _, _, .cons h r => by
    obtain ⟨h1, h2⟩ := kv_vals r
    exact ⟨.cons h.2 h1, by rw [List.map_cons, List.map_cons, h2, h.1]⟩
section
variable {X : Cx} {pins : List (Addr × Obj)} {t : L2.St} {H : Hp} {s : Shared}
mutual
theorem Dq.reads (I : Inv X pins t H s) (hS : SysD X.K) : ∀ {v : V} {d : PyData}, Dq X.K H v d → ∀ {u : Value}, RelV v u → ∃ as, Reads s.heap u d as ∧ sysModules ∉ as
  | _, _, .non, _, r => by
    cases r
    exact ⟨_, .none, by simp⟩
  | _, _, .bl b, _, r => by
    cases r
    exact ⟨_, .bool b, by simp⟩
  | _, _, .int i, _, r => by
    obtain ⟨k, rfl⟩ := r
    exact ⟨_, .int i k, by simp⟩
  | _, _, .str x, _, r => by
    obtain ⟨k, rfl⟩ := r
    exact ⟨_, .str x k, by simp⟩
  | _, _, .lst hs ha, _, r => by
    cases r
    obtain ⟨its, rv, ⟨o, n, ho, hc, _, hd⟩, _⟩ := I.list hs
    obtain ⟨as, hr, hn⟩ := Dqs.reads I hS ha rv
    refine ⟨_, Reads.list ho hc hd hr, fun z => ?_⟩
    rcases List.mem_cons.mp z with z | z
    · obtain ⟨o2, h2, h3⟩ := hS
      have h4 := I.kIn _ _ h2
      rw [z, ho] at h4
      cases h4
      rw [hc] at h3
      exact absurd h3 (by decide)
    · exact hn z
  | _, _, .tup hs ha, _, r => by
    cases r
    obtain ⟨its, rv, ⟨o, ho, hc, n, hd⟩, _⟩ := I.tuple hs
    obtain ⟨as, hr, hn⟩ := Dqs.reads I hS ha rv
    exact ⟨_, Reads.tuple ho hc hd hr, hn⟩
  | _, _, .dic hs ha, _, r => by
    cases r
    obtain ⟨_, hne, vs, kv, o, es, ep, ho, hx, hd, _, hp, _⟩ := dk_rd I.hok hs
    obtain ⟨rv, rk⟩ := kv_vals kv
    obtain ⟨as, ra, na⟩ := pairs_keys (h := s.heap) hp
    obtain ⟨bs, rb, nb⟩ := Dqs.reads I hS ha rv
    have hl := ha.length
    have e1 : ∀ (ks : List PyData) (ds : List PyData), ks.length = ds.length → (ks.zip ds).map (·.1) = ks := fun ks ds hl => List.map_fst_zip (by omega)
    have e2 : ∀ (ks : List PyData) (ds : List PyData), ks.length = ds.length → (ks.zip ds).map (·.2) = ds := fun ks ds hl => List.map_snd_zip (by omega)
    rw [List.length_map] at hl
    refine ⟨_, Reads.dict (as := as) (bs := bs) ho hx.1 hd ?_ ?_, fun z => ?_⟩
    · rw [e1 _ _ (by rw [List.length_map]; exact hl)]
      have e3 : ∀ {l : List (Key × V)} {m : List (Key × Value)}, l.map (·.1) = m.map (·.1) → (l.map fun p => keyP p.1) = m.map fun p => keyP p.1 := fun {l m} e => by
        have := congrArg (List.map keyP) e
        rw [List.map_map, List.map_map] at this
        exact this
      rw [e3 rk]
      exact ra
    · rw [e2 _ _ (by rw [List.length_map]; exact hl), pairs_vals hp]
      exact rb
    · rw [List.mem_append, List.mem_cons] at z
      rcases z with (z | z) | z
      · subst z
        exact absurd hne (by simp)
      · exact na z
      · exact nb z
theorem Dqs.reads (I : Inv X pins t H s) (hS : SysD X.K) : ∀ {vs : List V} {ds : List PyData}, Dqs X.K H vs ds → ∀ {us : List Value}, Vals vs us → ∃ as, ReadsAll s.heap us ds as ∧ sysModules ∉ as
  | _, _, .nil, _, r => by
    cases r
    exact ⟨_, .nil, by simp⟩
  | _, _, .cons h1 h2, _, r => by
    cases r with
    | cons r1 r2 =>
      obtain ⟨as, q1, n1⟩ := Dq.reads I hS h1 r1
      obtain ⟨bs, q2, n2⟩ := Dqs.reads I hS h2 r2
      exact ⟨_, .cons q1 q2, fun z => (List.mem_append.mp z).elim n1 n2⟩
end
end
/-! ### on data -/
mutual
def rdP (s : Sto) : Nat → D → Option PyData
  | 0, _ => none
  | n + 1, d => match d with
    | .non => some .none
    | .bl b => some (.bool b)
    | .int i => some (.int i)
    | .str z => some (.str z)
    | .tup l => (rdPs s n l).map .tuple
    | .lst l => (rdPs s n l).map .list
    | .rol l => (rdPs s n l).map .list
    | .dct m => (rdPs s n (m.map (·.2))).map fun ps => .dict ((m.map fun p => keyP p.1).zip ps)
    | .cel k => (match s[k]? with
      | some (some (.lst l)) => (rdPs s n l).map .list
      | some (some (.dct m)) => (rdPs s n (m.map (·.2))).map fun ps => .dict ((m.map fun p => keyP p.1).zip ps)
      | some (some (.rod m)) => (rdPs s n (m.map (·.2))).map fun ps => .dict ((m.map fun p => keyP p.1).zip ps)
      | _ => none)
    | _ => none
def rdPs (s : Sto) : Nat → List D → Option (List PyData)
  | 0, _ => none
  | _ + 1, [] => some []
  | n + 1, d :: l => (rdP s n d).bind fun p => (rdPs s n l).map fun ps => p :: ps
end
section
variable {K : Frag} {w : Wd} {s : Sto}
theorem KVR.keyP {l : List (Key × V)} {m : List (Key × D)} (h : KVR K w l m) : (l.map fun p => Mp.keyP p.1) = m.map fun p => Mp.keyP p.1 := by
  have := congrArg (List.map Mp.keyP) h.keys
  rw [List.map_map, List.map_map] at this
  exact this
mutual
theorem rdP_ok (st : StR K w s) : ∀ {n : Nat} {d : D} {v : V} {p : PyData}, Rep K w v d → rdP s n d = some p → Dq K w.H v p
  | 0, _, _, _, _, e => by
    rw [rdP] at e
    cases e
  | n + 1, d, v, p, r, e => by
    cases d with
    | non =>
      simp only [rdP] at e
      cases r
      cases e
      exact .non
    | bl b =>
      simp only [rdP] at e
      cases r
      cases e
      exact .bl b
    | int i =>
      simp only [rdP] at e
      cases r
      cases e
      exact .int i
    | str z =>
      simp only [rdP] at e
      cases r
      cases e
      exact .str z
    | tup l =>
      simp only [rdP] at e
      cases r with
      | tup h1 rs =>
        obtain ⟨ps, e1, rfl⟩ := Option.map_eq_some_iff.mp e
        exact .tup h1.sq (rdPs_ok st rs e1)
    | lst l =>
      simp only [rdP] at e
      cases r with
      | lst z h1 rs =>
        obtain ⟨ps, e1, rfl⟩ := Option.map_eq_some_iff.mp e
        exact .lst (SqL.of h1) (rdPs_ok st rs e1)
    | rol l =>
      simp only [rdP] at e
      cases r with
      | rol h1 rs =>
        obtain ⟨ps, e1, rfl⟩ := Option.map_eq_some_iff.mp e
        exact .lst h1.sq (rdPs_ok st rs e1)
    | dct m =>
      simp only [rdP] at e
      obtain ⟨a, o, l, rfl, _, h1, h2⟩ := r.dct_inv
      obtain ⟨ps, e1, rfl⟩ := Option.map_eq_some_iff.mp e
      rw [← h2.keyP]
      exact .dic (.inr ⟨o, h1⟩) (rdPs_ok st h2.vals e1)
    | cel k =>
      simp only [rdP] at e
      cases r with
      | cel ha =>
        cases hk : s[k]? with
        | none => rw [hk] at e; cases e
        | some oc =>
          rw [hk] at e
          cases oc with
          | none => cases e
          | some c =>
            obtain ⟨a1, h1, _, h3⟩ := st.at_ k c hk
            have ea := Option.some.inj (h1.symm.trans ha)
            subst ea
            cases c with
            | lst l =>
              obtain ⟨vs, hh, rs⟩ := h3
              obtain ⟨ps, e1, rfl⟩ := Option.map_eq_some_iff.mp e
              exact .lst (SqL.of hh) (rdPs_ok st rs e1)
            | dct m =>
              obtain ⟨l, hh, rs⟩ := h3
              obtain ⟨ps, e1, rfl⟩ := Option.map_eq_some_iff.mp e
              rw [← rs.keyP]
              exact .dic (.inl hh) (rdPs_ok st rs.vals e1)
            | rod m =>
              obtain ⟨o, l, _, hh, rs⟩ := h3
              obtain ⟨ps, e1, rfl⟩ := Option.map_eq_some_iff.mp e
              rw [← rs.keyP]
              exact .dic (.inr ⟨o, hh⟩) (rdPs_ok st rs.vals e1)
            | ins C fs => cases e
            | tab x => cases e
    | clo _ _ _ _ _ => simp [rdP] at e
    | ty _ => simp [rdP] at e
    | glo _ => simp [rdP] at e
    | ins _ _ => simp [rdP] at e
    | exn _ _ _ _ => simp [rdP] at e
theorem rdPs_ok (st : StR K w s) : ∀ {n : Nat} {ds : List D} {vs : List V} {ps : List PyData}, Reps K w vs ds → rdPs s n ds = some ps → Dqs K w.H vs ps
  | 0, _, _, _, _, e => by
    rw [rdPs] at e
    cases e
  | n + 1, [], _, _, r, e => by
    rw [rdPs] at e
    cases r
    cases e
    exact .nil
  | n + 1, d :: l, _, _, r, e => by
    rw [rdPs] at e
    cases r with
    | cons r1 r2 =>
      obtain ⟨p, e1, e2⟩ := Option.bind_eq_some_iff.mp e
      obtain ⟨ps, e3, rfl⟩ := Option.map_eq_some_iff.mp e2
      exact .cons (rdP_ok st r1 e1) (rdPs_ok st r2 e3)
end
end
def reprX (ds : List D) (s : Sto) : Res D := match ds with
  | [x] => (match rdP s 99 x with
    | some p => if p.showable = true ∧ p.depth < 60 ∧ p.shown.length ≤ sizeLine then .ok (.str p.shown) s else .bad
    | none => .bad)
  | _ => .bad
def rReprX (K : Frag) : List V → Hp → VK → Prop := fun xs H Q => ∃ v d, xs = [v] ∧ Dq K H v d ∧ d.showable = true ∧ d.depth < 60 ∧ d.shown.length ≤ sizeLine ∧ Q (.str d.shown) H
section
variable {X : Cx} {W : WX}
theorem call_reprX (hS : SysD X.K) (hg : X.A.guards = some []) (hu : X.A.units + 64 < cLine) : CallR X (.builtin "repr") (rReprX X.K) := by
  intro pins s t H xs us Q I r h
  obtain ⟨v, d, rfl, dp, h1, h3, h4, q⟩ := h
  obtain ⟨u, rfl, ru⟩ := vals1 r
  obtain ⟨as, rd, nas⟩ := Dq.reads I hS dp ru
  have fin : ∀ (h' : Heap) (tk : Nat) (tq : Tok), (∀ b o, s.heap.get? b = some o → h'.get? b = some o) → EP X pins t Q (.str d.shown tq) { s with heap := h', toks := tk } := fun h' tk tq k => ⟨.str d.shown, H, I.kept k, ⟨_, rfl⟩, q⟩
  cases u with
  | ref p => exact repr_of_reads' rd h1 (fun _ => nas) hg (by omega) (fun _ _ e => e) (fun h' tq tk k => fin h' tk tq k) h4
  | none =>
    cases rd
    exact PySem.P.repr_of_none (fin s.heap _ _ fun _ _ e => e)
  | bool k =>
    cases rd
    have e : (PyData.bool k).shown = if k = true then Str.ofString "True" else Str.ofString "False" := by
      simp only [PyData.shown]
    rw [e] at fin
    exact PySem.P.repr_of_bool (fin s.heap _ _ fun _ _ e => e)
  | int i tk =>
    cases rd
    have e : (PyData.int i).shown = toString i := by
      simp only [PyData.shown]
    rw [e] at fin
    exact PySem.P.repr_of_int (by simpa [PyData.showable] using h1) (fin s.heap _ _ fun _ _ e => e)
  | str z tk =>
    cases rd
    have e : (PyData.str z).shown = reprText z := by
      simp only [PyData.shown]
    rw [e] at fin h4
    exact PySem.P.repr_of_str (fin s.heap _ _ fun _ _ e => e) h4
  | _ => nomatch rd
theorem v_reprX : VRC X.K (rReprX X.K) reprX := fun w s xs ds Q E st rs hp => by
  unfold reprX at hp
  cases rs with
  | nil => exact hp.elim
  | @cons v d vs ds h1 rs =>
    cases rs with
    | cons _ _ => exact hp.elim
    | nil =>
      dsimp only at hp
      cases e : rdP s 99 d with
      | none => rw [e] at hp; exact hp.elim
      | some p =>
        rw [e] at hp
        dsimp only at hp
        split at hp
        · rename_i hc
          exact ⟨v, p, rfl, rdP_ok st h1 e, hc.1, hc.2.1, hc.2.2, hp.pure st (.str _)⟩
        · exact hp.elim
/-- {} : a new cell -/
def disp0M : DE := fun _ s => .ok (.cel s.length) (s ++ [some (.dct [])])
theorem e_disp0 {pos : Pos} : PE X (.Dict [] [] pos) (tE X.K W disp0M) := PE.imp pe_dnewK fun t H Q h => by
  obtain ⟨r, s, w, rfl, env, st, hp⟩ := h
  intro p np
  have e := Wd.cell_ext st (o := .dK []) np
  exact hp (.ref p) (w.cell s.length p (.dK [])) e (Wd.cell_st st np ⟨[], upd_same, .nil⟩) (.cel (if_pos rfl))
end
abbrev ckSys : Frag → Bool := fun K => match K.lookup sysModules with
  | some o => decide (o.cls = .type "dict")
  | none => false
theorem Fx.sys {P : Program} {fb : List (Frag → Bool)} {fn : List DefM} {K : Frag} {mg : Str → Option Value} (Z : Fx P fb fn K mg) (i : Nat) (h : fb[i]? = some ckSys) : SysD K := by
  have f := Z.fact i h
  dsimp only [ckSys] at f
  cases e : K.lookup sysModules with
  | none => rw [e] at f; cases f
  | some o =>
    rw [e] at f
    exact ⟨o, e, of_decide_eq_true f⟩
end Mp
set_option Elab.async false
set_option linter.all false
set_option maxRecDepth 100000
set_option maxHeartbeats 4000000
/-! Mp: methods of lists and texts. -/
namespace Mp
open PySem PySem.Spec PyProof.Rows L2
def isLstD (s : Sto) (x : D) : Bool := (lstOf s x).isSome
def isStrD (_ : Sto) : D → Bool
  | .str _ => true
  | _ => false
/-- o.m(..), o of a built-in type -/
def bmD (ty : Sto → D → Bool) (f : D → List D → Sto → Res D) (o : DE) (a : DM (List D)) : DE := bindM o fun x => fun r s => if ty s x = true then bindM a (fun ds => fun _ s => f x ds s) r s else .bad
def TyOk (K : Frag) (T : String) (ty : Sto → D → Bool) : Prop := ∀ w s x d, StR K w s → Rep K w x d → ty s d = true → tyV K T x w.H
def VRM (K : Frag) (r : V → List V → Hp → VK → Prop) (f : D → List D → Sto → Res D) : Prop := ∀ w s x xs d ds Q E, StR K w s → Rep K w x d → Reps K w xs ds → Post K (Rep K) w E Q (f d ds s) → r x xs w.H Q
theorem ty_str {K : Frag} : TyOk K "str" isStrD := fun w s x d st r h => by
  cases r with
  | str z => rfl
  | _ => cases h
theorem ty_lst {K : Frag} : TyOk K "list" isLstD := fun w s x d st r h => by
  unfold isLstD at h
  cases e : lstOf s d with
  | none => rw [e] at h; cases h
  | some l =>
    obtain ⟨p, vs, rfl, hs, _⟩ := lstOf_ok st r e
    exact .inl ⟨rfl, vs, hs⟩
section
variable {X : Cx} {W : WX} {o e : Expr} {es : List Expr} {apos cpos : Pos} {mo : DE} {ma : DM (List D)} {T id : String} {name : Str} {r : V → List V → Hp → VK → Prop} {ty : Sto → D → Bool} {f : D → List D → Sto → Res D}
theorem e_bm (pa : PlainAttrs T) (slot : Slot T name id) (hty : typeOf (.builtin id) = pure (.type "method_descriptor")) (hm : MtR X id r) (hT : TyOk X.K T ty) (hv : VRM X.K r f) (ho : PE X o (tE X.K W mo)) (ha : PA X (e :: es) (tA X.K W ma))
    (hbase : attributeBase o name X.env (eval o X.env) = eval o X.env := by rfl)
    (hfew : ((backTo cpos (starEach (e :: es) X.env)).all (fun x => !x.1) && (backToKw cpos (keywordEach [] X.env)).all (fun x => x.1.isSome)
      && decide ((e :: es).length + ([] : List Keyword).length + (if ([] : List Keyword).isEmpty then 0 else 1) < 30)) = true := by rfl)
    (hline : (apos.endLine == cpos.line) = true := by rfl) (hs : starEach (e :: es) X.env = (false, eval e X.env) :: starEach es X.env := by rfl) (hplain : (backTo cpos (starEach es X.env)).any (·.1) = false := by rfl) :
    PE X (.Call (.Attribute o name apos) (e :: es) [] cpos) (tE X.K W (bmD ty f mo ma)) := PE.imp (pe_bm pa slot hty hm ho ha hbase hfew hline hs hplain) fun t H Q h => by
  obtain ⟨r, s, w, rfl, env, st, hp⟩ := h
  exact hp.bind env st fun x d s1 w1 e1 st1 r1 hp1 => by
    by_cases hk : ty s1 d = true
    · rw [if_pos hk] at hp1
      exact ⟨hT w1 s1 x d st1 r1 hk, hp1.bind (env.ext e1) st1 fun xs ds s2 w2 e2 st2 r2 hp2 => hv w2 s2 x xs d ds Q _ st2 (r1.ext e2) r2 hp2⟩
    · rw [if_neg hk] at hp1
      exact hp1.elim
end
/-! ### lists -/
theorem Reps.one {K : Frag} {w : Wd} {xs : List V} {d : D} (h : Reps K w xs [d]) : ∃ x, xs = [x] ∧ Rep K w x d := by
  cases h with
  | cons q r => cases r; exact ⟨_, rfl, q⟩
theorem cel_lst {K : Frag} {w : Wd} {s : Sto} {x : V} {n : Nat} {l : List D} (st : StR K w s) (r : Rep K w x (.cel n)) (h : s[n]? = some (some (.lst l))) : ∃ a vs, x = .ref a ∧ w.A n = some a ∧ ¬ w.Z a ∧ ¬ w.P a ∧ w.H a = some (.lst vs) ∧ Reps K w vs l := by
  cases r with
  | @cel n a0 hA =>
    obtain ⟨a1, h1, hz, hc⟩ := st.at_ n _ h
    have ea : a1 = a0 := Option.some.inj (h1.symm.trans hA)
    subst ea
    obtain ⟨vs, hh, rs⟩ := hc
    exact ⟨a1, vs, rfl, h1, hz, st.np n _ a1 h h1, hh, rs⟩
/-- a list in a cell is changed, something is told -/
theorem cel_set {K : Frag} {w : Wd} {s : Sto} {n : Nat} {l l2 : List D} {a : Addr} {vs2 : List V} {v : V} {d : D} {Q : VK} {E : XK} (st : StR K w s) (h : s[n]? = some (some (.lst l))) (hA : w.A n = some a) (hz : ¬ w.Z a) (hP : ¬ w.P a) (rs : Reps K w vs2 l2) (rv : Rep K w v d)
    (hp : Post K (Rep K) w E Q (.ok d (s.set n (some (.lst l2))))) : Q v (upd w.H a (.lst vs2)) := by
  have e3 : Ext w (w.put a (.lst vs2)) := Wd.mut_ext hz hP
  exact hp v (w.put a (.lst vs2)) e3 (Wd.mut_st st h hA hz ⟨_, upd_same, rs.ext e3⟩) (rv.ext e3)
theorem v_app {K : Frag} : VRM K rAppend appD := fun w s x xs d ds Q E st r rs hp => by
  unfold appD at hp
  split at hp
  · split at hp
    · split at hp
      · split at hp
        · rename_i _ n _ l h _ d2 hl
          obtain ⟨a, vs, rfl, hA, hz, hP, hh, rv⟩ := cel_lst st r h
          obtain ⟨y, rfl, ry⟩ := rs.one
          exact ⟨a, vs, y, rfl, rfl, hh, by rw [rv.length]; exact hl, cel_set st h hA hz hP (rv.append (.cons ry .nil)) .non hp⟩
        · exact hp.elim
      · exact hp.elim
    · exact hp.elim
  · exact hp.elim
theorem Reps.eraseIdx {K : Frag} {w : Wd} : ∀ {vs : List V} {ds : List D} (i : Nat), Reps K w vs ds → Reps K w (vs.eraseIdx i) (ds.eraseIdx i)
  | _, _, _, .nil => .nil
  | _, _, 0, .cons _ t => t
  | _, _, i + 1, .cons r t => .cons r (t.eraseIdx i)
/-- xs.pop(i) -/
@[irreducible] def popD (x : D) (ds : List D) (s : Sto) : Res D := match x with
  | .cel n => (match s[n]? with
    | some (some (.lst l)) => (match ds with
      | [.int i] => if -(2 ^ 63) ≤ i ∧ i < 2 ^ 63 then (match seqIndex? i l.length with
        | some k => (match l[k]? with
          | some d => .ok d (s.set n (some (.lst (l.eraseIdx k))))
          | none => .bad)
        | none => .bad) else .bad
      | _ => .bad)
    | _ => .bad)
  | _ => .bad
theorem v_pop {K : Frag} : VRM K rPopAt popD := fun w s x xs d ds Q E st r rs hp => by
  unfold popD at hp
  split at hp
  · split at hp
    · split at hp
      · split at hp
        · split at hp
          · split at hp
            · rename_i _ n _ l h _ i hi _ k hk _ d2 hd
              obtain ⟨a, vs, rfl, hA, hz, hP, hh, rv⟩ := cel_lst st r h
              obtain ⟨y, rfl, ry⟩ := rs.one
              cases ry
              obtain ⟨v, hv, rd⟩ := rv.get hd
              exact ⟨a, vs, i, k, v, rfl, rfl, hh, hi.1, hi.2, by rw [rv.length]; exact hk, hv, cel_set st h hA hz hP (rv.eraseIdx k) rd hp⟩
            · exact hp.elim
          · exact hp.elim
        · exact hp.elim
      · exact hp.elim
    · exact hp.elim
  · exact hp.elim
/-! ### texts -/
def strsOf : List D → Option (List Str)
  | [] => some []
  | .str z :: r => (strsOf r).map fun l => z :: l
  | _ :: _ => none
theorem strsOf_ok {K : Frag} {w : Wd} : ∀ {vs : List V} {ds : List D} {l : List Str}, Reps K w vs ds → strsOf ds = some l → vs = l.map V.str
  | _, _, _, .nil, h => by cases h; rfl
  | _, d :: ds, l, .cons r t, h => by
    cases r with
    | str z =>
      have h' : (strsOf ds).map (fun l => z :: l) = some l := h
      cases e : strsOf ds with
      | none => rw [e] at h'; cases h'
      | some l2 =>
        rw [e] at h'
        cases h'
        rw [strsOf_ok t e]
        rfl
    | _ => cases h
@[irreducible] def joinD (x : D) (ds : List D) (s : Sto) : Res D := match x with
  | .str a => (match ds with
    | [d] => (match lstOf s d with
      | some l => (match strsOf l with
        | some ys => if (ys.map (·.length)).sum + ys.length * a.length ≤ 16777216 then .ok (.str (Txt.join a ys)) s else .bad
        | none => .bad)
      | none => .bad)
    | _ => .bad)
  | _ => .bad
theorem v_join {K : Frag} : VRM K (fun x xs H Q => ∃ a p, ∃ ys : List Str, x = .str a ∧ xs = [.ref p] ∧ (SqL K H p (ys.map V.str) ∨ SqT K H p (ys.map V.str)) ∧
    (ys.map (·.length)).sum + ys.length * a.length ≤ 16777216 ∧ Q (.str (Txt.join a ys)) H) joinD := fun w s x xs d ds Q E st r rs hp => by
  unfold joinD at hp
  split at hp
  · split at hp
    · split at hp
      · split at hp
        · split at hp
          · rename_i _ a _ d2 _ l h _ ys hy hl
            cases r
            obtain ⟨y, rfl, ry⟩ := rs.one
            obtain ⟨p, vs, rfl, hs, rv⟩ := lstOf_ok st ry h
            have ev := strsOf_ok rv hy
            subst ev
            exact ⟨a, p, ys, rfl, rfl, .inl hs, hl, hp.pure st (.str _)⟩
          · exact hp.elim
        · exact hp.elim
      · exact hp.elim
    · exact hp.elim
  · exact hp.elim
end Mp
set_option Elab.async false
set_option linter.all false
set_option maxRecDepth 100000
set_option maxHeartbeats 4000000
/-! Mp: dict comprehensions. -/
namespace Mp
open PySem PySem.Spec PyProof.Rows L2
open Classical in
noncomputable def dcF (c : Src) (g : DG) (tt : DM Bool) (tk te : DE) (r : En) : List D → List (Key × D) → Sto → Res (List (Key × D))
  | [], acc, s => if SrcOk c s then .ok acc s else .bad
  | d :: l, acc, s => if SrcOk c s then (match g d r s with
    | none => .bad
    | some p => (match tt p.1 p.2 with
      | .ok k s1 => if k = true then (match tk p.1 s1 with
        | .ok y s2 => (match te p.1 s2 with
          | .ok z s3 => (match keyD y with
            | some q => if acc.length < sizeLine then dcF c g tt tk te r l (putA acc q z) s3 else .bad
            | none => .bad)
          | _ => .bad)
        | _ => .bad) else dcF c g tt tk te r l acc s1
      | _ => .bad)) else .bad
/-- {k: v for ..}: frozen at once -/
noncomputable def dcM (mi : DM Src) (g : DG) (tt : DM Bool) (tk te : DE) (vs : List Nat) : DE := bindM mi fun c => fun r s => match dcF c g tt tk te (wipeE r vs) c.its [] s with
  | .ok acc s' => .ok (.dct acc) s'
  | _ => .bad
theorem unpin_frz {K : Frag} {w0 w : Wd} {s : Sto} {p : Addr} {l : List (Key × V)} {m : List (Key × D)} (e : Ext w0 w) (st : StR K w s) (h1 : ¬ w0.P p) (hz : ¬ w0.Z p) (hP : w.P p) (kv : KVR K w l m) (o : Obj) :
    ∃ w2 : Wd, w2.H = upd w.H p (.frz o (.dK l)) ∧ Ext w0 w2 ∧ StR K w2 s ∧ Rep K w2 (.ref p) (.dct m) := by
  let w2 : Wd := ⟨w.A, fun a => w.Z a ∨ a = p, fun a => w.P a ∧ a ≠ p, upd w.H p (.frz o (.dK l))⟩
  have e0 : Ex0 w w2 := ⟨fun _ _ h => h, fun _ h => .inl h, fun a z => upd_ne fun q => (st.pz p hP).1 (q ▸ z)⟩
  refine ⟨w2, rfl, ⟨⟨e.A, fun a z => .inl (e.Z a z), fun a z => (show upd w.H p _ a = w.H a from upd_ne fun q => hz (q ▸ z)).trans (e.H a z)⟩, fun a z => ⟨e.P a z, fun q => h1 (q ▸ z)⟩, fun a z => (show upd w.H p _ a = w.H a from upd_ne fun q => h1 (q ▸ z)).trans (e.HP a z)⟩,
    ⟨fun n ct q => ?_, fun n ct a q ha z => st.np n ct a q ha z.1, fun a z => ⟨fun q => q.elim (st.pz a z.1).1 z.2, ?_⟩, st.inj, fun a z => ?_, st.new⟩, Rep.dctK (w := w2) (.inr rfl) upd_same (kv.ex0 e0)⟩
  · obtain ⟨a, k1, k2, k3⟩ := st.at_ n ct q
    have ne : a ≠ p := fun z => st.np n ct a q k1 (z ▸ hP)
    exact ⟨a, k1, k2.mono (w' := w2) fun (z : w.Z a ∨ a = p) => Or.elim z id fun z => absurd z ne, k3.sam0 e0 (upd_ne ne)⟩
  · rw [show w2.H a = w.H a from upd_ne z.2]
    exact (st.pz a z.1).2
  · show upd w.H p _ a ≠ none
    by_cases hb : a = p
    · rw [hb, upd_same]
      exact fun z => nomatch z
    · rw [upd_ne hb]
      exact st.fz a (Or.elim z id fun q => absurd q hb)
theorem dc_imp {K : Frag} {W : WX} {mi : DM Src} {g : DG} {tt : DM Bool} {tk te : DE} {ns : List Nat} {t : L2.St} {H : Hp} {Q : VK} (h : tE K W (dcM mi g tt tk te ns) t H Q) : tDc (tI K W mi) (tGw K g ns) (tT K W0 tt) (tE K W0 tk) (tE K W0 te) ns t H (fun v H1 => Q v H1 ∨ ∃ d u, v = .ref d ∧ H1 d = some u ∧ Mut (some u) ∧ ∀ od, Q v (upd H1 d (.frz od u))) := by
  obtain ⟨r, s, w, rfl, env, st, hp⟩ := h
  exact hp.bind env st fun J sc s1 w1 e1 st1 r1 hp1 => by
    obtain ⟨its, cl⟩ := sc
    intro Dn nD
    have hz : ¬ w1.Z Dn := fun z => st1.fz Dn z nD
    have hP : ¬ w1.P Dn := fun z => (st1.pz Dn z).2 nD
    have env1 := env.ext e1
    cases ef : dcF ⟨its, cl⟩ g tt tk te (wipeE r ns) its [] s1 with
    | exc C fs s' => simp only [ef] at hp1; exact hp1.elim
    | bad => simp only [ef] at hp1; exact hp1.elim
    | ok fin sf =>
      simp only [ef] at hp1
      refine ⟨fun i m H => i + m = its.length ∧ ∃ (w : Wd) (s : Sto) (acc : List (Key × D)) (vs : List (Key × V)), w.H = H ∧ Ext w1 w ∧ StR K w s ∧ w.P Dn ∧ w.H Dn = some (.dK vs) ∧ KVR K w vs acc ∧ dcF ⟨its, cl⟩ g tt tk te (wipeE r ns) (its.drop i) acc s = .ok fin sf,
        ⟨its.length, Nat.zero_add _, w1.pin Dn (.dK []), s1, [], [], rfl, Wd.pin_ext st1 nD, Wd.pin_st st1 nD, .inr rfl, upd_same, .nil, ef⟩, fun i m H h => ?_⟩
      obtain ⟨him, w2, s2, acc, vs, rfl, x2, st2, hP2, hh2, rs2, ef2⟩ := h
      cases m with
      | zero =>
        have hi : i = its.length := by omega
        subst hi
        rw [List.drop_length] at ef2
        unfold dcF at ef2
        by_cases ck : SrcOk ⟨its, cl⟩ s2
        · rw [if_pos ck] at ef2
          cases ef2
          refine .inl ⟨r1.stop w2 sf x2 st2 ck, .inr ⟨Dn, .dK vs, rfl, hh2, trivial, fun od => ?_⟩⟩
          obtain ⟨w9, h9, x9, st9, r9⟩ := unpin_frz x2 st2 hP hz hP2 rs2 od
          have z := hp1 (.ref Dn) w9 x9 st9 r9
          rw [h9] at z
          exact z
        · rw [if_neg ck] at ef2
          cases ef2
      | succ m =>
        have hlt : i < its.length := by omega
        have hd : its[i]? = some its[i] := List.getElem?_eq_getElem hlt
        rw [List.drop_eq_getElem_cons hlt] at ef2
        unfold dcF at ef2
        by_cases ck : SrcOk ⟨its, cl⟩ s2
        rotate_left
        · rw [if_neg ck] at ef2
          cases ef2
        rw [if_pos ck] at ef2
        obtain ⟨hgo, hy⟩ := r1.go i _ w2 s2 hd x2 st2 ck
        refine .inr ⟨hgo, fun H' => i + 1 + m = its.length ∧ ∃ (w : Wd) (s : Sto) (acc : List (Key × D)) (vs : List (Key × V)), w.H = H' ∧ Ext w1 w ∧ StR K w s ∧ w.P Dn ∧ w.H Dn = some (.dK vs) ∧ KVR K w vs acc ∧ dcF ⟨its, cl⟩ g tt tk te (wipeE r ns) (its.drop (i + 1)) acc s = .ok fin sf,
          fun H' q => ⟨m, Nat.lt_succ_self m, q⟩, fun x H' yl => ?_⟩
        obtain ⟨w3, x3, rfl, st3, rx⟩ := hy x H' yl
        refine ⟨wipeE r ns, s2, w3, its[i], rfl, (wipe_env env1 ns).ext (x2.trans x3), st3, rx, ?_⟩
        cases eg : g its[i] (wipeE r ns) s2 with
        | none => rw [eg] at ef2; cases ef2
        | some p =>
          rw [eg] at ef2
          dsimp only at ef2
          intro t4 w4 x4 env4 st4 wi4
          refine ⟨?_, ?_⟩
          · have ww : wipe (wipe t ns) ns = wipe t ns := by
              have key : ∀ ms : List Nat, (∀ j ∈ ms, j ∈ ns) → wipe (wipe t ms) ns = wipe t ns := by
                intro ms
                induction ms with
                | nil => intro _; rfl
                | cons j ms ih =>
                  intro hj
                  show wipe ((wipe t ms).set j none) ns = wipe t ns
                  rw [wipe_set (hj j List.mem_cons_self)]
                  exact ih fun q hq => hj q (List.mem_cons_of_mem _ hq)
              exact key ns fun j hj => hj
            rw [← ww]
            exact wi4
          · refine ⟨p.1, p.2, w4, rfl, env4, st4, ?_⟩
            cases et : tt p.1 p.2 with
            | exc C fs s' => rw [et] at ef2; cases ef2
            | bad => rw [et] at ef2; cases ef2
            | ok kk s5 =>
              rw [et] at ef2
              dsimp only at ef2
              intro b w5 x5 st5 eb
              subst eb
              have x25 := ((x2.trans x3).trans x4).trans x5
              have x5' := (x3.trans x4).trans x5
              cases b with
              | false => exact ⟨by omega, w5, s5, acc, vs, rfl, x25, st5, x5'.P Dn hP2, (x5'.HP Dn hP2).trans hh2, rs2.ext x5', ef2⟩
              | true =>
                refine ⟨p.1, s5, w5, rfl, env4.ext x5, st5, ?_⟩
                simp only [if_true] at ef2
                cases ek : tk p.1 s5 with
                | exc C fs s' => rw [ek] at ef2; cases ef2
                | bad => rw [ek] at ef2; cases ef2
                | ok yk s5k =>
                rw [ek] at ef2
                dsimp only at ef2
                intro vk wk xk stk rvk
                refine ⟨p.1, s5k, wk, rfl, (env4.ext x5).ext xk, stk, ?_⟩
                cases ee : te p.1 s5k with
                | exc C fs s' => rw [ee] at ef2; cases ef2
                | bad => rw [ee] at ef2; cases ef2
                | ok y s6 =>
                  rw [ee] at ef2
                  dsimp only at ef2
                  cases eq : keyD yk with
                  | none => rw [eq] at ef2; cases ef2
                  | some key =>
                  rw [eq] at ef2
                  dsimp only at ef2
                  by_cases hl : acc.length < sizeLine
                  rotate_left
                  · rw [if_neg hl] at ef2
                    cases ef2
                  rw [if_pos hl] at ef2
                  intro v w6 x6 st6 rv
                  have x6' := (x5'.trans xk).trans x6
                  have P6 := x6'.P Dn hP2
                  have H6 : w6.H Dn = some (.dK vs) := (x6'.HP Dn hP2).trans hh2
                  have e0 := Wd.turn_ex0 (o := .dK (L2.putK vs key v)) st6 P6
                  refine ⟨vs, key, keyD_ok rvk eq, H6, by rw [rs2.length]; exact hl, by omega, w6.put Dn (.dK (L2.putK vs key v)), s6, putA acc key y, L2.putK vs key v, rfl, Wd.turn_ext ((x25.trans xk).trans x6) hz hP, Wd.turn_st st6 P6, P6, upd_same, ?_, ef2⟩
                  exact ((rs2.ext x6').ex0 e0).putK (rv.ex0 e0)
section
variable {X : Cx} {W : WX} {kx vx tg iter : Expr} {ifs : List Expr} {scope : Scope} {own : List (Str × Nat)} {pos : Pos} {mi : DM Src} {g : DG} {tt : DM Bool} {tk te : DE}
theorem e_dc (hc : X.calm = true) (hN : X.N.Nodup) (hi : PI X tg iter (tI X.K W mi)) (ok : BlkOk X.N X.env.scope scope own)
    (hg : ∀ (s : Shared) (H : Hp) (C : Addr) (cl : List (Str × Addr)) (fp : List Addr), PG (X.blk s H scope (compEnvC scope cl C X.env) fp) tg (tGw X.K g (own.map (·.2))))
    (ht : ∀ (s : Shared) (H : Hp) (C : Addr) (cl : List (Str × Addr)) (fp : List Addr), PTs (X.blk s H scope (compEnvC scope cl C X.env) fp) ifs (tT X.K W0 tt))
    (hk : ∀ (s : Shared) (H : Hp) (C : Addr) (cl : List (Str × Addr)) (fp : List Addr), PE (X.blk s H scope (compEnvC scope cl C X.env) fp) kx (tE X.K W0 tk))
    (he : ∀ (s : Shared) (H : Hp) (C : Addr) (cl : List (Str × Addr)) (fp : List Addr), PE (X.blk s H scope (compEnvC scope cl C X.env) fp) vx (tE X.K W0 te)) (hs : ∀ x, foldedSetIterable iter X.env x = pure x := by intro _; rfl) :
    PE X (.DictComp kx vx [⟨tg, iter, ifs, 0⟩] scope pos) (tE X.K W (dcM mi g tt tk te (own.map (·.2)))) := PE.imp (pe_frz (pe_dc hc hN hi ok hg ht hk he hs)) fun t H Q h => dc_imp h
end
end Mp
set_option Elab.async false
set_option linter.all false
set_option maxRecDepth 100000
set_option maxHeartbeats 4000000
/-! Mp: sorted, dict(..). -/
namespace Mp
open PySem PySem.Spec PyProof.Rows L2
def leI2 (a b : Int) : Bool := decide (a ≤ b)
def leS (a b : Str) : Bool := !decide (b.cps.toList < a.cps.toList)
theorem leI2_uniq {a b : List Int} (h1 : a.Perm b) (h2 : a.Pairwise (· ≤ ·)) : a = b.mergeSort leI2 := by
  refine List.Perm.eq_of_pairwise (le := (· ≤ ·)) (fun x y _ _ h k => Int.le_antisymm h k) h2 ?_ (h1.trans (List.mergeSort_perm b leI2).symm)
  have q := List.pairwise_mergeSort (le := leI2) (fun a b c h k => by simp only [leI2, decide_eq_true_eq] at *; omega) (fun a b => by simp only [leI2, Bool.or_eq_true, decide_eq_true_eq]; omega) b
  exact q.imp fun h => of_decide_eq_true h
theorem leS_trans (a b c : Str) (h : leS a b = true) (k : leS b c = true) : leS a c = true := by
  simp only [leS, Bool.not_eq_true', decide_eq_false_iff_not] at *
  rw [List.not_lt] at *
  exact List.le_trans h k
theorem leS_total (a b : Str) : (leS a b || leS b a) = true := by
  simp only [leS, Bool.or_eq_true, Bool.not_eq_true', decide_eq_false_iff_not, List.not_lt]
  exact List.le_total _ _
theorem leS_anti (a b : Str) (h : leS a b = true) (k : leS b a = true) : a = b := by
  simp only [leS, Bool.not_eq_true', decide_eq_false_iff_not, List.not_lt] at *
  have := List.le_antisymm h k
  cases a; cases b
  congr
  exact Array.toList_inj.mp this
theorem rising_pw : ∀ (l : List Str) (x : Str), risingS x l = true → (x :: l).Pairwise fun a b => leS a b = true
  | [], x, _ => List.pairwise_singleton _ _
  | y :: l, x, h => by
    unfold risingS at h
    have h' := h
    simp only [Bool.and_eq_true] at h'
    have ih := rising_pw l y h'.2
    have xy : leS x y = true := by
      have q := h'.1
      rw [PyProof.Rows.ltCps_eq] at q
      exact q
    refine List.Pairwise.cons (fun z hz => ?_) ih
    rcases List.mem_cons.mp hz with rfl | hz
    · exact xy
    · exact leS_trans _ _ _ xy (List.rel_of_pairwise_cons ih hz)
theorem sortedS_uniq {a b : List Str} (h1 : a.Perm b) (h2 : sortedS a = true) : a = b.mergeSort leS := by
  refine List.Perm.eq_of_pairwise (le := fun a b => leS a b = true) (fun x y _ _ h k => leS_anti x y h k) ?_ (List.pairwise_mergeSort leS_trans leS_total b) (h1.trans (List.mergeSort_perm b leS).symm)
  cases a with
  | nil => exact .nil
  | cons x l => exact rising_pw l x h2
def keysS : List (Key × D) → Option (List Str)
  | [] => some []
  | (.inr z, _) :: r => (keysS r).map fun l => z :: l
  | _ :: _ => none
theorem keysS_ok {K : Frag} {w : Wd} : ∀ {kvs : List (Key × V)} {m : List (Key × D)} {l : List Str}, KVR K w kvs m → keysS m = some l → kvs.map (·.1) = l.map Sum.inr
  | _, _, _, .nil, h => by cases h; rfl
  | _, (.inr z, d) :: m, l, .cons r t, h => by
    have h' : (keysS m).map (fun l => z :: l) = some l := h
    cases e : keysS m with
    | none => rw [e] at h'; cases h'
    | some l2 =>
      rw [e] at h'
      cases h'
      rw [List.map_cons, List.map_cons, keysS_ok t e]
  | _, (.inl _, _) :: _, _, .cons _ _, h => by cases h
/-- sorted(d) of texts, sorted(xs) of ints or texts -/
@[irreducible] def sortedD (ds : List D) (s : Sto) : Res D := match ds with
  | [x] => (match dctOf s x with
    | some m => (match keysS m with
      | some ks => if ks.length < 64 then .ok (.lst ((ks.mergeSort leS).map .str)) s else .bad
      | none => .bad)
    | none => (match lstOf s x with
      | some l => (match intsOf l with
        | some ns => .ok (.lst ((ns.mergeSort leI2).map .int)) s
        | none => (match strsOf l with
          | some zs => if zs.length < 64 then .ok (.lst ((zs.mergeSort leS).map .str)) s else .bad
          | none => .bad))
      | none => .bad))
  | _ => .bad
theorem reps_strs {K : Frag} {w : Wd} : ∀ l : List Str, Reps K w (l.map V.str) (l.map D.str)
  | [] => .nil
  | z :: l => .cons (.str z) (reps_strs l)
theorem reps_ints {K : Frag} {w : Wd} : ∀ l : List Int, Reps K w (l.map V.int) (l.map D.int)
  | [] => .nil
  | z :: l => .cons (.int z) (reps_ints l)
section
variable {X : Cx}
abbrev rSrtAll (K : Frag) : List V → Hp → VK → Prop := fun xs H Q => (∃ (a : Addr) (kvs : List (Key × V)) (ks : List Str), xs = [.ref a] ∧ Rd H a (.dK kvs) ∧ kvs.map (·.1) = ks.map Sum.inr ∧ ks.length < 64 ∧
    ∀ ys p, ys.Perm ks → sortedS ys = true → H p = none → Q (.ref p) (upd H p (.lst (ys.map V.str)))) ∨ rSortedI K xs H Q ∨ rSortedS K xs H Q
theorem cr_sortedAll (hc : X.calm = true) : CallR X (.builtin "sorted") (rSrtAll X.K) := CallR.or (call_sortedD hc) (CallR.or cr_sortedI cr_sortedS)
theorem v_sorted : VRC X.K (rSrtAll X.K) sortedD := fun w s xs ds Q E st rs hp => by
  unfold sortedD at hp
  split at hp
  · obtain ⟨x, rfl, rx⟩ := rs.one
    split at hp
    · split at hp
      · split at hp
        · rename_i _ d _ m hm _ ks hk h64
          obtain ⟨p, l, rfl, hr, kv⟩ := dctOf_ok st rx hm
          refine .inl ⟨p, l, ks, rfl, hr, keysS_ok kv hk, h64, fun ys q h1 h2 np => ?_⟩
          rw [sortedS_uniq h1 h2]
          exact hp.frz st (fun q nq => rep_newL st (reps_strs _) nq) q np
        · exact hp.elim
      · exact hp.elim
    · split at hp
      · split at hp
        · rename_i _ d _ hm _ l hl _ ns hn
          obtain ⟨p, vs, rfl, hr, rv⟩ := lstOf_ok st rx hl
          have ev := intsOf_ok rv hn
          subst ev
          refine .inr (.inl ⟨p, ns, rfl, hr, fun ys q h1 h2 np => ?_⟩)
          rw [leI2_uniq h1 h2]
          exact hp.frz st (fun q nq => rep_newL st (reps_ints _) nq) q np
        · split at hp
          · split at hp
            · rename_i _ d _ hm _ l hl _ hn _ zs hz h64
              obtain ⟨p, vs, rfl, hr, rv⟩ := lstOf_ok st rx hl
              have ev := strsOf_ok rv hz
              subst ev
              refine .inr (.inr ⟨p, zs, rfl, hr, h64, fun ys q h1 h2 np => ?_⟩)
              rw [sortedS_uniq h1 h2]
              exact hp.frz st (fun q nq => rep_newL st (reps_strs _) nq) q np
            · exact hp.elim
          · exact hp.elim
      · exact hp.elim
  · exact hp.elim
end
end Mp
set_option Elab.async false
set_option linter.all false
set_option maxRecDepth 100000
set_option maxHeartbeats 1000000
/-! Mp: zip(*rows), rows a tuple of tuples of one length: at the library's level. -/
namespace ZN
open PySem RZ
open PySem.Sem (wp)
/-- iterators it, it + 1, .. over the tuples ls (below B), all at place k, with the items xs there -/
def Ready (h : Heap) (B k : Nat) : Nat → List Addr → List Value → Prop
  | _, [], xs => xs = []
  | it, l :: ls, xs => ∃ x xs', xs = x :: xs' ∧ h.IsTupleIter it l k ∧ @LT.lt Nat _ l B ∧ (∃ items, h.IsTuple l items ∧ items[k]? = some x) ∧ Ready h B k (it + 1) ls xs'
def After (h : Heap) (k : Nat) : Nat → List Addr → Prop
  | _, [] => True
  | it, l :: ls => h.IsTupleIter it l k ∧ After h k (it + 1) ls
theorem Ready.stay {B k : Nat} {h h' : Heap} : ∀ {ls : List Addr} {it : Nat} {xs : List Value}, (∀ (c : Nat) (o : Obj), (c < B ∨ it ≤ c ∧ c < it + ls.length) → h.get? c = some o → h'.get? c = some o) → Ready h B k it ls xs → Ready h' B k it ls xs
  | [], _, _, _, r => r
  | l :: ls, it, xs, k1, ⟨x, xs', e, h1, h2, ⟨items, ⟨o, ho, hr⟩, hx⟩, h4⟩ => ⟨x, xs', e, h1.at fun o q => k1 it o (.inr ⟨Nat.le_refl _, by simp⟩) q, h2, ⟨items, ⟨o, k1 l o (.inl h2) ho, hr⟩, hx⟩,
      Ready.stay (fun (c : Nat) (o : Obj) hc q => k1 c o (hc.imp id fun z => ⟨by omega, by simp only [List.length_cons]; omega⟩) q) h4⟩
theorem After.stay {k : Nat} {h h' : Heap} : ∀ {ls : List Addr} {it : Nat}, (∀ (c : Nat) (o : Obj), it ≤ c ∧ c < it + ls.length → h.get? c = some o → h'.get? c = some o) → After h k it ls → After h' k it ls
  | [], _, _, _ => trivial
  | l :: ls, it, k1, ⟨h1, h4⟩ => ⟨h1.at fun o q => k1 it o ⟨Nat.le_refl _, by simp⟩ q, After.stay (fun (c : Nat) (o : Obj) hc q => k1 c o ⟨by omega, by simp only [List.length_cons]; omega⟩ q) h4⟩
theorem After.get {k : Nat} {h : Heap} : ∀ {ls : List Addr} {it : Nat} {c : Nat}, After h k it ls → it ≤ c → c < it + ls.length → ∃ l, h.IsTupleIter c l k
  | [], it, c, _, h1, h2 => by simp at h2; omega
  | l :: ls, it, c, a, h1, h2 => by
    by_cases e : c = it
    · subst e; exact ⟨l, a.1⟩
    · exact a.2.get (by omega) (by simp only [List.length_cons] at h2; omega)
theorem Ready.after {B k : Nat} {h : Heap} : ∀ {ls : List Addr} {it : Nat} {xs : List Value}, Ready h B k it ls xs → After h k it ls
  | [], _, _, _ => trivial
  | _ :: _, _, _, ⟨_, _, _, h1, _, _, h4⟩ => ⟨h1, h4.after⟩
theorem Ready.length {B k : Nat} {h : Heap} : ∀ {ls : List Addr} {it : Nat} {xs : List Value}, Ready h B k it ls xs → xs.length = ls.length
  | [], _, _, r => by rw [show _ = [] from r]; rfl
  | _ :: _, _, _, ⟨_, _, e, _, _, _, h4⟩ => by rw [e, List.length_cons, List.length_cons, h4.length]
section
end
/-- the zip object: what it handed out last, whether it was held -/
def IsZ (h : Heap) (z TI TO : Nat) : Prop := ∃ (g0 : Value) (b : Bool), (g0 = .none ∨ ∃ T : Nat, g0 = rawInt T) ∧ h.get? z = some { cls := .type "zip", dict := none, data := .fields #[g0, .bool b, .bool false, .ref TI, .ref TO], slots := #[] }
theorem IsZ.at {h h' : Heap} {z TI TO : Nat} (x : IsZ h z TI TO) (e : ∀ o, h.get? z = some o → h'.get? z = some o) : IsZ h' z TI TO := let ⟨g, b, q, r⟩ := x; ⟨g, b, q, e _ r⟩
section
end
section
end
section
end
end ZN
set_option Elab.async false
set_option linter.all false
set_option maxRecDepth 100000
set_option maxHeartbeats 4000000
/-! Mp: zip(*rows). -/
namespace Mp
open PySem PySem.Spec PyProof.Rows L2
def colV (i : Nat) : List (List V) → Option (List V)
  | [] => some []
  | r :: rs => (match r[i]?, colV i rs with
    | some x, some xs => some (x :: xs)
    | _, _ => none)
/-! ### on data -/
inductive RowR (K : Frag) (w : Wd) : List Addr → List (List V) → List (List D) → Prop
  | nil : RowR K w [] [] []
  | cons {a : Addr} {vs : List V} {ds : List D} {as : List Addr} {vss : List (List V)} {dss : List (List D)} : TAt K w a vs → Reps K w vs ds → RowR K w as vss dss → RowR K w (a :: as) (vs :: vss) (ds :: dss)
theorem RowR.ext {K : Frag} {w w' : Wd} (e : Ext w w') : ∀ {ls : List Addr} {vss : List (List V)} {dss : List (List D)}, RowR K w ls vss dss → RowR K w' ls vss dss
  | _, _, _, .nil => .nil
  | _, _, _, .cons h r t => .cons (h.ext e) (r.ext e) (t.ext e)
theorem RowR.col {K : Frag} {w : Wd} {i : Nat} : ∀ {ls : List Addr} {vss : List (List V)} {dss : List (List D)}, RowR K w ls vss dss → (∀ r ∈ dss, i < r.length) → ∃ xs, colV i vss = some xs ∧ Reps K w xs (dss.map fun r => r.getD i .non)
  | _, _, _, .nil, _ => ⟨[], rfl, .nil⟩
  | _, _, _, .cons (vs := vs) (ds := ds) h r t, hi => by
    obtain ⟨xs, e, q⟩ := t.col fun r hr => hi r (List.mem_cons_of_mem _ hr)
    have hlt := hi ds List.mem_cons_self
    have hd : ds[i]? = some (ds.getD i .non) := by rw [List.getElem?_eq_getElem hlt, List.getD_eq_getElem?_getD, List.getElem?_eq_getElem hlt]; rfl
    obtain ⟨v, hv, rv⟩ := r.get hd
    refine ⟨v :: xs, ?_, .cons rv q⟩
    unfold colV
    rw [hv, e]
section
end
end Mp
set_option Elab.async false
set_option linter.all false
set_option maxRecDepth 100000
set_option maxHeartbeats 4000000
/-! Mp: isinstance of a tuple of classes, len of dicts, list(range(n)). -/
namespace Mp
open PySem PySem.Spec PyProof.Rows L2
section
end
section
/-! ### len -/
end
/-! ### list(range(n)) -/
@[irreducible] def listRgD (k : Bool) (ds : List D) (s : Sto) : Res D := match ds with
  | [.int n] => if 0 ≤ n ∧ n ≤ 16777216 then newL k (intL 0 n.toNat) s else .bad
  | _ => .bad
def listRgM (k : Bool) (a : DE) : DE := bindM a fun x => fun _ s => listRgD k [x] s
section
variable {X : Cx} {W : WX} {a : Expr} {p p2 pos pos2 : Pos} {ma : DE}
theorem e_listRg (k : Bool) (hc : X.calm = true) (hg : Gl X "list") (hm : X.mg "list" = none) (hg2 : Gl X "range") (hm2 : X.mg "range" = none) (ha : PE X a (tE X.K W ma)) (na : starEach [a] X.env = (false, eval a X.env) :: starEach [] X.env := by rfl) :
    PE X (.Call (.Name "list" p) [.Call (.Name "range" p2) [a] [] pos2] [] pos) (tE X.K W (listRgM k ma)) :=
  PE.imp (pe_listRg hc hg hm (prg_1 hg2 hm2 ha na)) fun t H Q h => by
    obtain ⟨r, s, w, rfl, env, st, hp⟩ := h
    exact hp.bind env st fun x d s1 w1 e1 st1 r1 hp1 => by
      unfold listRgD at hp1
      split at hp1
      · rename_i n hd
        cases hd
        split at hp1
        · rename_i hn
          cases r1
          refine ⟨n, rfl, RgOk.of_le (by omega) hn.2 (by omega) hn.1, ?_⟩
          have rr : ∀ m : Nat, Reps X.K w1 (rgV 0 (m : Nat)) (intL 0 m) := fun m => by
            unfold rgV intL
            rw [Int.sub_zero, Int.toNat_natCast]
            generalize List.range m = l
            induction l with
            | nil => exact .nil
            | cons i l ih => exact .cons (.int _) ih
          have e : n = ((n.toNat : Nat) : Int) := (Int.toNat_of_nonneg hn.1).symm
          have z := hp1.newL st1 (rr n.toNat)
          rw [← e] at z
          exact z
        · exact hp1.elim
      · exact hp1.elim
end
end Mp
set_option Elab.async false
set_option linter.all false
set_option maxRecDepth 100000
set_option maxHeartbeats 4000000
/-! Mp: lambdas without parameters, handed to a def. -/
namespace Mp
open PySem PySem.Spec PyProof.Rows L2
/-! ### a frame as data -/
/-! ### mirrors -/
/-! ### the lambda is made -/
/-- the heap behind: as it was, or with a new code object, told in the table -/
def LamStep (H : Hp) (P : Addr) (q : Str) (ps : Array Value) (pos : Pos) (c : Addr) (H1 : Hp) : Prop :=
  (H1 = H ∧ codeAmong pos ps.toList = some (.ref c)) ∨ (H c = none ∧ c ≠ P ∧ H1 = upd (upd H P (.tbl (ps ++ #[rawInt pos.line, rawInt pos.col, .ref c]))) c (LamX.CodeO c q))
abbrev lamO (X : Cx) (params : Arguments) (body : Expr) (scope : Scope) (pm : Value) (c : Addr) (ctv : Value) : Obj := PySem.W.kla_obj "<lambda>" (X.env.qual ++ "<lambda>") params body scope (cloFrom X.env.cells scope.names []) pm c ctv
section
end
/-- .. in the world -/
theorem lam_world {K : Frag} {w : Wd} {so : Sto} {i : Nat} {x : Str} {P c : Addr} {ps : Array Value} {pos : Pos} {H1 : Hp} (st : StR K w so) (hi : so[i]? = some (some (.tab x))) (hA : w.A i = some P) (hz : ¬ w.Z P) (eP : P = tabA K x) (hP : w.H P = some (.tbl ps)) (ht : TriplesOk ps.toList)
    (ha : ∀ (p : Pos) (cv : Value), codeAmong p ps.toList = some cv → ∃ c, cv = .ref c ∧ w.Z c ∧ w.H c = some (LamX.CodeO c (lamQ x))) (h : LamStep w.H P (lamQ x) ps pos c H1) : ∃ w1 : Wd, w1.H = H1 ∧ Ext w w1 ∧ StR K w1 so ∧ w1.Z c ∧ w1.H c = some (LamX.CodeO c (lamQ x)) := by
  rcases h with ⟨rfl, hc⟩ | ⟨nC, nP, rfl⟩
  · obtain ⟨c2, e, z, hh⟩ := ha pos _ hc
    cases e
    exact ⟨w, rfl, Ext.refl w, st, z, hh⟩
  · let w1 : Wd := ⟨w.A, fun a => w.Z a ∨ a = c, w.P, upd (upd w.H P (.tbl (ps ++ #[rawInt pos.line, rawInt pos.col, .ref c]))) c (LamX.CodeO c (lamQ x))⟩
    have hne : ∀ b, w.H b ≠ none → b ≠ c := fun b hb z => hb (z ▸ nC)
    have keepB : ∀ b, b ≠ P → w.H b ≠ none → w1.H b = w.H b := fun b h1 h2 => by
      show upd (upd w.H P _) c _ b = _
      rw [upd_ne (hne b h2), upd_ne h1]
    have e : Ext w w1 := ⟨⟨fun _ _ h => h, fun _ h => .inl h, fun a z => keepB a (fun q => hz (q ▸ z)) (st.fz a z)⟩, fun _ h => h, fun a z => keepB a (fun q => st.np i _ P hi hA (q ▸ z)) (st.pz a z).2⟩
    have hPne : w.H P ≠ none := by rw [hP]; exact fun z => nomatch z
    refine ⟨w1, rfl, e, ⟨fun m ct q => ?_, st.np, fun a z => ⟨fun q => Or.elim q (st.pz a z).1 fun q2 => hne a (st.pz a z).2 q2, ?_⟩, st.inj, fun a z => ?_, st.new⟩, .inr rfl, upd_same⟩
    · obtain ⟨a, k1, k2, k3⟩ := st.at_ m ct q
      obtain ⟨ob, ho, _⟩ := k3.some
      have hac : a ≠ c := hne a (by rw [ho]; exact fun z => nomatch z)
      have nz : NZ w1 a ct := k2.mono (w' := w1) fun (z : w.Z a ∨ a = c) => Or.elim z id fun q2 => absurd q2 hac
      by_cases hm : m = i
      · subst hm
        have e2 : a = P := Option.some.inj (k1.symm.trans hA)
        subst e2
        rw [hi] at q
        cases q
        refine ⟨a, k1, nz, eP, ps ++ #[rawInt pos.line, rawInt pos.col, .ref c], ?_, ?_, fun p cv hcv => ?_⟩
        · show upd (upd w.H a _) c _ a = _
          rw [upd_ne (Ne.symm nP), upd_same]
        · have eL : (ps ++ #[rawInt pos.line, rawInt pos.col, .ref c]).toList = ps.toList ++ [rawInt pos.line, rawInt pos.col, .ref c] := by simp
          rw [eL]
          exact PySem.TriplesOk_snoc _ _ _ _ ht
        · have eL : (ps ++ #[rawInt pos.line, rawInt pos.col, .ref c]).toList = ps.toList ++ [rawInt pos.line, rawInt pos.col, .ref c] := by simp
          rw [eL] at hcv
          rcases LamX.among_app _ ht hcv with z | z
          · obtain ⟨c0, q1, q2, q3⟩ := ha p cv z
            exact ⟨c0, q1, .inl q2, (e.H c0 q2).trans q3⟩
          · exact ⟨c, z, .inr rfl, upd_same⟩
      · have hap : a ≠ P := fun z => hm (st.inj m i P ct _ q hi (z ▸ k1) hA)
        exact ⟨a, k1, nz, k3.same e (keepB a hap (by rw [ho]; exact fun z => nomatch z))⟩
    · rw [keepB a (fun q => st.np i _ P hi hA (q ▸ z)) (st.pz a z).2]
      exact (st.pz a z).2
    · rcases z with z | z
      · rw [keepB a (fun q => hz (q ▸ z)) (st.fz a z)]
        exact st.fz a z
      · rw [z]
        show upd _ c _ c ≠ none
        rw [upd_same]
        exact fun z => nomatch z
/-! ### it is called -/
section
variable {X : Cx} {pins : List (Addr × Obj)} {t : L2.St} {H : Hp} {s : Shared}
/-- a def that gets a lambda: its text for any reading of the call -/
def LamD (P : Program) (w : World) (K : Frag) (mg : Str → Option Value) (base : Heap) (N : List Str) (x : Str) (sg : Scope) (g : Addr) (k : Nat) (bg : List Stmt) (a : Str) (b : DE → DS) : Prop :=
  ∀ (cdv : Value) (A : Around) (outer : List Env) (s : Shared) (H : Hp) (th : DE), Rm k (A.deeper (envOfC x sg s.heap.objs.size g cdv)) →
    (∀ (pn : List (Addr × Obj)) (xe : Value → Shared → Prop) (W : WX) (p1 p2 : Pos), Takes ((cxOf C8.CX0 P w K mg base N x sg g cdv A outer s H C8.E0).tr pn xe) W → PE ((cxOf C8.CX0 P w K mg base N x sg g cdv A outer s H C8.E0).tr pn xe) (.Call (.Name a p1) [] [] p2) (tE K W th)) →
    PSs (cxOf C8.CX0 P w K mg base N x sg g cdv A outer s H C8.E0).nox bg (tS K W0 (b th))
end
end Mp
set_option Elab.async false
set_option linter.all false
set_option maxRecDepth 100000
set_option maxHeartbeats 4000000
/-! Mp: the head and the end of a law in which lambdas are made. -/
namespace Mp
open PySem PySem.Spec PyProof.Rows L2
/-! ### the head -/
def tabO : Obj := { cls := .none, data := .fields #[] }
def isNoneV : Value → Bool
  | .none => true
  | _ => false
def isNil : Data → Bool
  | .fields vs => vs.isEmpty
  | _ => false
theorem isNoneV_ok {v : Value} (h : isNoneV v = true) : v = .none := by
  cases v <;> first | rfl | cases h
theorem isNil_ok {d : Data} (h : isNil d = true) : d = .fields #[] := by
  cases d with
  | fields vs =>
    have e : vs = #[] := by
      have h : vs.isEmpty = true := h
      simpa using h
    rw [e]
  | _ => cases h
def noTab (o : Obj) : Bool := !(isNoneV o.cls && isNil o.data)
def isTabB : Option Obj → Bool
  | some o => isNoneV o.cls && (o.dict.isNone && (isNil o.data && o.slots.isEmpty))
  | none => false
theorem isTabB_ok {o : Option Obj} (h : isTabB o = true) : o = some tabO := by
  cases o with
  | none => cases h
  | some o =>
    obtain ⟨h1, h2⟩ := He.ba h
    obtain ⟨h3, h4⟩ := He.ba h2
    obtain ⟨h5, h6⟩ := He.ba h4
    obtain ⟨oc, od, dt, sl⟩ := o
    have e1 : oc = .none := isNoneV_ok h1
    have e2 : od = none := by simpa using h3
    have e3 : dt = .fields #[] := isNil_ok h5
    have e4 : sl = #[] := by simpa using h6
    rw [e1, e2, e3, e4]
    rfl
def frM (g : Addr → Option Obj) (as : List Addr) : Frag := as.filterMap fun a => (g a).bind fun o => if noTab o = true then some (a, o) else none
theorem frM_at {g : Addr → Option Obj} {a : Addr} {o : Obj} : ∀ as : List Addr, (frM g as).lookup a = some o → g a = some o
  | [], e => nomatch (show (none : Option Obj) = some o from e)
  | b :: r, e => by
    unfold frM at e
    rw [List.filterMap_cons] at e
    cases hb : g b with
    | none =>
      rw [hb] at e
      exact frM_at r e
    | some o2 =>
      rw [hb] at e
      by_cases hn : noTab o2 = true
      · simp only [Option.bind_some, if_pos hn, List.lookup_cons] at e
        split at e
        · rename_i hk
          have ek := eq_of_beq hk
          cases e
          rw [ek]
          exact hb
        · exact frM_at r e
      · simp only [Option.bind_some, if_neg hn] at e
        exact frM_at r e
theorem frM_in {h : Heap} {as : List Addr} : PySem.W.Frag.In (frM h.get? as) h := fun a o e => frM_at as e
def isStrV : Value → Bool
  | .str _ _ => true
  | _ => false
def isIntV : Value → Bool
  | .int _ _ => true
  | _ => false
def isBoolV : Value → Bool
  | .bool _ => true
  | _ => false
def isCodeV : Value → Bool
  | .type ty => decide (ty = "code")
  | _ => false
theorem isStrV_ok {v : Value} (h : isStrV v = true) : ∃ a b, v = .str a b := by
  cases v <;> first | exact ⟨_, _, rfl⟩ | cases h
theorem isIntV_ok {v : Value} (h : isIntV v = true) : ∃ a b, v = .int a b := by
  cases v <;> first | exact ⟨_, _, rfl⟩ | cases h
theorem isBoolV_ok {v : Value} (h : isBoolV v = true) : ∃ a, v = .bool a := by
  cases v <;> first | exact ⟨_, rfl⟩ | cases h
theorem isCodeV_ok {v : Value} (h : isCodeV v = true) : v = .type "code" := by
  cases v with
  | type ty =>
    have e : ty = "code" := of_decide_eq_true h
    rw [e]
  | _ => cases h
/-- the code object of x and its table, as the making of a lambda asks -/
def codeB (K : Frag) (x : Str) : Bool := match codeV K x with
  | .ref c => (match K.lookup c with
    | some ⟨oc, _, .fields vs, _⟩ => isCodeV oc && ((match (vs[11]? : Option Value) with
      | some (.ref P) => !decide (c = P)
      | _ => false) && (isStrV (vs.getD 18 .none) && (isIntV (vs.getD 7 .none) && (isBoolV (vs.getD 9 .none) && isIntV (vs.getD 10 .none)))))
    | _ => false)
  | _ => false
theorem codeB_ok {K : Frag} {x : Str} {h : Heap} (KX : K.In h) (e : codeB K x = true) : codeV K x = .ref (codeA K x) ∧ PySem.W.CodeHd h (codeA K x) (tabA K x) := by
  unfold codeB at e
  split at e
  · rename_i c hc
    have ec : codeA K x = c := by unfold codeA; rw [hc]
    split at e
    · rename_i oc d vs sl hk
      obtain ⟨h1, h2⟩ := He.ba e
      obtain ⟨h3, h4⟩ := He.ba h2
      obtain ⟨h5, h6⟩ := He.ba h4
      obtain ⟨h7, h8⟩ := He.ba h6
      obtain ⟨h9, h10⟩ := He.ba h8
      have e1 := isCodeV_ok h1
      subst e1
      obtain ⟨a1, a2, g1⟩ := isStrV_ok h5
      obtain ⟨a3, a4, g2⟩ := isIntV_ok h7
      obtain ⟨a5, g3⟩ := isBoolV_ok h9
      obtain ⟨a6, a7, g4⟩ := isIntV_ok h10
      split at h3
      · rename_i P hP
        have eT : tabA K x = P := by
          unfold tabA
          rw [ec, hk]
          dsimp only
          rw [hP]
        rw [ec, eT]
        refine ⟨hc, _, vs, a1, a2, a3, a4, a5, a6, a7, KX c _ hk, rfl, rfl, hP, ?_, g1, g2, g3, g4, ?_⟩
        · rw [Array.getD_eq_getD_getElem?, hP]
          rfl
        · exact of_decide_eq_false (by simpa using h3)
      · cases h3
    · cases e
  · cases e
def tabsB (g : Addr → Option Obj) (K : Frag) (tl : List Str) : Bool := (tl.all fun x => codeB K x && (isTabB (g (tabA K x)) && (K.lookup (tabA K x)).isNone)) && decide ((tl.map (tabA K)).Nodup)
def TabSays (K : Frag) (h : Heap) (tl : List Str) : Prop := (∀ x ∈ tl, codeB K x = true ∧ h.get? (tabA K x) = some tabO ∧ K.lookup (tabA K x) = none) ∧ (tl.map (tabA K)).Nodup
abbrev AlT : Type := Bool × AlM
def obsTG (n : Nat) (file : Str) (fb : List (Frag → Bool)) (fn : List DefM) (tl : List Str) (g : Addr → Option Obj) : AlT := (tabsB g (frM g (asM g n)) tl, obsM file fb fn (frM g (asM g n)))
def hookT (n : Nat) (file : Str) (fb : List (Frag → Bool)) (fn : List DefM) (tl : List Str) : PySem.W.Hook where
  α := AlT
  obs := fun s => obsTG n file fb fn tl s.heap.get?
  val := fun _ => (true, valM fn)
  says := fun _ h => ∃ K : Frag, K.In h ∧ SaysM file fb fn K ∧ TabSays K h tl
  of := fun _ s e => by
    have e1 : tabsB s.heap.get? (frM s.heap.get? (asM s.heap.get? n)) tl = true := congrArg (fun z : AlT => z.1) e
    have e2 : obsM file fb fn (frM s.heap.get? (asM s.heap.get? n)) = valM fn := congrArg (fun z : AlT => z.2) e
    obtain ⟨t1, t2⟩ := He.ba e1
    refine ⟨_, frM_in, e2, fun x hx => ?_, of_decide_eq_true t2⟩
    obtain ⟨q1, q2⟩ := He.ba (List.all_eq_true.mp t1 x hx)
    obtain ⟨q3, q4⟩ := He.ba q2
    exact ⟨q1, isTabB_ok q3, by simpa using q4⟩
  keeps := fun _ _ _ ⟨K, hK, c, t⟩ k => ⟨K, PySem.W.Frag.In.keeps hK k, c, fun x hx => ⟨(t.1 x hx).1, k _ _ (t.1 x hx).2.1, (t.1 x hx).2.2⟩, t.2⟩
theorem obsTG_eq {n : Nat} {file : Str} {fb : List (Frag → Bool)} {fn : List DefM} {tl : List Str} {g : Addr → Option Obj} {s : Shared} (h : ∀ a, g a = s.heap.get? a) : obsTG n file fb fn tl g = (hookT n file fb fn tl).obs s := by
  have e : g = s.heap.get? := funext h
  rw [e]
  rfl
/-- what a law's defs may lean on where lambdas are made -/
abbrev Tbs (K : Frag) (mg : Str → Option Value) (base : Heap) (tl : List Str) : Prop := ∀ x ∈ tl, LamX.TabB base mg (codeA K x) (tabA K x) ∧ codeV K x = .ref (codeA K x)
/-! ### the end -/
def s0T (tl : List Str) : Sto := tl.map fun x => some (.tab x)
section
variable {P : Program} {w : World} {K : Frag} {mg mb : Str → Option Value} {k : Nat} {fa a : Addr} {s₁ : Shared} {vs : List Value} {ns : List Int} {m : DF} {tl : List Str}
theorem st_tabs {H : Hp} {a : Addr} (hH : ∀ x ∈ tl, H (tabA K x) = some (.tbl #[])) (nd : (tl.map (tabA K)).Nodup) : StR K ⟨fun n => (tl[n]?).map (tabA K), fun b => H b ≠ none ∧ b ∉ tl.map (tabA K), fun _ => False, H⟩ (s0T tl) := by
  have at0 : ∀ n ct, (s0T tl)[n]? = some (some ct) → ∃ x, tl[n]? = some x ∧ ct = Ct.tab x := fun n ct q => by
    unfold s0T at q
    rw [List.getElem?_map] at q
    cases e : tl[n]? with
    | none => rw [e] at q; cases q
    | some x => rw [e] at q; cases q; exact ⟨x, e, rfl⟩
  refine ⟨fun n ct q => ?_, fun _ _ _ _ _ z => z, fun _ z => z.elim, fun n m b c d q1 q2 h1 h2 => ?_, fun b z => z.1, fun n hn => ?_⟩
  · obtain ⟨x, e, rfl⟩ := at0 n ct q
    have hx : x ∈ tl := List.mem_of_getElem? e
    have nz : ¬ (H (tabA K x) ≠ none ∧ tabA K x ∉ tl.map (tabA K)) := fun z => z.2 (List.mem_map_of_mem hx)
    refine ⟨tabA K x, by show (tl[n]?).map (tabA K) = _; rw [e]; rfl, nz, rfl, #[], hH x hx, trivial, fun pos cv hc => ?_⟩
    have z : codeAmong pos [] = some cv := hc
    simp [codeAmong] at z
  · obtain ⟨x, e1, rfl⟩ := at0 n c q1
    obtain ⟨y, e2, rfl⟩ := at0 m d q2
    have g1 : (tl.map (tabA K))[n]? = some b := by rw [List.getElem?_map]; exact h1
    have g2 : (tl.map (tabA K))[m]? = some b := by rw [List.getElem?_map]; exact h2
    obtain ⟨l1, f1⟩ := List.getElem?_eq_some_iff.mp g1
    obtain ⟨l2, f2⟩ := List.getElem?_eq_some_iff.mp g2
    have pw := List.pairwise_iff_getElem.mp nd
    rcases Nat.lt_trichotomy n m with z | z | z
    · exact absurd (f1.trans f2.symm) (pw n m l1 l2 z)
    · exact z
    · exact absurd (f2.trans f1.symm) (pw m n l2 l1 z)
  · have e : tl[n]? = none := List.getElem?_eq_none (by unfold s0T at hn; rw [List.length_map] at hn; exact hn)
    show (tl[n]?).map (tabA K) = none
    rw [e]
    rfl
theorem law_coreT (KX : K.In s₁.heap) (hns : s₁.heap.Ns mainGlobals mg) (hb : s₁.heap.Ns builtinsNs mb) (hbb : ∀ x : Str, x ≠ "__name__" → mb x = bootBuiltins x) (hlim : s₁.heap.NoLimit) (hg : s₁.gens = #[])
    (hbm : ∃ (bm : Addr) (ob : Obj), mg "__builtins__" = some (.ref bm) ∧ bm ≠ builtinsNs ∧ s₁.heap.get? bm = some ob ∧ ob.cls = .type "module" ∧ ob.dict = some builtinsNs ∧ ob.data = .plain)
    (ha : s₁.heap.get? a = some { cls := .type "list", data := .seq vs.toArray }) (T : TabSays K s₁.heap tl) (hr : Rm k callerA) (F : ∀ base : Heap, K.In base → base.Ns mainGlobals mg → Tbs K mg base tl → FnD P w K mg base k fa m) (hm : ∃ s', m [.rol (ns.map .int)] (s0T tl) = .ok (.bl true) s')
    (H : Hp) (hH : ∀ x ∈ tl, H (tabA K x) = some (.tbl #[])) (hO : ∀ b, H b = none ∨ b ∈ tl.map (tabA K) ∨ ∃ o xs, H b = some (.frz o (.lst xs))) (hS : SqL K H a (ns.map V.int)) (hok : HOk P w H s₁.heap) (hA : ∀ b, H b ≠ none → b = a ∨ b ∈ tl.map (tabA K)) (hK : H a ≠ none → K.lookup a = none) :
    codeAny (model P w) callerA (.call (.ref fa) ⟨[.ref a], []⟩) (LawEnd s₁) s₁ := by
  have atT : ∀ b, b ∈ tl.map (tabA K) → ∃ x ∈ tl, b = tabA K x ∧ s₁.heap.get? b = some tabO := fun b hb => by
    obtain ⟨x, hx, e⟩ := List.mem_map.mp hb
    exact ⟨x, hx, e.symm, e ▸ (T.1 x hx).2.1⟩
  have aT : a ∉ tl.map (tabA K) := fun z => by
    obtain ⟨x, hx, _, q⟩ := atT a z
    rw [ha] at q
    have z2 : Data.seq vs.toArray _ = Data.fields #[] := congrArg Obj.data (Option.some.inj q)
    cases z2
  have off : ∀ {b : Addr} {o : Obj}, s₁.heap.get? b = some o → (∀ u n, o.data ≠ .seq u n) → o.data ≠ .fields #[] → H b = none := fun {b o} e d1 d2 => by
    by_cases q : H b = none
    · exact q
    · rcases hA b q with z | z
      · subst z
        rw [ha] at e
        cases e
        exact absurd rfl (d1 _ _)
      · obtain ⟨x, hx, _, q2⟩ := atT b z
        rw [q2] at e
        cases e
        exact absurd rfl d2
  have nsH : ∀ {b : Addr} {f : Str → Option Value}, s₁.heap.Ns b f → (hidT s₁.heap H).Ns b f := fun ⟨o, es, ep, e, d, r⟩ => ⟨o, es, ep, hidT_get e (off e (by rw [d]; exact fun _ _ z => nomatch z) (by rw [d]; exact fun z => nomatch z)), d, r⟩
  have KH : K.In (hidT s₁.heap H) := fun b o e => hidT_get (KX b o e) (by
    by_cases q : H b = none
    · exact q
    · rcases hA b q with z | z
      · subst z
        rw [hK q] at e
        cases e
      · obtain ⟨x, hx, rfl, _⟩ := atT b z
        rw [(T.1 x hx).2.2] at e
        cases e)
  have M0 : Mod K mg (hidT s₁.heap H) := ⟨KH, nsH hns, ⟨mb, nsH hb, hbb⟩, hlim.elim fun mc z => ⟨mc, nsH z.1, z.2⟩⟩
  have E0 : Env0 P w K mg (hidT s₁.heap H) callerA [] s₁ H := ⟨rfl, M0, fun b o e => of_hidT e, Nat.le_of_eq (hidT_size _ _), trivial, fun b z => absurd (show b ∈ ([] : List Addr) from z) (by simp), hok, .of_eq hg⟩
  have TB : Tbs K mg (hidT s₁.heap H) tl := fun x hx => by
    obtain ⟨cB, gT, nT⟩ := T.1 x hx
    obtain ⟨c1, o, us, file, tf, flags, tg, inF, text, tt, q1, r1, r2, r3, r4, r5, r6, r7, r8, hne⟩ := codeB_ok KX cB
    refine ⟨⟨⟨o, us, file, tf, flags, tg, inF, text, tt, hidT_get q1 (off q1 (by rw [r2]; exact fun _ _ z => nomatch z) fun z => ?_), r1, r2, r3, r4, r5, r6, r7, r8, hne⟩, ?_, fun z => ?_⟩, c1⟩
    · rw [r2] at z
      cases z
      simp at r3
    · obtain ⟨bm, ob, b1, b2, b3, b4, b5, b6⟩ := hbm
      refine ⟨bm, ob, b1, b2, fun q => ?_, fun q => ?_, hidT_get b3 (off b3 (by rw [b6]; exact fun _ _ z => nomatch z) (by rw [b6]; exact fun z => nomatch z)), b4, b5, b6⟩
      · obtain ⟨o2, es, ep, e, hd, _⟩ := hns
        rw [q, e] at b3
        cases b3
        rw [hd] at b6
        cases b6
      · rw [q, gT] at b3
        cases b3
        cases b6
    · obtain ⟨o2, es, ep, e, hd, _⟩ := hns
      rw [z, gT] at e
      cases e
      cases hd
  obtain ⟨s', hm⟩ := hm
  have hsp : spD K m [.ref a] H (fun v _ => v = .bl true) fun _ _ _ => False := by
    refine ⟨[.rol (ns.map .int)], s0T tl, ⟨fun n => (tl[n]?).map (tabA K), fun b => H b ≠ none ∧ b ∉ tl.map (tabA K), fun _ => False, H⟩, rfl, .cons (.rol (hS.elim (fun z => .inl ⟨⟨?_, aT⟩, z⟩) .inr) ?_) .nil, st_tabs (a := a) hH T.2, ?_⟩
    · rcases z with z | ⟨o, z⟩ <;> exact fun e => by rw [e] at z; cases z
    · clear hm hS
      induction ns with
      | nil => exact .nil
      | cons i r ih => exact .cons (.int i) ih
    · rw [hm]
      intro v w' _ _ rv
      cases rv
      rfl
  refine codeAny_mono (F _ KH (nsH hns) TB callerA [] s₁ H [.ref a] [.ref a] _ _ hr E0 (.cons rfl .nil) hsp) fun r s' h => ?_
  cases r with
  | error e =>
    obtain ⟨_, _, _, _, _, _, _, _, _, _, _, _, z⟩ := h
    exact z.elim
  | ok fl =>
    cases fl with
    | ret u =>
      obtain ⟨v, H', os, bare, un, hok', r', q⟩ := h
      obtain rfl : v = .bl true := q
      obtain rfl : u = Value.bool true := r'
      have same : ∀ (b : Addr) (o : Obj), b ∉ tl.map (tabA K) → s₁.heap.get? b = some o → s'.heap.get? b = some o := fun b o nb e => by
        rcases hO b with z | z | ⟨ob, xs, z⟩
        · exact un.keep b o e z (fun y => absurd (show b ∈ ([] : List Addr) from y) (by simp)) (by simp)
        · exact absurd z nb
        · have e1 := (hok b _ z).1
          have e2 := (hok' b _ (un.frzs b ob _ z)).1
          rw [e] at e1
          cases e1
          exact e2
      have more : ∀ x ∈ tl, ∃ ys : Array Value, s'.heap.get? (tabA K x) = some { cls := .none, data := .fields ys } := fun x hx => by
        obtain ⟨ys, z⟩ := un.tbls (tabA K x) #[] (hH x hx)
        exact ⟨_, hok' _ _ z⟩
      refine ⟨rfl, ⟨fun b o e => ?_, fun b o e => ?_⟩, os, bare⟩
      · by_cases hb : b ∈ tl.map (tabA K)
        · obtain ⟨x, hx, rfl, gT⟩ := atT b hb
          obtain ⟨ys, hy⟩ := more x hx
          rw [gT] at e
          cases e
          have C := (codeB_ok KX (T.1 x hx).1).2
          exact .inr (.inl ⟨(C.tab gT).isCodeTable, rfl, #[], ys, rfl, by rw [Array.empty_append]; exact hy⟩)
        · exact .inl (same b o hb e)
      · by_cases hb : b ∈ tl.map (tabA K)
        · obtain ⟨x, hx, rfl, _⟩ := atT b hb
          obtain ⟨ys, hy⟩ := more x hx
          exact ⟨_, hy⟩
        · exact ⟨o, same b o hb e⟩
    | _ => exact h.elim
theorem law_endT (KX : K.In s₁.heap) (hns : s₁.heap.Ns mainGlobals mg) (hb : s₁.heap.Ns builtinsNs mb) (hbb : ∀ x : Str, x ≠ "__name__" → mb x = bootBuiltins x) (hlim : s₁.heap.NoLimit) (hg : s₁.gens = #[])
    (hbm : ∃ (bm : Addr) (ob : Obj), mg "__builtins__" = some (.ref bm) ∧ bm ≠ builtinsNs ∧ s₁.heap.get? bm = some ob ∧ ob.cls = .type "module" ∧ ob.dict = some builtinsNs ∧ ob.data = .plain)
    (ha : s₁.heap.get? a = some { cls := .type "list", data := .seq vs.toArray }) (hi : IntsAre vs ns) (hl : ns.length ≤ sizeLine) (T : TabSays K s₁.heap tl) (hr : Rm k callerA) (F : ∀ base : Heap, K.In base → base.Ns mainGlobals mg → Tbs K mg base tl → FnD P w K mg base k fa m) (hm : ∃ s', m [.rol (ns.map .int)] (s0T tl) = .ok (.bl true) s') :
    codeAny (model P w) callerA (.call (.ref fa) ⟨[.ref a], []⟩) (LawEnd s₁) s₁ := by
  have go := law_coreT (m := m) (ns := ns) KX hns hb hbb hlim hg hbm ha T hr F hm
  have rv := vals_ints hi
  have tabAt : ∀ b, b ∈ tl.map (tabA K) → s₁.heap.get? b = some tabO := fun b hb => by
    obtain ⟨x, hx, e⟩ := List.mem_map.mp hb
    exact e ▸ (T.1 x hx).2.1
  have aT : a ∉ tl.map (tabA K) := fun z => by
    have q := tabAt a z
    rw [ha] at q
    have z2 : Data.seq vs.toArray _ = Data.fields #[] := congrArg Obj.data (Option.some.inj q)
    cases z2
  have tT : ∀ x ∈ tl, tabA K x ∈ tl.map (tabA K) := fun x hx => List.mem_map_of_mem hx
  let H0 : Hp := fun b => if b ∈ tl.map (tabA K) then some (.tbl #[]) else none
  have in0 : ∀ b, b ∈ tl.map (tabA K) → H0 b = some (.tbl #[]) := fun b h => if_pos h
  have out0 : ∀ b, b ∉ tl.map (tabA K) → H0 b = none := fun b h => if_neg h
  cases hk : K.lookup a with
  | some o =>
    have e := KX a o hk
    rw [ha] at e
    cases e
    refine go H0 (fun x hx => in0 _ (tT x hx)) (fun b => ?_) (.inr ⟨_, vs.toArray, _, hk, rfl, rfl, rfl, by rw [List.size_toArray, hi.length]; exact hl, by simpa using rv⟩) (fun b u z => ?_) (fun b z => ?_) fun z => absurd (out0 a aT) z
    · by_cases h : b ∈ tl.map (tabA K)
      · exact .inr (.inl h)
      · exact .inl (out0 b h)
    · by_cases h : b ∈ tl.map (tabA K)
      · rw [in0 b h] at z
        cases z
        exact tabAt b h
      · rw [out0 b h] at z
        cases z
    · by_cases h : b ∈ tl.map (tabA K)
      · exact .inr h
      · exact absurd (out0 b h) z
  | none =>
    have ne : ∀ b, b ∈ tl.map (tabA K) → b ≠ a := fun b h z => aT (z ▸ h)
    refine go (upd H0 a (.frz { cls := .type "list", data := .seq vs.toArray } (.lst (ns.map V.int)))) (fun x hx => (upd_ne (ne _ (tT x hx))).trans (in0 _ (tT x hx))) (fun b => ?_) (.inl (.inr ⟨_, upd_same⟩)) (fun b u z => ?_) (fun b z => ?_) fun _ => hk
    · by_cases e : b = a
      · subst e
        exact .inr (.inr ⟨_, _, upd_same⟩)
      · by_cases h : b ∈ tl.map (tabA K)
        · exact .inr (.inl h)
        · exact .inl ((upd_ne e).trans (out0 b h))
    · by_cases e : b = a
      · subst e
        rw [upd_same] at z
        cases z
        exact ⟨ha, by rw [List.length_map]; exact hl, vs, _, rv, ha⟩
      · rw [upd_ne e] at z
        by_cases h : b ∈ tl.map (tabA K)
        · rw [in0 b h] at z
          cases z
          exact tabAt b h
        · rw [out0 b h] at z
          cases z
    · by_cases e : b = a
      · exact .inl e
      · by_cases h : b ∈ tl.map (tabA K)
        · exact .inr h
        · exact absurd ((upd_ne e).trans (out0 b h)) z
end
/-- a law row in which lambdas are made -/
theorem walk_endT {l : PySem.W.OpenLaw} {n k : Nat} {q : Program} {loose : List Str} {XP : (Str → Option Value) → Heap → Prop} {YP : World → Heap → Prop} {d : DefRec} {m : DF} {tl : List Str} (hn : l.most = some n) (hn2 : n ≤ sizeLine) (hdf : d.params.defaults = []) (hr : Rm k callerA)
    (F : ∀ (w : World) (mg : Str → Option Value) (fa : Addr) (h : Heap), YP w h → h.Ns mainGlobals mg → mg d.name = some (.ref fa) → ∃ K : Frag, K.In h ∧ TabSays K h tl ∧ ∀ base : Heap, K.In base → base.Ns mainGlobals mg → Tbs K mg base tl → FnD l.prog w K mg base k fa m)
    (hm : ∀ ns : List Int, ns.length ≤ n → (∀ z ∈ ns, Builtin.Int.intBits z ≤ 1048576) → ∃ s', m [.rol (ns.map .int)] (s0T tl) = .ok (.bl true) s') : PySem.W.WalkO q loose XP YP l.row.toRowW d [] (fun f vs => PySem.call f vs) := by
  refine Att.attach_callB hn hdf fun w s₀ s₁ mg mb fa o pm cd doc a vs ns G Y ho hd hcd hmg hobj hints hlen hbits hg => ?_
  obtain ⟨K, KX, T, hF⟩ := F w mg fa _ Y G.T.g hmg
  exact law_endT KX G.T.g G.T.b G.T.builtins G.T.nolimit hg G.T.bmain hobj hints (Nat.le_trans hlen hn2) T hr hF (hm ns hlen hbits)
/-! ### a def in which lambdas are made -/
section
variable {P : Program} {w : World} {K : Frag} {mg : Str → Option Value} {base : Heap}
abbrev BodyC (P : Program) (w : World) (K : Frag) (mg : Str → Option Value) (base : Heap) (N : List Str) (qual : Str) (scope : Scope) (f : Addr) (k : Nat) (body : List Stmt) (b : DS) (cv : Value) : Prop :=
  ∀ (A : Around) (outer : List Env) (s : Shared) (H : Hp) (E : XK), Rm k (A.deeper (envOfC qual scope s.heap.objs.size f cv)) → PSs (cxOf (L2.CX P w) P w K mg base N qual scope f cv A outer s H E) body (tS K (fun c d _ H' => E c d H') b)
theorem fn_okC {x qual y : Str} {params : Arguments} {body : List Stmt} {scope : Scope} {kws : List (Str × V)} {fd : FuncData} {N ps : List Str} {k : Nat} {b : DS} (F : FunD K x qual params body scope [] kws (He.ga K y) fd) (S : FnScope N ps scope)
    (hB : ∀ (kV doc pm : Value) (an : Option Addr) (cdv ct : Value) (us : List Value), us.length = ps.length → bindArgs (PySem.W.fnOf x qual params body scope .none kV doc pm an cdv ct) ⟨us, []⟩ = pure (ps.zip us)) (hbody : BodyC P w K mg base N qual scope (He.ga K y) k body b (codeV K y)) :
    FnD P w K mg base (k + 1) (He.ga K y) (bodyM ps.length [] N.length b) := by
  have hbind := F.bindsN hB
  obtain ⟨oc, od, dV, kV, doc, pm, an, cdv, ct, osl, rfl, lk, hcd, hD1, hK⟩ := F.ex
  have ecv : codeV K y = cdv := by
    unfold codeV
    rw [lk]
  rw [ecv] at hbody
  intro A outer s H us vs Q E hr e0 r h
  obtain ⟨ds, so, u, rfl, rs, st, hp⟩ := h
  unfold bodyM argsD at hp
  have l1 := rs.length
  split at hp
  rotate_left
  · exact hp.elim
  rename_i es he
  split at he
  rotate_left
  · cases he
  rename_i hc
  cases he
  have hlen : vs.length = ps.length := by
    have := hc.1
    have := hc.2
    simp at this
    omega
  rw [List.drop_nil, List.append_nil] at hp
  have rl := r.length
  refine StX.run_bnd lk hcd S hr.rm e0 (G := fun xs H2 => xs = vs ∧ H2 = u.H) (fun A' Ex Q' h => ?_) fun s2 H2 xs hx hr' => ?_
  · have z := hbind s us (e0.mod.kin.keeps fun b o e => (e0.bs b o e).1) (by rw [List.append_nil]; omega)
    rw [List.append_nil] at z
    exact z _ _ _ _ (h s u.H _ _ e0 Un.refl rfl (fun _ _ z => z) r hlen ⟨rfl, rfl⟩)
  · obtain ⟨rfl, rfl⟩ := hx
    exact ⟨_, hbody A outer s2 u.H E (hr.deeper _), body_end rs st hp⟩
theorem LamD.mono {N : List Str} {x a : Str} {sg : Scope} {g : Addr} {k j : Nat} {bg : List Stmt} {b : DE → DS} (h : LamD P w K mg base N x sg g k bg a b) (hk : k ≤ j) : LamD P w K mg base N x sg g j bg a b := fun cdv A outer s H th hr act => h cdv A outer s H th (hr.mono hk) act
end
end Mp
set_option Elab.async false
set_option linter.all false
set_option maxRecDepth 100000
set_option maxHeartbeats 4000000
/-! Mp: a text some times. -/
namespace Mp
open PySem PySem.Spec PyProof.Rows L2
def repS (z : Str) (n : Nat) : Str := ⟨(List.replicate n z.cps).foldl (· ++ ·) #[]⟩
@[irreducible] def mulX (x y : D) (s : Sto) : Res D := match x with
  | .str z => (match y with
    | .int k => if 2 ≤ k ∧ k ≤ 1000000 ∧ 0 < z.length ∧ z.length * k.toNat ≤ 16777216 then .ok (.str (repS z k.toNat)) s else .bad
    | _ => .bad)
  | x => mulD x y s
section
variable {X : Cx} {W : WX} {a b : Expr} {pos : Pos} {ma mb : DE}
abbrev rRepS : V → V → Hp → VK → Prop := fun x y H Q => ∃ z k, x = .str z ∧ y = .int k ∧ 2 ≤ k ∧ k ≤ 1000000 ∧ 0 < z.length ∧ z.length * k.toNat ≤ 16777216 ∧ Q (.str (repS z k.toNat)) H
theorem op_repS : OpR X (binaryOp .Mult) rRepS := by
  intro pins s t H x y v u Q I rx ry h
  obtain ⟨z, k, rfl, rfl, h1, h2, h3, h4, q⟩ := h
  obtain ⟨tx, rfl⟩ := rx
  obtain ⟨ty, rfl⟩ := ry
  have hs : sizeLine = 16777216 := sizeLine_eq
  have hfit : Builtin.Str.tooLong (z.length * k.toNat) = false := by
    unfold Builtin.Str.tooLong
    exact decide_eq_false (by omega)
  refine P.mul_str (by
      rw [decide_eq_false (show ¬ k < -(2 ^ 63 : Int) by omega), decide_eq_false (show ¬ k ≥ 2 ^ 63 by omega)]
      rfl) (fun _ _ z2 => ?_) (fun _ _ => ?_) ?_
  · have a1 : (z.length : Int) * k ≤ 16777216 := by
      have : ((z.length * k.toNat : Nat) : Int) ≤ 16777216 := by omega
      rw [Int.natCast_mul, Int.toNat_of_nonneg (by omega)] at this
      exact this
    have a2 : (z.length : Int) ≤ (2 ^ 63 - 1) / k := by
      rw [Int.le_ediv_iff_mul_le (by omega)]
      omega
    omega
  · exact hfit
  · rw [if_neg (by omega), if_neg (by
      intro z2
      rw [Bool.or_eq_true] at z2
      rcases z2 with z2 | z2
      · have := eq_of_beq z2
        omega
      · have := eq_of_beq z2
        omega)]
    exact ⟨fits_reps hfit, ⟨.str (repS z k.toNat), H, I.tok _, ⟨_, rfl⟩, q⟩⟩
theorem v_mulX : VR2 X.K (fun x y H Q => ((rI CMulW fun i j => .int (i * j)) x y H Q ∨ rRep x y H Q) ∨ rRepS x y H Q) mulX := fun w s x y d e Q E st rx ry hp => by
  unfold mulX at hp
  cases d with
  | str z =>
    cases rx
    cases ry with
    | int k =>
      dsimp only at hp
      split at hp
      · rename_i hc
        exact .inr ⟨z, k, rfl, rfl, hc.1, hc.2.1, hc.2.2.1, hc.2.2.2, hp.pure st (.str _)⟩
      · exact hp.elim
    | _ => exact hp.elim
  | _ => exact .inl (v_mul w s x y _ e Q E st rx ry hp)
theorem e_mulX (ha : PE X a (tE X.K W ma)) (hb : PE X b (tE X.K W mb)) : PE X (.BinOp a .Mult b pos) (tE X.K W (binM mulX ma mb)) := e_bin (OpR.or (OpR.or op_mulW op_rep) op_repS) v_mulX ha hb
end
end Mp
set_option Elab.async false
set_option linter.all false
set_option maxRecDepth 100000
set_option maxHeartbeats 4000000
/-! Mp: a text backwards. -/
namespace Mp
open PySem PySem.Spec PyProof.Rows L2
def revS (z : Str) : Str := ⟨z.cps.toList.reverse.toArray⟩
theorem rev_picked (z : Str) (t : Tok) : sliceMade z t none none (some (-1, t)) = .str (revS z) := by
  unfold sliceMade
  rw [if_neg (by intro h; rw [Bool.and_eq_true] at h; exact absurd h.1 (by simp))]
  unfold slicePicked revS
  congr 2
  have e : Builtin.Str.strSliceIndices ((none : Option (Int × Tok)).map (·.1)) ((none : Option (Int × Tok)).map (·.1)) (-1) z.cps.size = sliceRange ((z.cps.size : Int) - 1) (-1) (-1) := rfl
  show ((Builtin.Str.strSliceIndices _ _ (-1) z.cps.size).filterMap _).toArray = _
  rw [e, PySem.W.krv_sliceRange, PySem.W.krv_range, List.filterMap_reverse, PySem.W.krv_all]
def tRevS (te : TE) : TE := fun σ H Q => te σ H fun x H1 => ∃ z, x = .str z ∧ z.length ≤ sizeLine ∧ Q (.str (revS z)) H1
section
variable {X : Cx} {W : WX}
theorem pe_revS {e : Expr} {te : TE} {k : Nat} {p1 p2 p3 pos : Pos} (he : PE X e te) : PE X (.Subscript e (.Slice none none (some (.UnaryOp .USub (.Constant (.int 1) k p1) p2)) p3) pos) (tRevS te) := by
  refine ⟨fun pins s σ H Q I h => ?_⟩
  refine Subscript_ (thn (he.run pins s σ H _ I h) fun v s1 ⟨x, H1, I1, r1, q1⟩ => ?_)
  obtain ⟨z, ex, hz, q⟩ := q1
  subst ex
  obtain ⟨t, rfl⟩ := r1
  have hst : PO X (some (.UnaryOp .USub (.Constant (.int 1) k p1) p2)) (tPart (tUn (rU fun i => .int (-i)) (tC (.int 1)))) := po_some (pe_un un_neg pe_int)
  refine wpAny_Slice (thn (po_none.run pins s1 σ H1 (fun o H2 => o = none ∧ H2 = H1) I1 ⟨rfl, rfl⟩) fun vl s2 ⟨l, H2, I2, pl, el, e2⟩ => ?_)
  subst el e2
  refine thn (po_none.run pins s2 σ H2 (fun o H3 => o = none ∧ H3 = H2) I2 ⟨rfl, rfl⟩) fun vu s3 ⟨u, H3, I3, pu, eu, e3⟩ => ?_
  subst eu e3
  refine thn (hst.run pins s3 σ H3 (fun o H4 => o = some (-1) ∧ H4 = H3) I3 ⟨1, rfl, -1, rfl, rfl, rfl⟩) fun vs s4 ⟨o, H4, I4, ps, eo, e4⟩ => ?_
  subst eo e4
  cases pl
  cases pu
  obtain ⟨st, rfl, est⟩ := IsPart.raw ps
  have I5 : Inv X pins σ H4 { s4 with heap := s4.heap.push { cls := .type "slice", data := .fields #[.none, .none, partValue st] } } := I4.kept (t' := s4.toks) fun b ob q => Heap.get?_push_of_some _ q
  show wpAny (model X.prog X.w) X.A (subscriptTail e (.Slice none none (some (.UnaryOp .USub (.Constant (.int 1) k p1) p2)) p3) (.str z t) (.ref s4.heap.objs.size)) (EP X pins σ Q) X.xe { s4 with heap := s4.heap.push { cls := .type "slice", data := .fields #[.none, .none, partValue st] } }
  refine tail_any (ops := [.str z t, .ref s4.heap.objs.size]) (typeIs_str _ _ _) (F.slot_str_getitem.lookup) ?_ (by with_unfolding_all rfl)
  cases st with
  | none => cases est
  | some p =>
    obtain ⟨i, t2⟩ := p
    have ei : i = -1 := Option.some.inj est
    subst ei
    refine wpAny_getItem_str_slice (l := none) (u := none) (st := some (-1, t2)) ⟨_, Heap.get?_push_size _ rfl, rfl, rfl⟩ rfl ?_
    have hm : sliceMade z t none none (some (-1, t2)) = .str (revS z) := rev_picked z t2
    rw [hm]
    refine ⟨?_, .str (revS z), H4, I5.tok _, ⟨_, rfl⟩, q⟩
    have : (revS z).length = z.length := by
      show z.cps.toList.reverse.toArray.size = z.cps.size
      simp
    omega
def revD (x : D) (s : Sto) : Res D := match x with
  | .str z => if z.length ≤ sizeLine then .ok (.str (revS z)) s else .bad
  | _ => .bad
theorem e_rev {e : Expr} {ma : DE} {k : Nat} {p1 p2 p3 pos : Pos} (ha : PE X e (tE X.K W ma)) : PE X (.Subscript e (.Slice none none (some (.UnaryOp .USub (.Constant (.int 1) k p1) p2)) p3) pos) (tE X.K W (unM revD ma)) :=
  PE.imp (pe_revS ha) fun t H Q h => by
    obtain ⟨r, s, w, rfl, env, st, hp⟩ := h
    exact hp.bind env st fun x d s1 w1 e1 st1 r1 hp1 => by
      unfold revD at hp1
      cases r1 with
      | str z =>
        dsimp only at hp1
        split at hp1
        · rename_i hz
          exact ⟨z, rfl, hz, hp1.pure st1 (.str _)⟩
        · exact hp1.elim
      | _ => exact hp1.elim
end
end Mp
set_option Elab.async false
set_option linter.all false
set_option maxRecDepth 100000
set_option maxHeartbeats 4000000
/-! Mp: classmethods; a class called by a local name. -/
namespace Mp
open PySem PySem.Spec PyProof.Rows L2
section
variable {X : Cx} {W : WX} {a : Expr} {es : List Expr} {pos p apos : Pos} {mr : DM (List D)} {m x cc : Str} {k : Nat} {f g pa : Addr} {mf : DF} {mc : Value}
theorem run_cmD {pins : List (Addr × Obj)} {t : L2.St} {H : Hp} {s : Shared} {Q : VK} {E : XK} {us : List Value} {vs : List V} {sp : Sp} {CX : CXT} {q C : Addr} (F : FnG X.prog X.w X.K X.mg X.base CX k g sp) (hr : Rm k X.A) (hx : PassesAt CX X t E) (I : Inv X ((q, PySem.W.methodObj (.ref g) (.ref C)) :: pins) t H s)
    (r : Vals vs us) (h : sp (.ref C :: vs) H Q E) : wpAny (model X.prog X.w) X.A (call (.ref q) us) (EP X pins t Q) X.xe s := by
  have z : wpAny (model X.prog X.w) X.A (call (.ref q) us) (EP X ((q, PySem.W.methodObj (.ref g) (.ref C)) :: pins) t Q) X.xe s :=
    wpAny_call (PySem.W.method_call (ClX.pin_at I) (codeAny_mono (F X.A X.stack s H (.ref C :: us) (.ref C :: vs) Q E hr I.env0 (.cons rfl r) h) fun z s' hz => by
      cases z with
      | error er => exact hx _ H s er s' I hz
      | ok fl =>
        cases fl with
        | ret u => exact I.after hz
        | _ => exact hz.elim))
  exact thn z fun _ _ y => ClX.unpinE y
/-- C.m(e, ..), m a classmethod of C -/
theorem e_cmeth {pl : Sem Bool} (tk : Takes X W) (R : ClX.CRead X.K (He.ga X.K cc) mc) (c : ClX.CMet X.K (He.ga X.K cc) mc m pa g) (F : FnD X.prog X.w X.K X.mg X.base k g mf) (hr : Rm k X.A) (hg : Gl X cc) (hm : X.mg cc = some (.ref (He.ga X.K cc)))
    (ha : PA X (a :: es) (tA X.K W mr)) (hdb : (cc == ("__debug__" : Str)) = false := by decide) (hst : starEach (a :: es) X.env = (false, eval a X.env) :: starEach es X.env := by rfl) (hpl : (backTo pos (starEach es X.env)).any (·.1) = false := by rfl)
    (ht : eval (.Call (.Attribute (.Name cc p) m apos) (a :: es) [] pos) X.env = (do
      let ov ← eval (.Name cc p) X.env
      standAt apos.atName
      let (f, first) ← holding [ov] (getMethod ov m pl)
      callWith pos f first (backTo pos (starEach (a :: es) X.env)) (backToKw pos (keywordEach [] X.env))) := by rfl) :
    PE X (.Call (.Attribute (.Name cc p) m apos) (a :: es) [] pos) (tE X.K W (callM mf (consA (cM (.glo cc)) mr))) := by
  refine ⟨fun pins s t H Q I h => ?_⟩
  obtain ⟨r, so, w, rfl, env, st, hp⟩ := h
  refine PySem.W.methodCall_KW (pl := pl) (ld_glob I hg hm ?_ hdb) ht
  refine ClX.getmethcm_ok I R c fun s2 I2 => ?_
  refine ClX.callwith_cm I2 (ClX.base_none I (Nat.le_refl _)) c.fi (thn (ha.run pos _ s2 t w.H (fun vs H1 => spD X.K mf (.ref (He.ga X.K cc) :: vs) H1 Q (WE W t)) I2 ⟨r, so, w, rfl, env, st, ?_⟩) fun us s3 ⟨vs, H2, I3, rv, q2⟩ => ⟨⟨ClX.pin_at I3, I3.kIn⟩, ?_⟩) hst hpl
  · unfold callM consA bindM cM at hp
    cases e : mr r so with
    | ok dv s1 =>
      dsimp only [pureM] at hp
      rw [e] at hp
      exact fun vs w1 e1 st1 r1 => sp_post (.cons (.glo cc) r1) st1 (Post.ext e1 hp)
    | exc C fs s1 =>
      dsimp only [pureM] at hp
      rw [e] at hp
      exact hp
    | bad =>
      dsimp only [pureM] at hp
      rw [e] at hp
      exact hp
  · exact run_cmD F hr (passAt tk t) I3 rv q2
/-- x(e, ..), x a local name that holds the class cc -/
def makeLM (kk : Bool) (cc : Str) (mf : DF) (mn : DE) (mr : DM (List D)) : DE := bindM mn fun c => match c with
  | .glo y => if y = cc then makeM kk cc mf mr else fun _ _ => .bad
  | _ => fun _ _ => .bad
end
/-! ### the head's facts -/
abbrev ckCr (x : Str) : Frag → Bool := fun K => PySem.W.readsIn K (He.ga K x) (.type "type") && decide (PySem.W.specialIn K (.ref (He.ga K x)) "__getattribute__" = some (some (.builtin "type.__getattribute__")))
theorem Fx.cr {P : Program} {fb : List (Frag → Bool)} {fn : List DefM} {K : Frag} {mg : Str → Option Value} (Z : Fx P fb fn K mg) (i : Nat) {x : Str} (h : fb[i]? = some (ckCr x)) : ClX.CRead K (He.ga K x) (.type "type") := by
  have f := Z.fact i h
  simp only [ckCr, Bool.and_eq_true, decide_eq_true_eq] at f
  exact ⟨f.1, f.2⟩
abbrev ckCm (x m : Str) : Frag → Bool := fun K => He5.wrapB K (He.ga K x) "classmethod" "classmethod.__get__" m && PySem.W.fnIn K (He5.wf K (He.ga K x) "classmethod" m)
theorem Fx.cm {P : Program} {fb : List (Frag → Bool)} {fn : List DefM} {K : Frag} {mg : Str → Option Value} (Z : Fx P fb fn K mg) (i : Nat) {x m : Str} (h : fb[i]? = some (ckCm x m)) : ClX.CMet K (He.ga K x) (.type "type") m (He.ma K (He.ga K x) m) (He5.wf K (He.ga K x) "classmethod" m) := by
  have f := Z.fact i h
  simp only [ckCm, Bool.and_eq_true] at f
  exact He5.cmet_of f.1 f.2
end Mp
set_option Elab.async false
set_option linter.all false
set_option maxRecDepth 100000
set_option maxHeartbeats 4000000
/-! Mp: several except clauses, with names or without. -/
namespace Mp
open PySem PySem.Spec PyProof.Rows L2
section
end
/-! ### on data -/
inductive Hd where
  | pl (tb : List (Str × Bool)) (mh : DS)
  | as (i : Nat) (E : Str) (tb : List (Str × Bool)) (mh : Addr → Option Addr → List (Str × D) → DS)
noncomputable def manyF : List Hd → Str → List (Str × D) → En → Sto → Fl
  | [], C, fs, r, s => .exc C fs r s
  | .pl tb mh :: hs, C, fs, r, s => match tb.lookup C with
    | some true => noExc (mh r s)
    | some false => manyF hs C fs r s
    | none => .bad
  | .as i E tb mh :: hs, C, fs, r, s => match tb.lookup C with
    | some true => if C = E then joinF (fun a d => offS i (mh a d fs (r.set i (some (.exn a d C fs))) s)) else .bad
    | some false => manyF hs C fs r s
    | none => .bad
noncomputable def tryNS (mb : DS) (hs : List Hd) : DS := fun r s => match mb r s with
  | .exc C fs r' s' => manyF hs C fs r' s'
  | f => f
section
end
end Mp
set_option Elab.async false
set_option linter.all false
set_option maxRecDepth 100000
set_option maxHeartbeats 4000000
/-! Mp: a text any number of times. -/
namespace Mp
open PySem PySem.Spec PyProof.Rows L2
section
end
end Mp
set_option Elab.async false
set_option linter.all false
set_option maxRecDepth 100000
set_option maxHeartbeats 1000000
/-! Mp: zip(*rows), rows a tuple of lists of one length: at the library's level. -/
namespace ZL
open PySem RZ
open PySem.Sem (wp)
/-- iterators it, it + 1, .. over the tuples ls (below B), all at place k, with the items xs there -/
def Ready (h : Heap) (B k : Nat) : Nat → List Addr → List Value → Prop
  | _, [], xs => xs = []
  | it, l :: ls, xs => ∃ x xs', xs = x :: xs' ∧ h.IsListIter it l k ∧ @LT.lt Nat _ l B ∧ (∃ items, h.IsList l items ∧ items[k]? = some x) ∧ Ready h B k (it + 1) ls xs'
def After (h : Heap) (k : Nat) : Nat → List Addr → Prop
  | _, [] => True
  | it, l :: ls => h.IsListIter it l k ∧ After h k (it + 1) ls
theorem Ready.stay {B k : Nat} {h h' : Heap} : ∀ {ls : List Addr} {it : Nat} {xs : List Value}, (∀ (c : Nat) (o : Obj), (c < B ∨ it ≤ c ∧ c < it + ls.length) → h.get? c = some o → h'.get? c = some o) → Ready h B k it ls xs → Ready h' B k it ls xs
  | [], _, _, _, r => r
  | l :: ls, it, xs, k1, ⟨x, xs', e, h1, h2, ⟨items, ⟨o, ho, hr⟩, hx⟩, h4⟩ => ⟨x, xs', e, h1.at fun o q => k1 it o (.inr ⟨Nat.le_refl _, by simp⟩) q, h2, ⟨items, ⟨o, k1 l o (.inl h2) ho, hr⟩, hx⟩,
      Ready.stay (fun (c : Nat) (o : Obj) hc q => k1 c o (hc.imp id fun z => ⟨by omega, by simp only [List.length_cons]; omega⟩) q) h4⟩
theorem After.stay {k : Nat} {h h' : Heap} : ∀ {ls : List Addr} {it : Nat}, (∀ (c : Nat) (o : Obj), it ≤ c ∧ c < it + ls.length → h.get? c = some o → h'.get? c = some o) → After h k it ls → After h' k it ls
  | [], _, _, _ => trivial
  | l :: ls, it, k1, ⟨h1, h4⟩ => ⟨h1.at fun o q => k1 it o ⟨Nat.le_refl _, by simp⟩ q, After.stay (fun (c : Nat) (o : Obj) hc q => k1 c o ⟨by omega, by simp only [List.length_cons]; omega⟩ q) h4⟩
theorem After.get {k : Nat} {h : Heap} : ∀ {ls : List Addr} {it : Nat} {c : Nat}, After h k it ls → it ≤ c → c < it + ls.length → ∃ l, h.IsListIter c l k
  | [], it, c, _, h1, h2 => by simp at h2; omega
  | l :: ls, it, c, a, h1, h2 => by
    by_cases e : c = it
    · subst e; exact ⟨l, a.1⟩
    · exact a.2.get (by omega) (by simp only [List.length_cons] at h2; omega)
theorem Ready.after {B k : Nat} {h : Heap} : ∀ {ls : List Addr} {it : Nat} {xs : List Value}, Ready h B k it ls xs → After h k it ls
  | [], _, _, _ => trivial
  | _ :: _, _, _, ⟨_, _, _, h1, _, _, h4⟩ => ⟨h1, h4.after⟩
theorem Ready.length {B k : Nat} {h : Heap} : ∀ {ls : List Addr} {it : Nat} {xs : List Value}, Ready h B k it ls xs → xs.length = ls.length
  | [], _, _, r => by rw [show _ = [] from r]; rfl
  | _ :: _, _, _, ⟨_, _, e, _, _, _, h4⟩ => by rw [e, List.length_cons, List.length_cons, h4.length]
section
end
/-- the zip object: what it handed out last, whether it was held -/
def IsZ (h : Heap) (z TI TO : Nat) : Prop := ∃ (g0 : Value) (b : Bool), (g0 = .none ∨ ∃ T : Nat, g0 = rawInt T) ∧ h.get? z = some { cls := .type "zip", dict := none, data := .fields #[g0, .bool b, .bool false, .ref TI, .ref TO], slots := #[] }
theorem IsZ.at {h h' : Heap} {z TI TO : Nat} (x : IsZ h z TI TO) (e : ∀ o, h.get? z = some o → h'.get? z = some o) : IsZ h' z TI TO := let ⟨g, b, q, r⟩ := x; ⟨g, b, q, e _ r⟩
section
end
section
end
section
end
end ZL
set_option Elab.async false
set_option linter.all false
set_option maxRecDepth 100000
set_option maxHeartbeats 4000000
/-! Mp: zip(*rows), the rows lists or tuples. -/
namespace Mp
open PySem PySem.Spec PyProof.Rows L2
/-! ### on data -/
inductive RowRL (K : Frag) (w : Wd) : List Addr → List (List V) → List (List D) → Prop
  | nil : RowRL K w [] [] []
  | cons {a : Addr} {vs : List V} {ds : List D} {as : List Addr} {vss : List (List V)} {dss : List (List D)} : LAt K w a vs → Reps K w vs ds → RowRL K w as vss dss → RowRL K w (a :: as) (vs :: vss) (ds :: dss)
theorem RowRL.ext {K : Frag} {w w' : Wd} (e : Ext w w') : ∀ {ls : List Addr} {vss : List (List V)} {dss : List (List D)}, RowRL K w ls vss dss → RowRL K w' ls vss dss
  | _, _, _, .nil => .nil
  | _, _, _, .cons h r t => .cons (h.ext e) (r.ext e) (t.ext e)
theorem RowRL.col {K : Frag} {w : Wd} {i : Nat} : ∀ {ls : List Addr} {vss : List (List V)} {dss : List (List D)}, RowRL K w ls vss dss → (∀ r ∈ dss, i < r.length) → ∃ xs, colV i vss = some xs ∧ Reps K w xs (dss.map fun r => r.getD i .non)
  | _, _, _, .nil, _ => ⟨[], rfl, .nil⟩
  | _, _, _, .cons (vs := vs) (ds := ds) h r t, hi => by
    obtain ⟨xs, e, q⟩ := t.col fun r hr => hi r (List.mem_cons_of_mem _ hr)
    have hlt := hi ds List.mem_cons_self
    have hd : ds[i]? = some (ds.getD i .non) := by rw [List.getElem?_eq_getElem hlt, List.getD_eq_getElem?_getD, List.getElem?_eq_getElem hlt]; rfl
    obtain ⟨v, hv, rv⟩ := r.get hd
    refine ⟨v :: xs, ?_, .cons rv q⟩
    unfold colV
    rw [hv, e]
section
end
end Mp
set_option Elab.async false
set_option linter.all false
set_option maxRecDepth 100000
set_option maxHeartbeats 4000000
/-! Mp: comprehensions of two clauses, starred items of a display. -/
namespace Mp
open PySem PySem.Spec PyProof.Rows L2
open Classical in
noncomputable def lcF2 (c : Src) (g : DG) (tt : DM Bool) (mi1 : DM Src) (g1 : DG) (tt1 : DM Bool) (te : DE) (vs1 : List Nat) (r : En) : List D → List D → Sto → Res (List D)
  | [], acc, s => if SrcOk c s then .ok acc s else .bad
  | d :: l, acc, s => if SrcOk c s then (match g d r s with
    | none => .bad
    | some p => (match tt p.1 p.2 with
      | .ok k s1 => if k = true then (match mi1 p.1 s1 with
        | .ok c1 s2 => (match lcF c1 g1 tt1 te (wipeE p.1 vs1) c1.its acc s2 with
          | .ok acc2 s3 => lcF2 c g tt mi1 g1 tt1 te vs1 r l acc2 s3
          | _ => .bad)
        | _ => .bad) else lcF2 c g tt mi1 g1 tt1 te vs1 r l acc s1
      | _ => .bad)) else .bad
noncomputable def lc2M (k : Bool) (mi : DM Src) (g : DG) (tt : DM Bool) (mi1 : DM Src) (g1 : DG) (tt1 : DM Bool) (te : DE) (vs vs1 : List Nat) : DE := bindM mi fun c => fun r s => match lcF2 c g tt mi1 g1 tt1 te vs1 (wipeE r vs) c.its [] s with
  | .ok acc s' => newL k acc s'
  | _ => .bad
section
end
/-- a list, a tuple, a text that is walked within -/
def srcJ (s : Sto) : D → Option Src
  | .tup l => some ⟨l, none⟩
  | .lst l => some ⟨l, none⟩
  | .rol l => some ⟨l, none⟩
  | .str z => some ⟨chars z, none⟩
  | .cel n => (match s[n]? with
    | some (some (.lst l)) => some ⟨l, some n⟩
    | _ => none)
  | _ => none
def seqJ (a : DE) : DM Src := bindM a fun x => fun _ s => okO s (srcJ s x)
section
end
section
end
/-! ### starred items -/
def starC (e : DE) (m : DM (List D)) : DM (List D) := bindM e fun x => bindM (fun _ s => okO s (seqOf s x)) fun l => bindM m fun ys => pureM (l ++ ys)
section
end
end Mp
set_option Elab.async false
set_option linter.all false
set_option maxRecDepth 100000
set_option maxHeartbeats 4000000
/-! Mp: a dict merged into an empty one (displays with two stars, calls with two stars). -/
namespace MmX
open PySem PySem.Spec PyProof.Rows L2
section
variable {prog : Program} {w : World} {K : Type} [DecidableEq K] {knd : KeyKind prog w K} {A : Around} {E : Value → Shared → Prop} {s : Shared}
theorem dictPut_ok {d : Addr} {kvs : List (K × Value)} {k : K} {key v : Value} {Q : Unit → Shared → Prop} (hkey : knd.is k key = true) (hm : s.heap.DictOf knd d kvs)
    (hnot : k ∉ kvs.map (·.1)) (hQ : ∀ h', h'.DictOf knd d (kvs ++ [(k, v)]) → Heap.SameBut d s.heap h' → Q () { s with heap := h' })
    (hsz : kvs.length ≤ sizeLine) :
    wpAny (model prog w) A (dictPut d (knd.hash k) key v) Q E s := by
  obtain ⟨o, es, ep, ho, hc, hd, hk, hp, hn⟩ := hm
  have hes : es.size ≤ sizeLine := by
    have e1 := hp.length
    have e2 : es.toList.length = es.size := by simp
    omega
  unfold dictPut
  refine wpAny_bind (wpAny_dictFind_of hkey ho hd hk ?_)
  have hidx : (es.findIdx? fun e => knd.is k e.key) = kvs.findIdx? fun kv => decide (kv.1 = k) := by
    rw [← hp.findIdx k]
    obtain ⟨l⟩ := es
    simp
  have hnone : (es.findIdx? fun e => knd.is k e.key) = none := by
    rw [hidx, List.findIdx?_eq_none_iff]
    intro kv hkv
    exact decide_eq_false fun e => hnot (List.mem_map.mpr ⟨kv, hkv, e⟩)
  rw [hnone]
  refine wpAny_updateDictKeys (hz := hes) ho hd (hQ _ ⟨_, _, ep + 1, Heap.get?_update_self _ ho (Obj.isFreed_of_dict (Obj.data_mapDictKeys hd _)),
      hc.mapDictKeys _, Obj.data_mapDictKeys hd _, hk.push hkey _, ?_, ?_⟩ (Heap.SameBut.update ..))
  · have := hp.append hkey (knd.hash k) v
    obtain ⟨l⟩ := es
    simpa using this
  · rw [List.map_append, List.nodup_append]
    refine ⟨hn, by simp, ?_⟩
    intro a ha b hb
    simp only [List.map_cons, List.map_nil, List.mem_singleton] at hb
    subst hb
    exact fun e => hnot (e ▸ ha)
theorem dictFind_new {d : Addr} {kvs : List (K × Value)} {k : K} {key : Value} {Q : Option Nat → Shared → Prop} (hkey : knd.is k key = true) (hm : s.heap.DictOf knd d kvs)
    (hnot : k ∉ kvs.map (·.1)) (hQ : Q none s) : wpAny (model prog w) A (dictFind d key (knd.hash k)) Q E s := by
  obtain ⟨o, es, ep, ho, hc, hd, hk, hp, hn⟩ := hm
  refine wpAny_dictFind_of hkey ho hd hk ?_
  have hidx : (es.findIdx? fun e => knd.is k e.key) = kvs.findIdx? fun kv => decide (kv.1 = k) := by
    rw [← hp.findIdx k]
    obtain ⟨l⟩ := es
    simp
  have hnone : (es.findIdx? fun e => knd.is k e.key) = none := by
    rw [hidx, List.findIdx?_eq_none_iff]
    intro kv hkv
    exact decide_eq_false fun e => hnot (List.mem_map.mpr ⟨kv, hkv, e⟩)
  rw [hnone]
  exact hQ
theorem merge_ok {u : Bool} {d o : Addr} {more : List (K × Value)} {Q : Unit → Shared → Prop} (hdo : d ≠ o) (hoS : (o == sysModules) = false)
    (hd : s.heap.DictOf knd d []) (ho : s.heap.DictOf knd o more)
    (hQ : ∀ h', h'.DictOf knd d more → h'.DictOf knd o more → Heap.SameBut d s.heap h' → Q () { s with heap := h' })
    (hsz : more.length ≤ sizeLine) :
    wpAny (model prog w) A (mergeMapping d (.ref o) u) Q E s := by
  obtain ⟨od, esd, epd, hod, hcd, hdd, hkd, hpd, hnd⟩ := id hd
  obtain ⟨oo, eso, epo, hoo, hco, hdo', hko, hpo, hno⟩ := id ho
  have hlen : more.length = eso.size := by rw [← hpo.length]; simp
  unfold mergeMapping
  refine wpAny_bind (wpAny_isInstance ho.typeIs isSubtype_dict_dict ?_)
  dsimp only
  rw [if_pos rfl]
  refine wpAny_bind (wpAny_specialOf ho.typeIs F.slot_dict_iter.lookup ?_)
  rw [show (some (Value.builtin "dict.__iter__") == some (Value.builtin "dict.__iter__")) = true from beq_self_eq_true _]
  refine wpAny_bind (wpAny_pure ?_)
  dsimp only
  rw [if_neg (by rw [hoS]; exact Bool.false_ne_true)]
  refine wpAny_bind (wpAny_dictEntries hod hdd ?_)
  have hemp : esd.isEmpty = true := by
    have h0 := hpd.length
    obtain ⟨l⟩ := esd
    simpa using h0
  rw [if_pos hemp]
  refine wpAny_bind (wpAny_dictEntries hoo hdo' ?_)
  have hloop : (forIn eso PUnit.unit fun e (_ : PUnit) => (match e.key with
      | Value.ref a => do
        let q ← specialOf e.key (Str.ofString "__eq__")
        if (q != some (Value.builtin "object.__eq__")) = true then
          if (Array.filter (fun x => x.hash == e.hash) eso).size > 1 then do
            (unsupported "dict.merge-into-an-empty-dict:keys-of-equal-hash" : Sem PUnit)
            pure (ForInStep.yield PUnit.unit)
          else pure (ForInStep.yield PUnit.unit)
        else pure (ForInStep.yield PUnit.unit)
      | x => pure (ForInStep.yield PUnit.unit) : Sem (ForInStep PUnit))) = pure PUnit.unit := by
    rw [← Array.forIn_toList]
    refine forIn_yield_id _ fun e he c => ?_
    obtain ⟨k, hkey, _⟩ := hko e (Array.mem_toList_iff.mp he)
    have hb := knd.byValue k _ hkey
    cases ek : e.key with
    | ref a => rw [ek] at hb; cases hb
    | _ => rfl
  refine wpAny_bind (wpAny_of_eq hloop ?_)
  refine wpAny_bind (wpAny_dictEntries hoo hdo' ?_)
  refine wpAny_bind (wpAny_dictEpoch hoo hdo' ?_)
  refine wpAny_bind ?_
  rw [List.range_eq_range']
  refine wpAny_forIn_list _
      (fun rest _ s' => ∃ h' i, s' = { s with heap := h' } ∧ rest = List.range' i (eso.size - i) ∧ i ≤ eso.size ∧ h'.DictOf knd d (more.take i) ∧ h'.get? o = some oo ∧ Heap.SameBut d s.heap h')
      _ ?_ ?_ _ _ ⟨s.heap, 0, rfl, by simp, Nat.zero_le _, by simpa using hd, hoo, Heap.SameBut.refl _ _⟩
  · rintro x rest b s' ⟨h', i, rfl, hr, hi, hd', hoo', hs'⟩
    have hlt : i < eso.size := by
      rcases Nat.lt_or_ge i eso.size with h | h
      · exact h
      · rw [Nat.sub_eq_zero_of_le h] at hr; simp at hr
    obtain ⟨rfl, hrest⟩ : x = i ∧ rest = List.range' (i + 1) (eso.size - (i + 1)) := by
      have e : eso.size - i = (eso.size - (i + 1)) + 1 := by omega
      rw [e, List.range'_succ] at hr
      injection hr with h1 h2
      exact ⟨h1, h2⟩
    refine wpAny_bind (wpAny_dictEntries hoo' hdo' ?_)
    rw [Array.getElem?_eq_getElem hlt]
    obtain ⟨kv, hkv⟩ : ∃ kv, more[x]? = some kv := ⟨more[x]'(by rw [hlen]; exact hlt), List.getElem?_eq_getElem _⟩
    obtain ⟨k, v⟩ := kv
    obtain ⟨hkey, hval⟩ := hpo.get? (e := eso[x]) (by simp [hlt]) hkv
    obtain ⟨k', hkey', hhash⟩ := hko eso[x] (Array.getElem_mem hlt)
    obtain rfl : k' = k := knd.inj _ _ _ hkey' hkey
    have hnew : k' ∉ (more.take x).map (·.1) := by
      intro hm
      have hx : x < more.length := by omega
      have e : more = more.take x ++ (k', v) :: more.drop (x + 1) := by
        rw [List.getElem?_eq_getElem hx] at hkv
        have := Option.some.inj hkv
        rw [← this, ← List.drop_eq_getElem_cons hx, List.take_append_drop]
      rw [e, List.map_append, List.nodup_append] at hno
      exact hno.2.2 k' hm k' (by simp) rfl
    have hmx : (more.take x).length ≤ sizeLine := by rw [List.length_take]; omega
    have htk : more.take x ++ [(k', v)] = more.take (x + 1) := by rw [List.take_add_one, hkv]; rfl
    dsimp only
    rw [hhash, hval]
    have put : ∀ Q' : Unit → Shared → Prop, (∀ h'', h''.DictOf knd d (more.take (x + 1)) → Heap.SameBut d h' h'' → Q' () { s with heap := h'' }) → wpAny (model prog w) A (dictPut d (knd.hash k') eso[x].key v) Q' E { s with heap := h' } := fun Q' hQ' =>
      dictPut_ok (s := { s with heap := h' }) hkey hd' hnew (fun h'' a b => hQ' h'' (htk ▸ a) b) hmx
    refine wpAny_bind (wpAny_holding ?_)
    cases u with
    | false =>
      refine put _ fun h'' hd'' hs'' => ?_
      have hoo'' : h''.get? o = some oo := (hs''.2 o (Ne.symm hdo)).trans hoo'
      refine wpAny_bind (wpAny_dictEpoch hoo'' hdo' ?_)
      rw [if_neg (by simp)]
      exact wpAny_pure ⟨h'', x + 1, rfl, hrest, hlt, hd'', hoo'', hs'.trans hs''⟩
    | true =>
      rw [if_pos rfl]
      refine wpAny_bind (dictFind_new (s := { s with heap := h' }) hkey hd' hnew ?_)
      refine put _ fun h'' hd'' hs'' => ?_
      have hoo'' : h''.get? o = some oo := (hs''.2 o (Ne.symm hdo)).trans hoo'
      refine wpAny_bind (wpAny_dictEpoch hoo'' hdo' ?_)
      rw [if_neg (by simp)]
      exact wpAny_pure ⟨h'', x + 1, rfl, hrest, hlt, hd'', hoo'', hs'.trans hs''⟩
  · rintro b s' ⟨h', i, rfl, hr, hi, hd', hoo', hs'⟩
    have hin : i = eso.size := by
      rcases Nat.lt_or_ge i eso.size with h | h
      · have e : eso.size - i = (eso.size - (i + 1)) + 1 := by omega
        rw [e, List.range'_succ] at hr; exact nomatch hr
      · exact Nat.le_antisymm hi h
    refine wpAny_pure (hQ h' ?_ ⟨oo, eso, epo, hoo', hco, hdo', hko, hpo, hno⟩ hs')
    rw [hin, ← hlen, List.take_length] at hd'; exact hd'
end
section
variable {X : Cx} {e : Expr} {te : TE} {pos : Pos}
def tSpr (te : TE) : TE := fun σ H Q => ∀ p, H p = none → te σ (upd H p (.dK [])) fun x H1 => ∃ a kvs, x = .ref a ∧ a ≠ p ∧ Rd H1 a (.dK kvs) ∧ H1 p = some (.dK []) ∧ Q (.ref p) (upd H1 p (.dK kvs))
end
end MmX
namespace Mp
open PySem PySem.Spec PyProof.Rows L2
/-- {**e} -/
def sprM (e : DE) : DE := bindM e fun x => fun _ s => match dctOf s x with
  | some m => .ok (.dct m) s
  | none => .bad
section
end
end Mp
set_option Elab.async false
set_option linter.all false
set_option maxRecDepth 100000
set_option maxHeartbeats 4000000
/-! Mp: operators and comparisons by a class's own defs. -/
namespace OwI
open PySem PySem.Spec PyProof.Rows L2
section
end
end OwI
namespace Mp
open PySem PySem.Spec PyProof.Rows L2
/-- an operator: an own def where both are instances of one class, otherwise f -/
def ownD (tb : List (Str × DF)) (f : D → D → Sto → Res D) (x y : D) (s : Sto) : Res D := match insOf s x with
  | some (C, _) => (match insOf s y with
    | some (C', _) => if C' = C then (match tb.lookup C with
      | some m => m [x, y] s
      | none => .bad) else .bad
    | none => .bad)
  | none => f x y s
def negB : Res D → Res D
  | .ok (.bl b) s => .ok (.bl (!b)) s
  | .ok _ _ => .bad
  | .exc C fs s => .exc C fs s
  | .bad => .bad
/-- == and != by an own __eq__ where both are instances -/
def eqO (neg : Bool) (tb : List ((Str × Str) × DF)) (x y : D) (s : Sto) : Res D := match insOf s x with
  | some (C, _) => (match insOf s y with
    | some (C', _) => (match tb.lookup (C, C') with
      | some m => if neg then negB (m [x, y] s) else m [x, y] s
      | none => .bad)
    | none => .bad)
  | none => eqG neg x y s
section
variable {X : Cx} {W : WX} {a b : Expr} {pos : Pos} {ma mb : DE}
/-- the rows: the def, and the class before the others of its own order -/
inductive OTab (X : Cx) (m : Str) : List (Str × DF) → Prop
  | nil : OTab X m []
  | cons {C : Str} {f : DF} {r : List (Str × DF)} : MethD X C m f → PySem.W.selfFirst X.K (He.ga X.K C) = true → OTab X m r → OTab X m ((C, f) :: r)
theorem OTab.get {m C : Str} {f : DF} : ∀ {tb : List (Str × DF)}, OTab X m tb → tb.lookup C = some f → MethD X C m f ∧ PySem.W.selfFirst X.K (He.ga X.K C) = true
  | _, .nil, h => by simp at h
  | _, .cons (C := E) h1 h2 r, h => by
    by_cases e : C = E
    · subst e
      rw [List.lookup_cons_self] at h
      cases h
      exact ⟨h1, h2⟩
    · rw [List.lookup_cons, show (C == E) = false from beq_eq_false_iff_ne.mpr e] at h
      exact r.get h
/-- rows for two classes -/
inductive QTab (X : Cx) (neg : Bool) : List ((Str × Str) × DF) → Prop
  | nil : QTab X neg []
  | cons {C C' : Str} {f : DF} {r : List ((Str × Str) × DF)} : MethD X C "__eq__" f → (∃ k, neg = true → (∃ g, Meth X.K (He.ga X.K C) "__eq__" g ∧ FnD X.prog X.w X.K X.mg X.base k g f ∧ Rm (k + 1) X.A) ∧ PySem.W.findIn X.K (.ref (He.ga X.K C)) "__ne__" = some (some (.builtin "object.__ne__")) ∧ PySem.W.subIn X.K (.ref (He.ga X.K C)) (.type "object") = some true) → PySem.W.notFirst X.K (He.ga X.K C) (.ref (He.ga X.K C')) = true → QTab X neg r → QTab X neg (((C, C'), f) :: r)
theorem QTab.get {neg : Bool} {C C' : Str} {f : DF} : ∀ {tb : List ((Str × Str) × DF)}, QTab X neg tb → tb.lookup (C, C') = some f → MethD X C "__eq__" f ∧ (∃ k, neg = true → (∃ g, Meth X.K (He.ga X.K C) "__eq__" g ∧ FnD X.prog X.w X.K X.mg X.base k g f ∧ Rm (k + 1) X.A) ∧ PySem.W.findIn X.K (.ref (He.ga X.K C)) "__ne__" = some (some (.builtin "object.__ne__")) ∧ PySem.W.subIn X.K (.ref (He.ga X.K C)) (.type "object") = some true) ∧ PySem.W.notFirst X.K (He.ga X.K C) (.ref (He.ga X.K C')) = true
  | _, .nil, h => by simp at h
  | _, .cons (C := E) (C' := E') h1 h2 h3 r, h => by
    by_cases e : (C, C') = (E, E')
    · cases e
      rw [List.lookup_cons_self] at h
      cases h
      exact ⟨h1, h2, h3⟩
    · rw [List.lookup_cons, show ((C, C') == (E, E')) = false from beq_eq_false_iff_ne.mpr e] at h
      exact r.get h
/-- what stands behind an operand's run -/
def OpP (X : Cx) (W : WX) (t : L2.St) (Q : VK) (f : D → D → Sto → Res D) (x y : V) (H : Hp) : Prop := ∃ s w d e, w.H = H ∧ StR X.K w s ∧ Rep X.K w x d ∧ Rep X.K w y e ∧ Post X.K (Rep X.K) w (fun c d H' => W c d t H') Q (f d e s)
theorem opP_of {f : D → D → Sto → Res D} {r : En} {s : Sto} {w : Wd} {t : L2.St} {Q : VK} (env : EnvR X.K w r t) (st : StR X.K w s) (hp : Post X.K (Rep X.K) w (fun c d H' => W c d t H') Q (binM f ma mb r s)) :
    tE X.K W ma t w.H fun x H1 => tE X.K W mb t H1 fun y H2 => OpP X W t Q f x y H2 :=
  hp.bind env st fun x d s1 w1 e1 st1 r1 hp1 => hp1.bind (env.ext e1) st1 fun y d2 s2 w2 e2 st2 r2 hp2 => ⟨s2, w2, d, d2, rfl, st2, r1.ext e2, r2, hp2⟩
end
end Mp
set_option Elab.async false
set_option linter.all false
set_option maxRecDepth 100000
set_option maxHeartbeats 4000000
/-! Mp: dict(pairs), dict(d); get, items of dicts. -/
namespace Mp
open PySem PySem.Spec PyProof.Rows L2
def pairsD : List D → Option (List (Key × D))
  | [] => some []
  | .tup [k, v] :: l => (match keyD k with
    | some q => (pairsD l).map fun m => (q, v) :: m
    | none => none)
  | _ :: _ => none
/-- a new dict: a cell's, or frozen -/
def newDc (k : Bool) (m : List (Key × D)) (s : Sto) : Res D := if k = true then .ok (.cel s.length) (s ++ [some (.dct m)]) else .ok (.dct m) s
def dictPD (k : Bool) (ds : List D) (s : Sto) : Res D := match ds with
  | [x] => (match dctOf s x with
    | some m => newDc k m s
    | none => (match lstOf s x with
      | some l => (match pairsD l with
        | some kvs => newDc k (mergeA [] kvs) s
        | none => .bad)
      | none => .bad))
  | _ => .bad
section
variable {K : Frag} {w : Wd} {s : Sto}
theorem pairsD_ok {l : List D} : ∀ {vs : List V} {kvs : List (Key × D)}, Reps K w vs l → pairsD l = some kvs → ∃ (ps : List Addr) (kv : List (Key × V)), vs = ps.map V.ref ∧ Paired (fun p kv => SqT K w.H p [kV kv.1, kv.2]) ps kv ∧ KVR K w kv kvs := by
  induction l with
  | nil =>
    intro vs kvs r h
    cases r
    cases h
    exact ⟨[], [], rfl, .nil, .nil⟩
  | cons d l ih =>
    intro vs kvs r h
    cases r with
    | @cons v _ vs _ r1 r2 =>
      cases r1 with
      | @tup a us ds ha rs =>
        cases rs with
        | nil => cases h
        | cons q1 q2 =>
          cases q2 with
          | nil => cases h
          | cons q3 q4 =>
            cases q4 with
            | cons _ _ => cases h
            | nil =>
              rename_i k0 d0 v0 d1
              unfold pairsD at h
              cases ek : keyD d0 with
              | none => rw [ek] at h; cases h
              | some q =>
                rw [ek] at h
                dsimp only at h
                obtain ⟨m, hm, rfl⟩ := Option.map_eq_some_iff.mp h
                obtain ⟨ps, kv, rfl, hp, hk⟩ := ih r2 hm
                have e := keyD_ok q1 ek
                subst e
                exact ⟨a :: ps, (q, v0) :: kv, rfl, .cons ha.sq hp, .cons q3 hk⟩
      | _ => cases h
/-- behind a new dict -/
theorem newDc_post {E : XK} {Q : VK} {k : Bool} {l : List (Key × V)} {m : List (Key × D)} (hp : Post K (Rep K) w E Q (newDc k m s)) (st : StR K w s) (kv : KVR K w l m) {p : Addr} (np : w.H p = none) :
    Q (.ref p) (upd w.H p (.dK l)) ∨ ∃ d u, V.ref p = .ref d ∧ upd w.H p (.dK l) d = some u ∧ Mut (some u) ∧ ∀ od, Q (.ref p) (upd (upd w.H p (.dK l)) d (.frz od u)) := by
  cases k with
  | true =>
    have hp' : Post K (Rep K) w E Q (.ok (.cel s.length) (s ++ [some (.dct m)])) := hp
    have ex := Wd.cell_ext st (o := .dK l) np
    exact .inl (hp' (.ref p) (w.cell s.length p (.dK l)) ex (Wd.cell_st st np ⟨l, upd_same, kv.ext ex⟩) (.cel (if_pos rfl)))
  | false =>
    have hp' : Post K (Rep K) w E Q (.ok (.dct m) s) := hp
    refine .inr ⟨p, .dK l, rfl, upd_same, trivial, fun od => ?_⟩
    have e3 : upd (upd w.H p (.dK l)) p (.frz od (.dK l)) = (w.frz p (.frz od (.dK l))).H := by
      funext b
      show _ = upd w.H p (.frz od (.dK l)) b
      by_cases hb : b = p
      · subst hb
        rw [upd_same, upd_same]
      · rw [upd_ne hb, upd_ne hb, upd_ne hb]
    have ex := Wd.frz_ext st (o := .frz od (.dK l)) np
    rw [e3]
    exact hp' (.ref p) _ ex (Wd.frz_st st np) (Rep.dctK Wd.frz_z Wd.frz_h (kv.ext ex))
end
section
variable {X : Cx} {W : WX} {a : Expr} {pos p : Pos} {mr : DM (List D)}
theorem e_dict (k : Bool) (hc : X.calm = true) (hg : Gl X "dict") (hm : X.mg "dict" = none) (ha : PA X [a] (tA X.K W mr))
    (he : starEach [a] X.env = (false, eval a X.env) :: starEach [] X.env := by rfl) : PE X (.Call (.Name "dict" p) [a] [] pos) (tE X.K W (argM (dictPD k) mr)) :=
  PE.imp (pe_frz (pe_callTy (x := "dict") (T := "dict") (CallR.or (call_dictP hc) call_dictD) hg hm (by decide +kernel) ha (by decide) (by decide) he rfl)) fun t H Q h => by
    obtain ⟨r, s, w, rfl, env, st, hp⟩ := h
    exact hp.bind env st fun vs ds s1 w1 e1 st1 r1 hp1 => by
      unfold dictPD at hp1
      cases r1 with
      | nil => exact hp1.elim
      | @cons v d vs ds q1 q2 =>
        cases q2 with
        | cons _ _ => exact hp1.elim
        | nil =>
          dsimp only at hp1
          cases ed : dctOf s1 d with
          | some m =>
            rw [ed] at hp1
            obtain ⟨p, l, rfl, hd, kv⟩ := dctOf_ok st1 q1 ed
            exact .inr ⟨p, l, rfl, hd, fun q nq => newDc_post hp1 st1 kv nq⟩
          | none =>
            rw [ed] at hp1
            dsimp only at hp1
            cases el : lstOf s1 d with
            | none => rw [el] at hp1; exact hp1.elim
            | some l =>
              rw [el] at hp1
              dsimp only at hp1
              cases ep : pairsD l with
              | none => rw [ep] at hp1; exact hp1.elim
              | some kvs =>
                rw [ep] at hp1
                obtain ⟨p, us, rfl, hl, rs⟩ := lstOf_ok st1 q1 el
                obtain ⟨ps, kv, rfl, hpr, hk⟩ := pairsD_ok rs ep
                exact .inl ⟨p, ps, kv, rfl, hl, hpr, fun q nq => newDc_post hp1 st1 (KVR.merge .nil hk) nq⟩
end
end Mp
set_option Elab.async false
set_option linter.all false
set_option maxRecDepth 100000
set_option maxHeartbeats 4000000
/-! Mp: a tuple times an int; operators by own defs, the usual ones behind them; facts of own comparisons. -/
namespace TmX
open PySem PySem.Spec PyProof.Rows L2
open AutoSeq1 (wpAny_loadPart')
section
end
end TmX
namespace Mp
open PySem PySem.Spec PyProof.Rows L2
section
end
end Mp
set_option Elab.async false
set_option linter.all false
set_option maxRecDepth 100000
/-! Mp: the head's run, looked at thrice. -/
noncomputable section
namespace Mp
open PySem PySem.W PySem.Calls PyProof.Rows HandSHeadRun
def hdA (r : OpenRow) (M : Nat) (w : World) (os : OsState) : Option Bool := (endF (stepQ (denQ tabQ) r.prog w) M r.prog w os).map fun s => looksF r.prog (boot_heap w.params) s.abs
def hdB (r : OpenRow) (q : Program) (M : Nat) (loose : List PySem.Str) (w : World) (os : OsState) := (endF (stepQ (denQ tabQ) r.prog w) M r.prog w os).map fun s => seenQ q loose (importedModules r.prog.main.body) (fun s => xlAt q [] s && recOk r.toRowW.records s) s.abs
def hdC {T : Type} (r : OpenRow) (ob : SharedT → T) (M : Nat) (w : World) (os : OsState) : Option T := (endF (stepQ (denQ tabQ) r.prog w) M r.prog w os).map ob
theorem run_split {r : OpenRow} {q : Program} {H : Hook} {ob : SharedT → H.α} {M : Nat} {loose : List PySem.Str} {w : World} (a : ∀ os, hdA r M w os = some true) (b : ∀ os, hdB r q M loose w os = some (openGood q loose)) (c : ∀ os, hdC r ob M w os = some (H.val w)) : RunEq r q H ob M loose w := fun os => by
  have ha := a os
  have hb := b os
  have hc := c os
  unfold hdA at ha
  unfold hdB at hb
  unfold hdC at hc
  cases e : endF (stepQ (denQ tabQ) r.prog w) M r.prog w os with
  | none => rw [e] at ha; cases ha
  | some s =>
    rw [e] at ha hb hc
    have ha := Option.some.inj ha
    have hb := Option.some.inj hb
    have hc := Option.some.inj hc
    show some (looksF r.prog (boot_heap w.params) s.abs, seenQ q loose (importedModules r.prog.main.body) (fun s => xlAt q [] s && recOk r.toRowW.records s) s.abs, ob s) = _
    dsimp only at ha hb
    rw [ha, hb, hc]
end Mp
set_option Elab.async false
set_option linter.all false
set_option maxRecDepth 100000
/-! Mp: the head's third look, in parts. -/
noncomputable section
namespace Mp
open PySem PySem.W PySem.Calls PyProof.Rows HandSHeadRun
def fgT (n : Nat) (s : SharedT) : Frag := frM (getT s) (asM (getT s) n)
section
variable {r : OpenRow} {M : Nat} {w : World} {os : OsState} {T U : Type}
theorem hdC_pair {f : SharedT → T} {g : SharedT → U} {x : T} {y : U} (a : hdC r f M w os = some x) (b : hdC r g M w os = some y) : hdC r (fun s => (f s, g s)) M w os = some (x, y) := by
  unfold hdC at *
  cases e : endF (stepQ (denQ tabQ) r.prog w) M r.prog w os with
  | none => rw [e] at a; cases a
  | some s =>
    rw [e] at a b
    have a := Option.some.inj a
    have b := Option.some.inj b
    show some (f s, g s) = _
    rw [a, b]
theorem hdC_and {f g : SharedT → Bool} (a : hdC r f M w os = some true) (b : hdC r g M w os = some true) : hdC r (fun s => f s && g s) M w os = some true := by
  unfold hdC at *
  cases e : endF (stepQ (denQ tabQ) r.prog w) M r.prog w os with
  | none => rw [e] at a; cases a
  | some s =>
    rw [e] at a b
    have a := Option.some.inj a
    have b := Option.some.inj b
    show some (f s && g s) = _
    rw [a, b]
    rfl
theorem hdC_all {X : Type} {F : SharedT → X} {l m : List (X → Bool)} (a : hdC r (fun s => l.all fun f => f (F s)) M w os = some true) (b : hdC r (fun s => m.all fun f => f (F s)) M w os = some true) : hdC r (fun s => (l ++ m).all fun f => f (F s)) M w os = some true := by
  have h := hdC_and a b
  have e : (fun s : SharedT => (l ++ m).all fun f => f (F s)) = fun s => (l.all fun f => f (F s)) && (m.all fun f => f (F s)) := funext fun s => List.all_append
  rw [e]
  exact h
end
end Mp
set_option Elab.async false
set_option linter.all false
set_option maxRecDepth 100000
set_option maxHeartbeats 4000000
/-! Mp: defs with a parameter of two stars; calls with keywords for it. -/
namespace KwX
open PySem PySem.Spec PyProof.Rows L2
theorem forIn_fix {A B : Type} {z : A} (f : B → A × List B → Sem (ForInStep (A × List B))) : ∀ (kws ex : List B), (∀ p ∈ kws, ∀ e, f p (z, e) = pure (.yield (z, e ++ [p]))) → forIn kws (z, ex) f = pure (z, ex ++ kws)
  | [], ex, _ => by rw [List.forIn_nil, List.append_nil]
  | p :: kws, ex, h => by
    rw [List.forIn_cons, h p List.mem_cons_self]
    show (forIn kws (z, ex ++ [p]) f) = _
    rw [forIn_fix f kws _ fun q hq => h q (List.mem_cons_of_mem _ hq), List.append_assoc]
    rfl
theorem zip_lookup : ∀ {ps : List Str} {us : List Value}, us.length = ps.length → ps.Nodup → ∀ n ∈ ps, ∃ u, (ps.zip us).lookup n = some u
  | [], _, _, _, _, h => by cases h
  | p :: ps, u :: us, hl, hn, n, h => by
    rw [List.zip_cons_cons, List.lookup_cons]
    by_cases e : n = p
    · subst e
      simp
    · rw [show (n == p) = false by simpa using e]
      rcases List.mem_cons.mp h with h | h
      · exact absurd h e
      · exact zip_lookup (by simpa using hl) (List.nodup_cons.mp hn).2 n h
theorem fm_congr {A B : Type} {f g : A → Option B} : ∀ {l : List A}, (∀ x ∈ l, f x = g x) → l.filterMap f = l.filterMap g
  | [], _ => rfl
  | x :: l, h => by
    rw [List.filterMap_cons, List.filterMap_cons, h x List.mem_cons_self, fm_congr fun y hy => h y (List.mem_cons_of_mem _ hy)]
theorem zip_fm : ∀ {ps : List Str} {us : List Value}, us.length = ps.length → ps.Nodup → (ps.filterMap fun n => ((ps.zip us).lookup n).map (n, ·)) = ps.zip us
  | [], [], _, _ => rfl
  | p :: ps, u :: us, hl, hn => by
    have hn := List.nodup_cons.mp hn
    have e : (ps.filterMap fun n => (((p, u) :: ps.zip us).lookup n).map (n, ·)) = ps.filterMap fun n => ((ps.zip us).lookup n).map (n, ·) := fm_congr fun n hm => by
      rw [List.lookup_cons, show (n == p) = false from beq_eq_false_iff_ne.mpr fun z => hn.1 (z ▸ hm)]
    rw [List.filterMap_cons, List.zip_cons_cons, List.lookup_cons_self]
    show (p, u) :: _ = _
    rw [e, zip_fm (by simpa using hl) hn.2]
theorem bindArgs_kw {fd : FuncData} {ps : List Str} {ar : Arg} (hp : fd.params.posonlyargs = []) (ha : fd.params.args.map (·.arg) = ps) (hk : fd.params.kwonlyargs = []) (hv : fd.params.vararg = none) (hkw : fd.params.kwarg = some ar) (hd : fd.defaults = .none) (us : List Value) (kws : List (Str × Value)) (hl : us.length = ps.length) (hnot : ∀ p ∈ kws, p.1 ∉ ps) (hz : kws.length ≤ sizeLine + 1) (nd : ps.Nodup) : bindArgs fd ⟨us, kws⟩ = ((alloc ({ cls := .type "dict", data := .dict #[] } : Obj) : Sem Addr) >>= fun d => forIn kws PUnit.unit (fun x _ => nsSet d x.1 x.2 >>= fun _ => pure (ForInStep.yield PUnit.unit)) >>= fun _ => pure (ps.zip us ++ [(ar.arg, .ref d)])) := by
  unfold bindArgs
  simp only [hp, ha, hk, hv, hkw, hd, List.map_nil, List.nil_append, List.append_nil]
  rw [forIn_fix (z := ps.zip us) _ kws [] fun p hm e => by
    have h1 : ps.contains p.1 = false := by simpa using hnot p hm
    rw [h1]
    rfl]
  have hmiss : (List.filter (fun n => (List.lookup n (ps.zip us)).isNone) ps) = [] := by
    rw [List.filter_eq_nil_iff]
    intro n hn
    obtain ⟨u, e⟩ := zip_lookup hl nd n hn
    rw [e]
    simp
  have e0 : seqItems? Value.none = pure none := rfl
  simp only [e0, pure_bind, Option.getD_none, List.nil_append]
  have h2 : (decide (us.length > ps.length) && (none : Option Arg).isNone) = false := by simp [hl]
  rw [h2]
  simp [hmiss, zip_fm hl nd]
  intro z
  omega
/-! ### the dict is filled -/
section
variable {prog : Program} {w : World} {A : Around} {E : Value → Shared → Prop} {d : Addr}
theorem putName_new {es : List DictEntry} {n : Nat} {k : Str} {hsh : Int} {key v : Value} (hs : ∀ e ∈ es, e.key.isStr k = false) : Obj.putName k hsh key v (PySem.W.dictOf es n) = PySem.W.dictOf (es ++ [⟨hsh, key, v⟩]) (n + 1) := by
  have e1 : es.any (·.key.isStr k) = false := by
    cases q : es.any (·.key.isStr k) with
    | false => rfl
    | true => obtain ⟨e, he, z⟩ := List.any_eq_true.mp q; rw [hs e he] at z; cases z
  rw [PySem.W.putName_dict, PySem.W.putL_new hs]
  show PySem.W.dictOf _ (if es.any (·.key.isStr k) then n else n + 1) = _
  rw [e1, if_neg Bool.false_ne_true]
theorem nsSet_new {s : Shared} {es : List DictEntry} {n : Nat} {k : Str} {v : Value} {Q : Unit → Shared → Prop} (D : s.heap.get? d = some (PySem.W.dictOf es n))
    (hs : ∀ e ∈ es, e.key.isStr k = false) (hr : ∀ e ∈ es, e.refKey = false)
    (h : ∀ h', Heap.SameBut d s.heap h' → h'.get? d = some (PySem.W.dictOf (es ++ [⟨PyData.keyHash w.params k, .str k s.toks, v⟩]) (n + 1)) → Q () { s with heap := h', toks := s.toks + 1 }) :
    wpAny (model prog w) A (nsSet d k v) Q E s := by
  have e2 : es.any (·.refKey) = false := by
    cases q : es.any (·.refKey) with
    | false => rfl
    | true => obtain ⟨e, he, z⟩ := List.any_eq_true.mp q; rw [hr e he] at z; cases z
  have c : aRefKeyMayBeTheName k es.toArray = false := by
    rw [aRefKeyMayBeTheName_at, ← Array.any_toList, ← Array.any_toList]
    show (!es.any (·.key.isStr k) && es.any (·.refKey)) = false
    rw [e2, Bool.and_false]
  unfold nsSet
  refine wpAny_bind (wpAny_bind (wpAny_askSetting (wpAny_pure (wpAny_bind (wpAny_mkText (wpAny_bind (wpAny_loadPart D ?_)))))))
  dsimp only
  rw [c]
  refine wpAny_updatePart D (h _ (Heap.SameBut.update ..) ?_)
  have e := putName_new (n := n) (hsh := PyData.keyHash w.params k) (key := .str k s.toks) (v := v) hs
  rw [← e]
  exact Heap.get?_update_self _ D (by show (Obj.putName k (PyData.keyHash w.params k) (.str k s.toks) v (PySem.W.dictOf es n)).isFreed = false; rw [e]; rfl)
theorem fill_ok {Q : PUnit → Shared → Prop} : ∀ (ex : List (Str × Value)) (s : Shared) (es : List DictEntry) (n : Nat), s.heap.get? d = some (PySem.W.dictOf es n) →
    (∀ e ∈ es, ∀ x ∈ ex, e.key.isStr x.1 = false) → (∀ e ∈ es, e.refKey = false) → (ex.map (·.1)).Nodup →
    (∀ h', Heap.SameBut d s.heap h' → h'.get? d = some (PySem.W.dictOf (es ++ PySem.W.kwEs w.params s.toks ex) (n + ex.length)) → Q ⟨⟩ { s with heap := h', toks := s.toks + ex.length }) →
    wpAny (model prog w) A (forIn ex PUnit.unit fun x _ => (nsSet d x.1 x.2 >>= fun _ => pure (ForInStep.yield PUnit.unit))) Q E s
  | [], s, es, n, D, _, _, _, h => by
    rw [List.forIn_nil]
    refine wpAny_pure (h s.heap (Heap.SameBut.refl _ _) ?_)
    rw [show PySem.W.kwEs w.params s.toks [] = [] from rfl, List.append_nil]
    exact D
  | x :: r, s, es, n, D, hs, hr, hn, h => by
    obtain ⟨hn1, hn2⟩ := List.nodup_cons.mp (show (x.1 :: r.map (·.1)).Nodup from hn)
    rw [List.forIn_cons]
    refine wpAny_bind (wpAny_bind (nsSet_new D (fun e he => hs e he x (.head _)) hr fun h' S' D' => wpAny_pure ?_))
    show wpAny (model prog w) A (forIn r PUnit.unit fun x _ => (nsSet d x.1 x.2 >>= fun _ => pure (ForInStep.yield PUnit.unit))) Q E { s with heap := h', toks := s.toks + 1 }
    refine fill_ok r { s with heap := h', toks := s.toks + 1 } _ _ D' (fun e he y hy => ?_) (fun e he => ?_) hn2 fun h'' S'' D'' => ?_
    · rcases List.mem_append.mp he with he | he
      · exact hs e he y (.tail _ hy)
      · obtain rfl := List.mem_singleton.mp he
        show (x.1 == y.1) = false
        exact beq_eq_false_iff_ne.mpr fun q => hn1 (by rw [q]; exact List.mem_map_of_mem hy)
    · rcases List.mem_append.mp he with he | he
      · exact hr e he
      · obtain rfl := List.mem_singleton.mp he
        rfl
    · have t1 : s.toks + 1 + r.length = s.toks + (r.length + 1) := by omega
      have t2 : n + 1 + r.length = n + (r.length + 1) := by omega
      show Q ⟨⟩ { s with heap := h'', toks := s.toks + 1 + r.length }
      rw [t1]
      refine h h'' (S'.trans S'') ?_
      rw [t2, List.append_assoc] at D''
      exact D''
def kK {T : Type} (l : List (Str × T)) : List (Key × T) := l.map fun p => (.inr p.1, p.2)
theorem kwEs_keyed : ∀ (ex : List (Str × Value)) (t : Tok), ∀ e ∈ PySem.W.kwEs w.params t ex, ∃ k, (mixKind prog w).is k e.key = true ∧ e.hash = (mixKind prog w).hash k := fun ex t e he => by
  obtain ⟨k, u, hk, hh⟩ := PySem.W.kwEs_key ex t e he
  exact ⟨.inr k, by rw [hk]; exact mixKind_str prog w k u, hh.trans rfl⟩
theorem kwEs_pairs : ∀ (ex : List (Str × Value)) (t : Tok), Pairs (mixKind prog w) (PySem.W.kwEs w.params t ex) (kK ex)
  | [], _ => Pairs.nil
  | x :: r, t => Pairs.cons (mixKind_str prog w x.1 t) rfl (kwEs_pairs r (t + 1))
theorem kK_nodup {T : Type} {l : List (Str × T)} (h : (l.map (·.1)).Nodup) : ((kK l).map (·.1)).Nodup := by
  unfold kK
  rw [List.map_map]
  have e : (l.map ((fun p : Key × T => p.1) ∘ fun p : Str × T => ((Sum.inr p.1, p.2) : Key × T))) = (l.map (·.1)).map (Sum.inr : Str → Key) := by rw [List.map_map]; rfl
  rw [e]
  generalize l.map (·.1) = ks at h
  induction ks with
  | nil => exact .nil
  | cons k ks ih =>
    rw [List.nodup_cons] at h
    rw [List.map_cons, List.nodup_cons]
    refine ⟨fun z => ?_, ih h.2⟩
    obtain ⟨j, hj, e⟩ := List.mem_map.mp z
    exact h.1 (Sum.inr.inj e ▸ hj)
theorem dictOf_kw {h : Heap} {ex : List (Str × Value)} {t : Tok} {n : Nat} (D : h.get? d = some (PySem.W.dictOf (PySem.W.kwEs w.params t ex) n)) (hn : (ex.map (·.1)).Nodup) : h.DictOf (mixKind prog w) d (kK ex) :=
  ⟨_, _, _, D, ⟨rfl, rfl, rfl⟩, rfl, fun e he => kwEs_keyed ex t e (List.mem_toArray.mp he), kwEs_pairs ex t, kK_nodup hn⟩
end
/-! ### a new object laid ahead of a def's body, in more than one step -/
section
variable {P : Program} {w : World} {K : PySem.W.Frag} {mg : Str → Option Value} {base : Heap} {A : Around} {outer : List Env} {s : Shared} {H : Hp}
theorem env0_put {h' : Heap} {t' : Nat} {u : HO} (e0 : Env0 P w K mg base A outer s H) (kp : ∀ b x, s.heap.get? b = some x → h'.get? b = some x) (sz : s.heap.objs.size ≤ h'.objs.size) (new : ObjOk P w (upd H s.heap.objs.size u) h' s.heap.objs.size u) :
    Env0 P w K mg base A outer { s with heap := h', toks := t' } (upd H s.heap.objs.size u) := by
  refine ⟨e0.frames, e0.mod, fun b x e => ⟨kp b x (e0.bs b x e).1, ?_⟩, ?_, Heap.FunFrames.of_keeps (fun b x e _ => ⟨x, kp b x e, rfl⟩) e0.funs, fun b hb => ?_, e0.hok.laid kp (Nat.le_refl _) new, e0.bare⟩
  · rw [upd_ne (Nat.ne_of_lt (Heap.lt_size (e0.bs b x e).1))]
    exact (e0.bs b x e).2
  · show base.objs.size ≤ h'.objs.size
    exact Nat.le_trans e0.bsz sz
  · obtain ⟨_, x, hx, _⟩ := e0.funs.mem hb
    rw [upd_ne (Nat.ne_of_lt (Heap.lt_size hx))]
    exact e0.frf b hb
end
end KwX
namespace Mp
open PySem PySem.Spec PyProof.Rows L2
/-- the keys as texts -/
def kS : List (Key × D) → Option (List (Str × D))
  | [] => some []
  | (.inr k, d) :: l => (kS l).map fun r => (k, d) :: r
  | (.inl _, _) :: _ => none
theorem kS_kK : ∀ {m : List (Key × D)} {l : List (Str × D)}, kS m = some l → m = KwX.kK l
  | [], l, h => by
    cases h
    rfl
  | (.inr k, d) :: m, l, h => by
    unfold kS at h
    cases e : kS m with
    | none => rw [e] at h; cases h
    | some r =>
      rw [e] at h
      cases h
      rw [kS_kK e]
      rfl
  | (.inl _, _) :: _, _, h => by cases h
/-- the body of a def f(a, .., **d): the last value is the dict -/
def bodyK (ps : List Str) (n : Nat) (b : DS) : DF := fun ds s => match ds.getLast? with
  | some (.dct m) => (match kS m with
    | some l => if ds.length = ps.length + 1 ∧ (l.map (·.1)).Nodup ∧ (∀ k ∈ l.map (·.1), k ∉ ps) ∧ l.length ≤ 1000 then bodyX n b ds s else .bad
    | none => .bad)
  | _ => .bad
/-- values by position, values by keywords -/
def spDK (K : Frag) (m : DF) (vs : List V) (kvs : List (Str × V)) : Hp → VK → XK → Prop := fun H Q E => ∃ ds dks so u, u.H = H ∧ Reps K u vs ds ∧ KVR K u kvs dks ∧ StR K u so ∧ Post K (Rep K) u E Q (m (ds ++ [.dct (KwX.kK dks)]) so)
def FnDK (P : Program) (w : World) (K : Frag) (mg : Str → Option Value) (base : Heap) (k : Nat) (f : Addr) (m : DF) : Prop :=
  ∀ (A : Around) (outer : List Env) (s : Shared) (H : Hp) (us : List Value) (vs : List V) (kws : List (Str × Value)) (kvs : List (Str × V)) (Q : VK) (E : XK), Rm k A → Env0 P w K mg base A outer s H → Vals vs us → KV kvs kws → spDK K m vs kvs H Q E →
    codeAny (model P w) A (.call (.ref f) ⟨us, kws⟩) (CR (L2.CX P w) outer P w H s Q E) s
theorem FnDK.mono {P : Program} {w : World} {K : Frag} {mg : Str → Option Value} {base : Heap} {j k : Nat} {f : Addr} {m : DF} (F : FnDK P w K mg base j f m) (h : j ≤ k) : FnDK P w K mg base k f m := fun A outer s H us vs kws kvs Q E hr => F A outer s H us vs kws kvs Q E (hr.mono h)
theorem kv_keys {T : Type} : ∀ {l : List (T × V)} {m : List (T × Value)}, KV l m → l.map (·.1) = m.map (·.1)
  | _, _, .nil => rfl
  | _, _, .cons h r => by
    rw [List.map_cons, List.map_cons, h.1, kv_keys r]
theorem kv_len {T : Type} {l : List (T × V)} {m : List (T × Value)} (h : KV l m) : l.length = m.length := by
  have := congrArg List.length (kv_keys h)
  simpa using this
theorem kv_kK : ∀ {l : List (Str × V)} {m : List (Str × Value)}, KV l m → KV (KwX.kK l) (KwX.kK m)
  | _, _, .nil => .nil
  | _, _, .cons h r => .cons ⟨congrArg Sum.inr h.1, h.2⟩ (kv_kK r)
theorem kvr_kK {K : Frag} {w : Wd} : ∀ {l : List (Str × V)} {m : List (Str × D)}, KVR K w l m → KVR K w (KwX.kK l) (KwX.kK m)
  | _, _, .nil => .nil
  | _, _, .cons h r => .cons h (kvr_kK r)
theorem kS_of : ∀ (l : List (Str × D)), kS (KwX.kK l) = some l
  | [] => rfl
  | (k, d) :: l => by
    show (kS (KwX.kK l)).map _ = _
    rw [kS_of l]
    rfl
section
variable {P : Program} {w : World} {K : Frag} {mg : Str → Option Value} {base : Heap}
theorem fn_okK {x qual : Str} {params : Arguments} {body : List Stmt} {scope : Scope} {kws0 : List (Str × V)} {f : Addr} {fd : FuncData} {N ps : List Str} {pk : Str} {k : Nat} {b : DS} (F : FunD K x qual params body scope [] kws0 f fd) (S : FnScope N (ps ++ [pk]) scope)
    (hp : params.posonlyargs = []) (ha : params.args.map (·.arg) = ps) (hk : params.kwonlyargs = []) (hv : params.vararg = none) (hkw0 : params.kwarg.map (·.arg) = some pk) (nd : ps.Nodup)
    (hbody : BodyD P w K mg base N qual scope f k body b) : FnDK P w K mg base (k + 1) f (bodyK ps N.length b) := by
  obtain ⟨ar, hkw, rfl⟩ : ∃ ar, params.kwarg = some ar ∧ ar.arg = pk := by
    cases e : params.kwarg with
    | none => rw [e] at hkw0; cases hkw0
    | some ar => rw [e] at hkw0; exact ⟨ar, rfl, Option.some.inj hkw0⟩
  obtain ⟨oc, od, dV, kV, doc, pm, an, cdv, ct, osl, rfl, lk, hcd, hD, hK⟩ := F.ex
  rcases hD with ⟨_, rfl⟩ | ⟨e, _⟩
  · intro A outer s H us vs kws kvs Q E hr e0 r rk h
    obtain ⟨ds, dks, so, u, rfl, rs, rd, st, hpost⟩ := h
    unfold bodyK at hpost
    rw [List.getLast?_append, show ([D.dct (KwX.kK dks)] : List D).getLast? = some (.dct (KwX.kK dks)) from rfl] at hpost
    dsimp only [Option.or] at hpost
    rw [kS_of] at hpost
    dsimp only at hpost
    split at hpost
    · rename_i hc
      obtain ⟨hlen, hnd, hnot, hfew⟩ := hc
      have l1 := rs.length
      have hlen : ds.length = ps.length := by
        rw [List.length_append] at hlen
        simpa using hlen
      have hlu : us.length = ps.length := by rw [← r.length]; omega
      have ek : kws.map (·.1) = dks.map (·.1) := by rw [← kv_keys rk, rd.keys]
      have hkl : kws.length = dks.length := by rw [← kv_len rk, rd.length]
      have hz : sizeLine = 16777216 := by decide
      have hn : u.H s.heap.objs.size = none := e0.hok.fresh (Nat.le_refl _)
      have hnd2 : (kws.map (·.1)).Nodup := by rw [ek]; exact hnd
      have e1 := Wd.frz_ext st (o := .frz (PySem.W.dictOf (PySem.W.kwEs w.params s.toks kws) (0 + kws.length)) (.dK (KwX.kK kvs))) hn
      have st1 := Wd.frz_st st (o := .frz (PySem.W.dictOf (PySem.W.kwEs w.params s.toks kws) (0 + kws.length)) (.dK (KwX.kK kvs))) hn
      generalize hob : PySem.W.dictOf (PySem.W.kwEs w.params s.toks kws) (0 + kws.length) = ob at e1 st1
      have rsT : Reps K (u.frz s.heap.objs.size (.frz ob (.dK (KwX.kK kvs)))) (vs ++ [V.ref s.heap.objs.size]) (ds ++ [.dct (KwX.kK dks)]) :=
        (rs.ext e1).append (.cons (Rep.dctK (w := u.frz s.heap.objs.size (.frz ob (.dK (KwX.kK kvs)))) Wd.frz_z Wd.frz_h (kvr_kK (rd.ext e1))) .nil)
      refine StX.run_bnd lk hcd S hr.rm e0 (G := fun xs H2 => xs = vs ++ [V.ref s.heap.objs.size] ∧ H2 = (u.frz s.heap.objs.size (.frz ob (.dK (KwX.kK kvs)))).H) (fun A' Ex Q' h => ?_) fun s2 H2 xs hx hr' => ?_
      · rw [KwX.bindArgs_kw (fd := PySem.W.fnOf x qual params body scope .none kV doc pm an cdv ct) hp ha hk hv hkw rfl us kws hlu (fun p hpm => hnot p.1 (by rw [← ek]; exact List.mem_map_of_mem hpm)) (by omega) nd]
        refine wpAny_bind (wpAny_alloc ?_)
        refine wpAny_bind (KwX.fill_ok (d := s.heap.objs.size) kws _ [] 0 (Heap.get?_push_size _ rfl) (fun _ he => nomatch he) (fun _ he => nomatch he) hnd2 fun h' sb hd => wpAny_pure ?_)
        rw [List.nil_append] at hd
        have hd : h'.get? s.heap.objs.size = some (PySem.W.dictOf (PySem.W.kwEs w.params s.toks kws) (0 + kws.length)) := hd
        have kp : ∀ b o, s.heap.get? b = some o → h'.get? b = some o := fun b o e => by
          rw [sb.2 b (Nat.ne_of_lt (Heap.lt_size e))]
          exact Heap.get?_push_of_some _ e
        have sz : s.heap.objs.size ≤ h'.objs.size := by
          rw [sb.1]
          show _ ≤ (s.heap.push _).objs.size
          rw [Heap.size_push]
          omega
        have hnew : ObjOk P w (upd u.H s.heap.objs.size (.frz ob (.dK (KwX.kK kvs)))) h' s.heap.objs.size (.frz ob (.dK (KwX.kK kvs))) := by
          refine ⟨by rw [← hob]; exact hd, ?_, ?_, KwX.kK kws, kv_kK rk, KwX.dictOf_kw hd hnd2⟩
          · have : (KwX.kK kvs).length = kvs.length := by unfold KwX.kK; rw [List.length_map]
            rw [this, kv_len rk, hkl]
            omega
          · exact beq_eq_false_iff_ne.mpr (Nat.ne_of_gt (StX.env0_big e0))
        have hun : Un (frs outer) [] u.H (upd u.H s.heap.objs.size (.frz ob (.dK (KwX.kK kvs)))) s.heap h' := Un.laid kp (Nat.le_refl _) hn
        have q := h { s with heap := h', toks := s.toks + kws.length } _ (vs ++ [V.ref s.heap.objs.size]) (us ++ [Value.ref s.heap.objs.size]) (KwX.env0_put e0 kp sz hnew) hun rfl (fun er s3 => StX.cxUp outer s u.H _ _ E er s3 hun kp rfl) (r.append (.cons rfl .nil)) (by rw [List.length_append, List.length_append, r.length, hlu] <;> rfl) ⟨rfl, rfl⟩
        rw [List.zip_append hlu.symm] at q
        exact q
      · obtain ⟨rfl, rfl⟩ := hx
        exact ⟨_, hbody cdv A outer s2 _ E (hr.deeper _), body_end rsT st1 (Post.ext e1 hpost)⟩
    · exact hpost.elim
  · exact absurd rfl e
end
end Mp
set_option Elab.async false
set_option linter.all false
set_option maxRecDepth 100000
set_option maxHeartbeats 4000000
/-! Mp: an own class called with keywords, with a dict behind two stars. -/
namespace KwX
open PySem PySem.Spec PyProof.Rows L2
section
variable {M : Model} {A : Around} {E : Value → Shared → Prop} {s : Shared} {K : PySem.W.Frag} {f : Value} {first : List Value} {Q : Value → Shared → Prop} {pos : Pos} {args : List (Bool × Sem Value)} {kws : List (Option Str × Sem Value)}
theorem callWith_DS (hk : PySem.W.keepIn K f = true) (hst : (args.any (·.1) || kws.any (·.1.isNone)) = true) (h : wpAny M A (evalArgs f true args kws) (fun a s₁ => K.In s₁.heap ∧ wpAny M A (call f (first ++ a.pos) a.kw) Q E s₁) E s) :
    wpAny M A (callWith pos f first args kws) Q E s := by
  unfold callWith
  refine wpAny_bind (wpAny_holding (wpAny_mono h (fun a s₁ h₁ => wpAny_bind (wpAny_standAt ?_)) fun _ _ x => x))
  obtain ⟨k, hk', L⟩ := PySem.W.keeps_K (M := M) hk _ h₁.1
  simp only [hst]
  refine wpAny_bind (L.here ?_)
  have tail : ∀ {t : Sem Value}, wpAny M A t Q E s₁ → wpAny M A (t >>= fun r => holding [r] point >>= fun _ => pure r) Q E s₁ :=
    fun ht => wpAny_bind (wpAny_mono ht (fun r s₂ hr => wpAny_bind (wpAny_holding (wpAny_point (wpAny_pure hr)))) fun _ _ x => x)
  have marked (mk : Value) : wpAny M A (callMarked mk f (first ++ a.pos) a.kw) Q E s₁ := by unfold callMarked; exact Calls.wpAny_keep h₁.2
  rcases hk' with rfl | rfl | rfl <;> dsimp only <;> first | exact tail (marked _) | exact tail (PySem.W.wpAny_operating h₁.2) | exact tail (wpAny_operating h₁.2)
theorem evalArgs_DS {x : Sem Value} {rest : List (Bool × Sem Value)} {Q : Args → Shared → Prop} (hall : kws.all (·.1.isSome) = false)
    (h : wpAny M A (spliced ((false, x) :: rest)) (fun vs s₁ => wpAny M A (mergedKeywords f kws) (fun d s₂ => wpAny M A (keywordsIn f d) (fun kw s₃ => Q ⟨vs, kw⟩ s₃) E s₂) E s₁) E s) :
    wpAny M A (evalArgs f true ((false, x) :: rest) kws) Q E s := by
  unfold evalArgs
  show wpAny M A (spliced ((false, x) :: rest) >>= _) Q E s
  refine wpAny_bind (wpAny_mono h (fun vs s₁ h₁ => ?_) fun _ _ x => x)
  refine wpAny_holding ?_
  simp only [hall]
  refine wpAny_bind (wpAny_mono h₁ (fun d s₂ h₂ => ?_) fun _ _ x => x)
  refine wpAny_bind (wpAny_pure ?_)
  exact wpAny_bind (wpAny_holding (wpAny_mono h₂ (fun kw s₃ h₃ => wpAny_pure h₃) fun _ _ x => x))
end
section
variable {prog : Program} {w : World} {A : Around} {E : Value → Shared → Prop} {s : Shared} {f : Value} {d : Addr}
theorem keywordsIn_ok {l : List (Str × Value)} {Q : List (Str × Value) → Shared → Prop} (D : s.heap.DictOf (mixKind prog w) d (kK l)) (h : Q l s) : wpAny (model prog w) A (keywordsIn f d) Q E s := by
  obtain ⟨o, es, ep, ho, hc, hd, hk, hp, hn⟩ := D
  unfold keywordsIn
  refine wpAny_bind (wpAny_dictEntries ho hd ?_)
  have key : ∀ (es : List DictEntry) (l kw : List (Str × Value)) (g : DictEntry → List (Str × Value) → Sem (ForInStep (List (Str × Value)))), Pairs (mixKind prog w) es (kK l) →
      (∀ e kw k t, e.key = .str k t → g e kw = pure (.yield (kw ++ [(k, e.val)]))) → forIn es kw g = pure (kw ++ l) := by
    intro es
    induction es with
    | nil =>
      intro l kw g hp hg
      cases l with
      | nil => rw [List.forIn_nil, List.append_nil]
      | cons x l => cases hp
    | cons e es ih =>
      intro l kw g hp hg
      cases l with
      | nil => cases hp
      | cons x l =>
        have hp : Pairs (mixKind prog w) (e :: es) ((.inr x.1, x.2) :: kK l) := hp
        cases hp with
        | cons h1 h2 h3 =>
          rcases keyIs_shape (k := .inr x.1) h1 with ⟨i, t, z, _⟩ | ⟨y, t, z, ek⟩
          · exact nomatch z
          · obtain rfl := Sum.inr.inj z
            rw [List.forIn_cons, hg e kw x.1 t ek]
            show forIn es (kw ++ [(x.1, e.val)]) g = _
            rw [ih l _ g h3 hg, h2, List.append_assoc]
            rfl
  rw [← Array.forIn_toList, key es.toList l [] _ hp fun e kw k t ek => by
    rw [ek]]
  refine wpAny_bind (wpAny_pure ?_)
  exact wpAny_pure h
end
section
variable {X : Cx} {e : Expr} {te : TE} {pos kp : Pos} {f : Value}
theorem kwd_run (he : PE X e te) {pins : List (Addr × Obj)} {s : Shared} {σ : L2.St} {H : Hp} {Q : VK} (I : Inv X pins σ H s) (q : MmX.tSpr te σ H Q) :
    wpAny (model X.prog X.w) X.A (mergedKeywords f (backToKw pos (keywordEach [⟨none, e, kp⟩] X.env))) (fun d s' => EP X pins σ Q (.ref d) s') X.xe s := by
  have hn := I.hok.fresh (Nat.le_refl s.heap.objs.size)
  have I1 := I.laid (a := s.heap.objs.size) (o := .dK []) (h' := s.heap.push { cls := .type "dict", data := .dict #[] }) (t' := s.toks) (fun _ _ q => Heap.get?_push_of_some _ q) (Nat.le_refl _) (dk_empty s.heap I.big)
  show wpAny _ _ (mergedKeywords f [(none, do let x ← eval e X.env; standAt pos; pure x)]) _ _ s
  unfold mergedKeywords
  refine wpAny_bind (wpAny_alloc ?_)
  refine wpAny_bind (wpAny_holding ?_)
  dsimp only
  rw [List.forIn_cons]
  dsimp only
  refine wpAny_bind (wpAny_bind (wpAny_bind ?_))
  rw [if_pos (show ([] : List (Str × Sem Value)).isEmpty = true from rfl)]
  refine wpAny_pure ?_
  refine wpAny_bind (wpAny_bind (thn (he.run pins _ σ _ _ I1 (q _ hn)) fun v s2 ⟨x, H2, I2, rx, a, kvs, ex, ne, hd, hp, hq⟩ => wpAny_bind (wpAny_standAt (wpAny_pure ?_))))
  subst ex
  cases rx
  obtain ⟨z, lo, vs, rel, dd⟩ := dk_rd I2.hok hd
  obtain ⟨z0, hd0, vs0, r0, dd0⟩ := dk_of I2.hok hp
  cases r0
  refine wpAny_bind (wpAny_onRaise (wpAny_holding (wpAny_tryCatch (wpAny_onRaise (MmX.merge_ok (knd := mixKind X.prog X.w) (Ne.symm ne) lo dd0 dd (fun h' d' _ hs => ?_) (by rw [← rel.length]; exact z))))))
  refine wpAny_pure ?_
  dsimp only
  rw [List.forIn_nil]
  refine wpAny_pure ?_
  rw [if_pos (show ([] : List (Str × Sem Value)).isEmpty = true from rfl)]
  refine wpAny_pure ?_
  have he : ∃ q, h'.get? s.heap.objs.size = some q := let ⟨q, _, _, hq, _⟩ := d'; ⟨q, hq⟩
  exact wpAny_pure ⟨.ref s.heap.objs.size, _, d_write I2 (by rw [hp]; exact True.intro) hs he (dk_new z hd0 rel d'), rfl, hq⟩
end
end KwX
namespace Mp
open PySem PySem.Spec PyProof.Rows L2
/-- arguments by position, then a dict of keywords -/
def kwA (a : DM (List D)) (b : DM (List (Str × D))) : DM (List D) := bindM a fun ds => bindM b fun l => pureM (ds ++ [.dct (KwX.kK l)])
/-- **e -/
def sprK (e : DE) : DM (List (Str × D)) := bindM e fun x => fun _ s => match dctOf s x with
  | some m => (match kS m with
    | some l => .ok l s
    | none => .bad)
  | none => .bad
/-- k = e, .. -/
def kwM (ks : List Str) (b : DM (List D)) : DM (List (Str × D)) := bindM b fun es => pureM (ks.zip es)
section
variable {X : Cx} {W : WX} {a e : Expr} {es : List Expr} {pos p kp : Pos} {mr : DM (List D)} {me mn : DE} {x cc : Str} {k : Nat} {f : Addr} {mf : DF} {kws : List Keyword}
theorem run_makeAtK {pins : List (Addr × Obj)} {t : L2.St} {H : Hp} {s : Shared} {Q : VK} {E : XK} {us : List Value} {vs : List V} {kv : List (Str × Value)} {kz : List (Str × V)} {C : Addr} (M : Mk X.K C f) (F : FnDK X.prog X.w X.K X.mg X.base k f mf) (hr : Rm (k + 1) X.A)
    (hx : PassesAt (L2.CX X.prog X.w) X t E) (I : Inv X pins t H s) (r : Vals vs us) (rk : KV kz kv)
    (h : ∀ x dx, H x = none → H dx = none → dx ≠ x → spDK X.K mf (.ref x :: vs) kz (upd (upd H dx (.own x)) x (.ins C dx [])) (fun v H2 => v = .non ∧ Q (.ref x) H2) E) : wpAny (model X.prog X.w) X.A (call (.ref C) us kv) (EP X pins t Q) X.xe s := by
  have h0 := h (s.heap.objs.size + 1) s.heap.objs.size (I.hok.fresh (Nat.le_succ _)) (I.hok.fresh (Nat.le_refl _)) (Nat.ne_of_lt (Nat.lt_succ_self _))
  have J := Inv.made (C := C) I
  have rr : Vals (V.ref (s.heap.objs.size + 1) :: vs) (Value.ref (s.heap.objs.size + 1) :: us) := .cons rfl r
  refine wpAny_call (make_map (f := f) I.kIn M.makes M.init (beq_iff_eq.mp M.fn) (codeAny_mono (F _ X.stack _ _ (.ref (s.heap.objs.size + 1) :: us) _ kv kz _ E (hr.make C us kv) (J.env0.make C us kv) rr rk h0) fun z s' hz => ?_))
  cases z with
  | error er => exact hx pins _ _ er s' J hz
  | ok fl =>
    cases fl with
    | ret u =>
      obtain ⟨v, H3, J3, rv, ev, q3⟩ := J.after hz
      subst ev
      exact ⟨rv, ⟨.ref (s.heap.objs.size + 1), H3, J3, rfl, q3⟩⟩
    | next => exact hz.elim
    | brk => exact hz.elim
    | cont => exact hz.elim
theorem make_midK {w : Wd} {s : Sto} {vs : List V} {dv : List D} {kz : List (Str × V)} {kd : List (Str × D)} {t : L2.St} {Q : VK} {E : XK} {cc : Str} {kk : Bool} (st : StR X.K w s) (rs : Reps X.K w vs dv) (rk : KVR X.K w kz kd)
    (hp : Post X.K (Rep X.K) w E Q (match mf (.cel s.length :: (dv ++ [.dct (KwX.kK kd)])) (s ++ [some (.ins cc [])]) with
      | .ok .non s' => freezeI kk s.length s'
      | .ok _ _ => .bad
      | .exc E fs s' => .exc E fs s'
      | .bad => .bad)) :
    ∀ x dx, w.H x = none → w.H dx = none → dx ≠ x → spDK X.K mf (.ref x :: vs) kz (upd (upd w.H dx (.own x)) x (.ins (He.ga X.K cc) dx [])) (fun v H2 => v = .non ∧ Q (.ref x) H2) E := fun x dx nx ndx ne => by
  have e1 := Wd.put_ext st (o := .own x) ndx
  have st1 := Wd.put_st st (o := .own x) ndx
  have nx1 : (w.put dx (.own x)).H x = none := (upd_ne fun z => ne z.symm).trans nx
  have e2 := Wd.cell_ext st1 (o := .ins (He.ga X.K cc) dx []) nx1
  have st2 : StR X.K ((w.put dx (.own x)).cell s.length x (.ins (He.ga X.K cc) dx [])) (s ++ [some (.ins cc [])]) := Wd.cell_st st1 nx1 ⟨dx, [], upd_same, .nil⟩
  have hA : ((w.put dx (.own x)).cell s.length x (.ins (He.ga X.K cc) dx [])).A s.length = some x := if_pos rfl
  have rs2 : Reps X.K ((w.put dx (.own x)).cell s.length x (.ins (He.ga X.K cc) dx [])) (.ref x :: vs) (.cel s.length :: dv) := .cons (.cel hA) (rs.ext (e1.trans e2))
  refine ⟨.cel s.length :: dv, kd, _, (w.put dx (.own x)).cell s.length x (.ins (He.ga X.K cc) dx []), rfl, rs2, rk.ext (e1.trans e2), st2, ?_⟩
  have hp2 := Post.ext (e1.trans e2) hp
  show Post _ _ _ _ _ (mf (.cel s.length :: (dv ++ [.dct (KwX.kK kd)])) (s ++ [some (.ins cc [])]))
  cases e : mf (.cel s.length :: (dv ++ [.dct (KwX.kK kd)])) (s ++ [some (.ins cc [])]) with
  | bad => rw [e] at hp2; exact hp2
  | exc E2 fs s2 => rw [e] at hp2; exact hp2
  | ok d s3 =>
    rw [e] at hp2
    intro v w3 e3 st3 rv
    cases rv with
    | non =>
      refine ⟨rfl, ?_⟩
      have A3 := e3.A _ _ hA
      have hp3 := Post.ext e3 hp2
      dsimp only at hp3
      unfold freezeI at hp3
      cases kk with
      | true => exact hp3.pure st3 (.cel A3)
      | false =>
        have hp4 : Post X.K (Rep X.K) w3 E Q (match s3[s.length]? with
          | some (some (.ins C fs)) => .ok (.ins C fs) (s3.set s.length none)
          | _ => .bad) := hp3
        cases e5 : s3[s.length]? with
        | none => rw [e5] at hp4; exact hp4.elim
        | some oc =>
          rw [e5] at hp4
          cases oc with
          | none => exact hp4.elim
          | some ct =>
            cases ct with
            | ins C fs =>
              obtain ⟨a1, h1, hz, dx1, l, hh, kv⟩ := st3.at_ _ _ e5
              have ea : a1 = x := Option.some.inj (h1.symm.trans A3)
              subst ea
              exact hp4 (.ref a1) (w3.ice a1) Wd.ice_ext (Wd.ice_st st3 e5 h1) (.insK (.inr rfl) hh (kv.ext Wd.ice_ext))
            | _ => exact hp4.elim
    | _ => exact hp2.elim
/-- what {**e} asks, of data -/
theorem spr_imp {t : L2.St} {H : Hp} {Q : VK} {te : TE} (hte : te = tE X.K W me) (h : tE X.K W (sprM me) t H Q) : MmX.tSpr te t H (fun v H1 => Q v H1 ∨ ∃ d u, v = .ref d ∧ H1 d = some u ∧ Mut (some u) ∧ ∀ od, Q v (upd H1 d (.frz od u))) := by
  subst hte
  obtain ⟨r, s, w, rfl, env, st, hp⟩ := h
  intro p np
  have hz : ¬ w.Z p := fun z => st.fz p z np
  have hP : ¬ w.P p := fun z => (st.pz p z).2 np
  have ex : Ext w (w.pin p (.dK [])) := Wd.pin_ext st np
  refine ⟨r, s, w.pin p (.dK []), rfl, env.ext ex, Wd.pin_st st np, ?_⟩
  unfold sprM bindM at hp
  cases em : me r s with
  | exc C fs s1 =>
    rw [em] at hp
    exact fun ed w' e' st' x' => hp ed w' (ex.trans e') st' x'
  | bad => rw [em] at hp; exact hp
  | ok d s1 =>
    rw [em] at hp
    dsimp only at hp
    intro x w1 e1 st1 r1
    cases ed : dctOf s1 d with
    | none => rw [ed] at hp; exact hp.elim
    | some m =>
      rw [ed] at hp
      obtain ⟨a, l, rfl, hd, kv⟩ := dctOf_ok st1 r1 ed
      have hP1 : w1.P p := e1.P p (.inr rfl)
      have hh1 : w1.H p = some (.dK []) := (e1.HP p (.inr rfl)).trans upd_same
      by_cases hap : a = p
      · subst hap
        exfalso
        cases d with
        | dct m1 =>
          obtain ⟨a, o, l, e2, z, h1, h2⟩ := r1.dct_inv
          cases e2
          exact (st1.pz a hP1).1 z
        | cel n =>
          cases r1 with
          | cel ha =>
            unfold dctOf at ed
            dsimp only at ed
            cases es : s1[n]? with
            | none => rw [es] at ed; cases ed
            | some o =>
              cases o with
              | none => rw [es] at ed; cases ed
              | some c => exact st1.np n c _ es ha hP1
        | _ => cases ed
      · refine ⟨a, l, rfl, hap, hd, hh1, .inr ⟨p, .dK l, rfl, upd_same, trivial, fun od => ?_⟩⟩
        obtain ⟨w2, e2, x2, st2, rp⟩ := unpin_frz (ex.trans e1) st1 hP hz hP1 kv od
        have e3 : upd (upd w1.H p (.dK l)) p (.frz od (.dK l)) = w2.H := by
          rw [e2]
          funext b
          by_cases hb : b = p
          · subst hb; rw [upd_same, upd_same]
          · rw [upd_ne hb, upd_ne hb, upd_ne hb]
        rw [e3]
        exact hp (.ref p) w2 x2 st2 rp
/-- the keywords of a dict behind two stars, as they are handed over -/
theorem kws_run {fv : Value} {pins : List (Addr × Obj)} {s : Shared} {t : L2.St} {w : Wd} {r : En} {so : Sto} {P : List (Str × Value) → Shared → Prop} (he : PE X e (tE X.K W me)) (I : Inv X pins t w.H s) (env : EnvR X.K w r t) (st : StR X.K w so) {T : Type} {R : Wd → V → T → Prop} {E : XK} {Q : VK}
    {g : List (Str × D) → DM T} (hE : E = fun c d H' => W c d t H') (hp : Post X.K R w E Q (bindM (sprK me) g r so))
    (k : ∀ kv kz kd s3 w3 so3, Inv X pins t w3.H s3 → KV kz kv → Ext w w3 → StR X.K w3 so3 → KVR X.K w3 kz kd → Post X.K R w3 E Q (g kd r so3) → P kv s3) :
    wpAny (model X.prog X.w) X.A (mergedKeywords fv (backToKw pos (keywordEach [⟨none, e, kp⟩] X.env))) (fun d s2 => wpAny (model X.prog X.w) X.A (keywordsIn fv d) P X.xe s2) X.xe s := by
  subst hE
  have hs : tE X.K W (sprM me) t w.H (fun v H1 => ∃ d o l kd w3 so3, v = .ref d ∧ H1 = w3.H ∧ w3.H d = some (.frz o (.dK (KwX.kK l))) ∧ Ext w w3 ∧ StR X.K w3 so3 ∧ KVR X.K w3 l kd ∧ Post X.K R w3 (fun c d H' => W c d t H') Q (g kd r so3)) := by
    refine ⟨r, so, w, rfl, env, st, ?_⟩
    unfold sprK bindM at hp
    unfold sprM bindM
    cases em : me r so with
    | exc C fs s1 => rw [em] at hp; exact hp
    | bad => rw [em] at hp; exact hp
    | ok d s1 =>
      rw [em] at hp
      dsimp only at hp ⊢
      cases ed : dctOf s1 d with
      | none => rw [ed] at hp; exact hp.elim
      | some m =>
        rw [ed] at hp
        dsimp only at hp ⊢
        cases ek : kS m with
        | none => rw [ek] at hp; exact hp.elim
        | some l =>
          rw [ek] at hp
          dsimp only at hp
          intro v w3 e3 st3 r3
          have e5 := kS_kK ek
          subst e5
          obtain ⟨a, o, lv, rfl, z, hh, kvr⟩ := r3.dct_inv
          obtain ⟨lz, elz, kz⟩ : ∃ lz : List (Str × V), lv = KwX.kK lz ∧ KVR X.K w3 lz l := by
            clear hp ed ek hh z r3
            induction l generalizing lv with
            | nil =>
              cases kvr
              exact ⟨[], rfl, .nil⟩
            | cons q l ih =>
              obtain ⟨qk, qd⟩ := q
              cases kvr with
              | cons h1 h2 =>
                obtain ⟨lz, e1, h3⟩ := ih _ h2
                subst e1
                exact ⟨(qk, _) :: lz, rfl, .cons h1 h3⟩
          subst elz
          exact ⟨a, o, lz, l, w3, s1, rfl, rfl, hh, e3, st3, kz, Post.ext e3 hp⟩
  refine thn (KwX.kwd_run he I (spr_imp rfl hs)) fun d s2 ⟨v, H1, I1, rv, q⟩ => ?_
  obtain ⟨H2, I2, a, o, l, kd, w3, so3, ev, eH, hh, e3, st3, kz, hp3⟩ : ∃ H2, Inv X pins t H2 s2 ∧ ∃ d o l kd w3 so3, v = .ref d ∧ H2 = w3.H ∧ w3.H d = some (.frz o (.dK (KwX.kK l))) ∧ Ext w w3 ∧ StR X.K w3 so3 ∧ KVR X.K w3 l kd ∧ Post X.K R w3 (fun c d H' => W c d t H') Q (g kd r so3) := by
    rcases q with q | ⟨d', u, e1, hd, mu, q⟩
    · exact ⟨H1, I1, q⟩
    · obtain ⟨od, I2⟩ := I1.lock hd mu
      exact ⟨_, I2, q od⟩
  subst ev
  subst eH
  obtain rfl : d = a := Value.ref.inj rv
  obtain ⟨z, lo, vs, rel, dd⟩ := dk_rd I2.hok (.inr ⟨o, hh⟩)
  obtain ⟨kv, ekv, rkv⟩ : ∃ kv : List (Str × Value), vs = KwX.kK kv ∧ KV l kv := by
    clear hp3 kz hh rv q hs dd lo z hp
    induction l generalizing vs with
    | nil =>
      cases rel
      exact ⟨[], rfl, .nil⟩
    | cons q l ih =>
      obtain ⟨qk, qd⟩ := q
      have rel : KV ((Sum.inr qk, qd) :: KwX.kK l) vs := rel
      cases rel with
      | @cons _ b _ _ h1 h2 =>
        obtain ⟨kv, e1, h3⟩ := ih _ h2
        subst e1
        obtain ⟨bk, bv⟩ := b
        obtain ⟨h1, h4⟩ := h1
        have h1 : (Sum.inr qk : Key) = bk := h1
        subst h1
        exact ⟨(qk, bv) :: kv, rfl, .cons ⟨rfl, h4⟩ h3⟩
  subst ekv
  exact KwX.keywordsIn_ok dd (k kv l kd s2 w3 so3 I2 rkv e3 st3 kz hp3)
theorem makeM_kw {kk : Bool} {mk : DM (List (Str × D))} : makeM kk cc mf (kwA mr mk) = bindM mr fun ds => bindM mk fun l => fun _ s => match mf (.cel s.length :: (ds ++ [.dct (KwX.kK l)])) (s ++ [some (.ins cc [])]) with
    | .ok .non s' => freezeI kk s.length s'
    | .ok _ _ => .bad
    | .exc E fs s' => .exc E fs s'
    | .bad => .bad := by
  unfold makeM kwA
  rw [bind_assoc]
  congr 1
  funext ds
  rw [bind_assoc]
  rfl
/-- x(e, .., **d), x a local name that holds the class cc -/
theorem e_makeLK (kk : Bool) (tk : Takes X W) (M : Mk X.K (He.ga X.K cc) f) (F : FnDK X.prog X.w X.K X.mg X.base k f mf) (hr : Rm (k + 1) X.A) (hn : PE X (.Name x p) (tE X.K W mn))
    (ha : PA X (a :: es) (tA X.K W mr)) (he : PE X e (tE X.K W me)) (hs : starEach (a :: es) X.env = (false, eval a X.env) :: starEach es X.env := by rfl) :
    PE X (.Call (.Name x p) (a :: es) [⟨none, e, kp⟩] pos) (tE X.K W (makeLM kk cc mf mn (kwA mr (sprK me)))) := by
  refine ⟨fun pins s t H Q I h => ?_⟩
  obtain ⟨r, so, w, rfl, env, st, hp⟩ := h
  refine wpAny_Call_Name_kw (thn (hn.run pins s t w.H (fun v H1 => v = .ref (He.ga X.K cc) ∧ ∃ so1 w1, H1 = w1.H ∧ EnvR X.K w1 r t ∧ StR X.K w1 so1 ∧ Post X.K (Rep X.K) w1 (fun c d H' => W c d t H') Q (makeM kk cc mf (kwA mr (sprK me)) r so1)) I ⟨r, so, w, rfl, env, st, ?_⟩) fun v s1 ⟨y, H1, I1, r1, ey, so1, w1, eH, env1, st1, hp1⟩ => ?_)
  · unfold makeLM bindM at hp
    cases e0 : mn r so with
    | ok d s1 =>
      rw [e0] at hp
      intro v w1 e1 st1 r1
      have hp := Post.ext e1 hp
      cases d with
      | glo y =>
        dsimp only at hp
        by_cases ec : y = cc
        · subst ec
          rw [if_pos rfl] at hp
          cases r1
          exact ⟨rfl, s1, w1, rfl, env.ext e1, st1, hp⟩
        · rw [if_neg ec] at hp
          exact hp.elim
      | _ => exact hp.elim
    | exc C fs s1 => rw [e0] at hp; exact hp
    | bad => rw [e0] at hp; exact hp
  · subst ey
    subst eH
    cases r1
    rw [makeM_kw] at hp1
    refine KwX.callWith_DS M.kp ?_ ?_
    · rw [hs]
      show (_ || true) = true
      rw [Bool.or_true]
    · rw [hs]
      refine KwX.evalArgs_DS rfl ?_
      have z := ha.run pos pins s1 t w1.H (fun vs H2 => ∃ dv so2 w2, H2 = w2.H ∧ Ext w1 w2 ∧ StR X.K w2 so2 ∧ Reps X.K w2 vs dv ∧ Post X.K (Rep X.K) w2 (fun c d H' => W c d t H') Q (bindM (sprK me) (fun l => fun _ s => match mf (.cel s.length :: (dv ++ [.dct (KwX.kK l)])) (s ++ [some (.ins cc [])]) with
        | .ok .non s' => freezeI kk s.length s'
        | .ok _ _ => .bad
        | .exc E fs s' => .exc E fs s'
        | .bad => .bad) r so2)) I1 (hp1.bind env1 st1 fun vs dv so2 w2 e2 st2 rs hp2 => ⟨dv, so2, w2, rfl, e2, st2, rs, hp2⟩)
      rw [hs] at z
      refine thn z fun us s2 ⟨vs, H2, I2, rv, dv, so2, w2, eH2, e2, st2, rs, hp2⟩ => ?_
      subst eH2
      exact kws_run he I2 (env1.ext e2) st2 rfl hp2 fun kv kz kd s3 w3 so3 I3 rk e3 st3 kd3 hp3 => ⟨I3.kIn, run_makeAtK (E := WE W t) M F hr (passAt tk t) I3 rv rk (make_midK (t := t) st3 (rs.ext e3) kd3 hp3)⟩
/-! ### keywords that are written -/
end
end Mp
set_option Elab.async false
set_option linter.all false
set_option maxRecDepth 100000
set_option maxHeartbeats 4000000
/-! Mp: dict.get, list(d), max(xs), sorted texts of any number, a dict held against an empty one. -/
namespace Mp
open PySem PySem.Spec PyProof.Rows L2
/-! ### d.get(k, x) -/
def getM (o k x : DE) : DE := bindM o fun d => fun r s => match dctOf s d with
  | none => .bad
  | some _ => (bindM k fun y => bindM x fun z => fun _ s => match dctOf s d with
    | some m => (match keyD y with
      | some k => .ok ((getK m k).getD z) s
      | none => .bad)
    | none => .bad) r s
section
variable {X : Cx} {W : WX} {o e f : Expr} {pos apos : Pos} {mo me mf : DE}
theorem e_get2 (hu : X.A.units + 1 < cLine) (ho : PE X o (tE X.K W mo)) (he : PE X e (tE X.K W me)) (hf : PE X f (tE X.K W mf)) (m : M2 X o "get" apos e f pos) : PE X (.Call (.Attribute o "get" apos) [e, f] [] pos) (tE X.K W (getM mo me mf)) :=
  PE.imp (pe_dget2 hu ho he hf m) fun t H Q h => by
    obtain ⟨r, s, w, rfl, env, st, hp⟩ := h
    exact hp.bind env st fun x d s1 w1 e1 st1 r1 hp1 => by
      cases ed : dctOf s1 d with
      | none => rw [ed] at hp1; exact hp1.elim
      | some m0 =>
        rw [ed] at hp1
        obtain ⟨p0, l0, rfl, hd0, _⟩ := dctOf_ok st1 r1 ed
        refine ⟨p0, rfl, .inl ⟨l0, hd0⟩, hp1.bind (env.ext e1) st1 fun y dy s2 w2 e2 st2 r2 hp2 => hp2.bind ((env.ext e1).ext e2) st2 fun z dz s3 w3 e3 st3 r3 hp3 => ?_⟩
        cases ed3 : dctOf s3 d with
        | none => rw [ed3] at hp3; exact hp3.elim
        | some m =>
          rw [ed3] at hp3
          dsimp only at hp3
          cases ek : keyD dy with
          | none => rw [ek] at hp3; exact hp3.elim
          | some k =>
            rw [ek] at hp3
            dsimp only at hp3
            obtain ⟨p, l, ep, hd, kv⟩ := dctOf_ok st3 ((r1.ext e2).ext e3) ed3
            cases ep
            have ey := keyD_ok (r2.ext e3) ek
            have g := getK_ok (k := k) kv
            refine ⟨valV l k, .inl ⟨l, k, hd, ey, rfl⟩, ?_⟩
            cases eg : getK m k with
            | none =>
              rw [eg] at g hp3
              rw [g]
              exact hp3.pure st3 r3
            | some d3 =>
              rw [eg] at g hp3
              obtain ⟨v, hv, rv⟩ := g
              rw [hv]
              exact hp3.pure st3 rv
end
/-! ### sorted(xs) of texts, any number of them -/
section
end
/-! ### list(d) -/
def listKD (k : Bool) (ds : List D) (s : Sto) : Res D := match ds with
  | [x] => (match dctOf s x with
    | some m => newL k (m.map fun p => keyV p.1) s
    | none => listD k [x] s)
  | _ => .bad
abbrev rListK (K : Frag) : List V → Hp → VK → Prop := fun xs H Q => (∃ p ys, xs = [.ref p] ∧ (SqL K H p ys ∨ SqT K H p ys) ∧ ∀ l, H l = none → Q (.ref l) (upd H l (.lst ys))) ∨ ∃ (a : Addr) (kvs : List (Key × V)), xs = [.ref a] ∧ Rd H a (.dK kvs) ∧ ∀ p, H p = none → Q (.ref p) (upd H p (.lst (kvs.map fun kv => kV kv.1)))
section
variable {X : Cx}
theorem call_listK (hc : X.calm = true) : CallR X (.type "list") (rListK X.K) := CallR.or call_list_of (call_listD hc)
theorem reps_keys {K : Frag} {w : Wd} : ∀ {l : List (Key × V)} {m : List (Key × D)}, KVR K w l m → Reps K w (l.map fun kv => kV kv.1) (m.map fun p => keyV p.1)
  | _, _, .nil => .nil
  | _, _, .cons (k := k) h r => .cons (by cases k <;> constructor) (reps_keys r)
theorem v_listK {k : Bool} : VRC X.K (rListK X.K) (listKD k) := fun w s xs ds Q E st rs hp => by
  unfold listKD at hp
  split at hp
  · rename_i x
    cases ed : dctOf s x with
    | none =>
      rw [ed] at hp
      exact .inl (v_list w s xs [x] Q E st rs hp)
    | some m =>
      rw [ed] at hp
      dsimp only at hp
      obtain ⟨y, rfl, ry⟩ := rs.one
      obtain ⟨p, l, rfl, hd, kv⟩ := dctOf_ok st ry ed
      exact .inr ⟨p, l, rfl, hd, hp.newL st (reps_keys kv)⟩
  · exact hp.elim
end
/-! ### max(xs) of ints -/
section
end
/-! ### d == {} -/
section
end
/-! ### xs * n, a list of one's own -/
section
end
end Mp
set_option Elab.async false
set_option linter.all false
set_option maxRecDepth 100000
set_option maxHeartbeats 4000000
/-! Mp: sorted(xs, key=f), f a method of an own object or a function of one's own: the sort, over any law J that the calls of f keep. -/
namespace SkJ
open PySem PySem.W PySem.Calls PyProof.Rows
section
variable {prog : Program} {w : World} {A : Around} {E : Value → Shared → Prop} {s : Shared} {a kS : Addr} {b : Bool} {vs : List Value} {e1 : Nat} {P : PySem.Fin → Shared → Prop} {kz : List PyData}
/-- the loop over the items, and what follows it -/
theorem rest {f : Value} (J : Nat → List Value → Shared → Prop) (hka : kS ≠ a) (nk : s.heap.get? kS = some (seqObj "list" #[] 0)) (na : s.heap.get? a = some (seqObj "list" #[] e1))
    (hlen : kz.length = vs.length) (hZ : vs.length ≤ sizeLine) (hal : AllAlike kz) (hsk : Sortable kz) (hu : ∀ d, d ∈ kz → A.units + d.depth < cLine) (j0 : J 0 [] s)
    (jset : ∀ i ks s1 h', J i ks s1 → (∃ kA e, s1.heap.get? kS = some (seqObj "list" kA e)) → (∃ kA e, h'.get? kS = some (seqObj "list" kA e)) → (∀ b o, b ≠ kS → s1.heap.get? b = some o → h'.get? b = some o) → J i ks { s1 with heap := h' })
    (turn : ∀ i v k ks s1 kA e, vs[i]? = some v → kz[i]? = some k → J i ks s1 → s1.heap.get? kS = some (seqObj "list" kA e) → s1.heap.get? a = some (seqObj "list" #[] e1) →
      wpAny (model prog w) A (call f [v]) (fun u s2 => J (i + 1) (ks ++ [u]) s2 ∧ s2.heap.get? kS = some (seqObj "list" kA e) ∧ s2.heap.get? a = some (seqObj "list" #[] e1)) (fun _ _ => False) s1)
    (jend : ∀ ks s1, J vs.length ks s1 → EachIs (fun v k => ∃ as, Reads s1.heap v k as) ks kz)
    (h : ∀ ks s1 h' tk out c kA e, J vs.length ks s1 → s1.heap.get? kS = some (seqObj "list" kA e) → s1.heap.get? a = some (seqObj "list" #[] e1) → (∀ b o, b ≠ a → b ≠ kS → s1.heap.get? b = some o → h'.get? b = some o) → h'.get? a = some (seqObj "list" (List.toArray out) c) → KeyedOut b kz vs out →
      P (.done (.ret .none)) { s1 with heap := h', toks := tk }) :
    wpAny (model prog w) A (ksk_rest a f b vs.toArray e1 (.ref kS)) P E s := by
  unfold ksk_rest
  refine wpAny_bind (wpAny_rule ?_)
  first
    | rw [List.forIn_toArray]
    | (rw [← Array.forIn_toList]; simp only [List.toList_toArray])
    | rw [← Array.forIn_toList]
  refine wpAny_bind (ksk_fold (fun i s' => ∃ kA e, kA.size = i ∧ J i kA.toList s' ∧ s'.heap.get? kS = some (seqObj "list" kA e) ∧ s'.heap.get? a = some (seqObj "list" #[] e1)) vs 0 s ⟨#[], 0, rfl, j0, nk, na⟩ ?step ?done)
  case step =>
    rintro j x s' hx ⟨kA, e, hks, hJ, nk', na'⟩
    simp only [Nat.zero_add] at hJ hks ⊢
    have hj : j < vs.length := (List.getElem?_eq_some_iff.mp hx).1
    obtain ⟨k, hkj⟩ : ∃ k, kz[j]? = some k := ⟨_, List.getElem?_eq_getElem (by omega)⟩
    refine wpAny_bind (wpAny_attempt (wpAny_mono (turn j x k kA.toList s' kA e hx hkj hJ nk' na') (fun v s'' he => ?_) fun _ _ hF => hF.elim))
    obtain ⟨hJ2, nk2, na2⟩ := he
    try dsimp only
    have s1 := Heap.SameBut.update s''.heap kS (Obj.mapSeq (·.push v))
    obtain ⟨c2, hc2⟩ : ∃ c2, (s''.heap.update kS (Obj.mapSeq (·.push v))).get? kS = some (seqObj "list" (kA.push v) c2) := ⟨_, get?_update_seq nk2 (·.push v)⟩
    refine wpAny_bind (listUpdate_at nk2 rfl ?_ (by omega) (by rw [Array.size_push]; omega))
    refine wpAny_pure ⟨rfl, kA.push v, c2, by rw [Array.size_push, hks], ?_, hc2, (s1.2 a hka.symm).trans na2⟩
    have q := jset (j + 1) (kA.toList ++ [v]) s'' _ hJ2 ⟨_, _, nk2⟩ ⟨_, _, hc2⟩ fun b o hb ho => (s1.2 b hb).trans ho
    rw [Array.toList_push]
    exact q
  case done =>
    rintro s' ⟨kA, e, hks, hJ, nk', na'⟩
    rw [Nat.zero_add] at hJ hks
    have hk' := jend _ _ hJ
    try dsimp only
    refine wpAny_bind (listItems_at nk' rfl ?_)
    obtain ⟨G, g1, g2⟩ := L2.restrict s'.heap fun b => decide (b ≠ a ∧ b ≠ kS)
    have gS : ∀ b o, b ≠ a → G.get? b = some o → s'.heap.get? b = some o := fun b o hb ho => by
      by_cases hbk : b = kS
      · subst hbk
        rw [g2 b (decide_eq_false fun z => z.2 rfl)] at ho
        cases ho
      · rw [← g1 b (decide_eq_true ⟨hb, hbk⟩)]
        exact ho
    exact keyH_end (κ := dataKind s'.heap kz) (h₁ := G) gS (g2 kS (decide_eq_false fun z => z.2 rfl)) nk' na' hka (SortsAt.data (s := s') hk' hal hsk hu) (by rw [hks]) hZ fun h3 tk3 c k3 n3 => h kA.toList s' h3 tk3 _ c kA e hJ nk' na' (fun b o hb hbk ho => k3 b o hb (by rw [g1 b (decide_eq_true ⟨hb, hbk⟩)]; exact ho)) n3 ⟨s'.heap, kA.toList, hal, rfl, hk'⟩
/-- sorted(xs, key=f) -/
theorem sorted {l : Addr} {f : Value} {kw : List (Str × Value)} {Q : Value → Shared → Prop} (J : Addr → Nat → List Value → Shared → Prop) (ha : a = s.heap.objs.size + 1) (hl : s.heap.IsList l vs.toArray)
    (hlen : kz.length = vs.length) (hZ : vs.length ≤ sizeLine) (hal : AllAlike kz) (hsk : Sortable kz) (hu : ∀ d, d ∈ kz → A.units + 2 + d.depth < cLine)
    (ha1 : argsOk "sorted" ⟨[.ref l], kw⟩) (ha2 : ∀ x, argsOk "list.sort" ⟨[.ref x], kw⟩) (ht : ∀ x, Builtin.«list.sort» ⟨[.ref x], kw⟩ = ksk_tree x f b)
    (j0 : ∀ kS h', (∀ b o, s.heap.get? b = some o → h'.get? b = some o) → s.heap.objs.size ≤ kS → kS ≠ a → J kS 0 [] { s with heap := h' })
    (jset : ∀ kS i ks s1 h', J kS i ks s1 → (∃ kA e, s1.heap.get? kS = some (seqObj "list" kA e)) → (∃ kA e, h'.get? kS = some (seqObj "list" kA e)) → (∀ b o, b ≠ kS → s1.heap.get? b = some o → h'.get? b = some o) → J kS i ks { s1 with heap := h' })
    (turn : ∀ kS e1 i v k ks s1 kA e, vs[i]? = some v → kz[i]? = some k → J kS i ks s1 → s1.heap.get? kS = some (seqObj "list" kA e) → s1.heap.get? a = some (seqObj "list" #[] e1) →
      wpAny (model prog w) A.in1.in1 (call f [v]) (fun u s2 => J kS (i + 1) (ks ++ [u]) s2 ∧ s2.heap.get? kS = some (seqObj "list" kA e) ∧ s2.heap.get? a = some (seqObj "list" #[] e1)) (fun _ _ => False) s1)
    (jend : ∀ kS ks s1, J kS vs.length ks s1 → EachIs (fun v k => ∃ as, Reads s1.heap v k as) ks kz)
    (h : ∀ kS ks s1 h' tk out c kA e e1, J kS vs.length ks s1 → s1.heap.get? kS = some (seqObj "list" kA e) → s1.heap.get? a = some (seqObj "list" #[] e1) → (∀ b o, b ≠ a → b ≠ kS → s1.heap.get? b = some o → h'.get? b = some o) → h'.get? a = some (seqObj "list" (List.toArray out) c) → KeyedOut b kz vs out →
      Q (.ref a) { s1 with heap := h', toks := tk }) :
    wpAny (model prog w) A (call (.builtin "sorted") [.ref l] kw) Q E s := by
  subst ha
  refine sorted_of_sort hl hZ ha1 ha2 fun E' => ?_
  rw [ht]
  have ho := copyHeap_at s.heap vs
  have hsz : s.heap.objs.size + 1 < (copyHeap s.heap vs).objs.size := Heap.lt_size ho
  obtain ⟨e1, ho1⟩ : ∃ e1, ((copyHeap s.heap vs).update (s.heap.objs.size + 1) (Obj.mapSeq fun _ => (#[] : Array Value))).get? (s.heap.objs.size + 1) = some (seqObj "list" #[] e1) := ⟨_, get?_update_seq ho fun _ => #[]⟩
  have hkS : (((copyHeap s.heap vs).update (s.heap.objs.size + 1) (Obj.mapSeq fun _ => (#[] : Array Value))).push (seqObj "tuple" vs.toArray 0)).objs.size = (copyHeap s.heap vs).objs.size + 1 := by rw [size_push', Heap.size_update]
  have hne : (((copyHeap s.heap vs).update (s.heap.objs.size + 1) (Obj.mapSeq fun _ => (#[] : Array Value))).push (seqObj "tuple" vs.toArray 0)).objs.size ≠ s.heap.objs.size + 1 := by
    rw [hkS]
    omega
  have hle : s.heap.objs.size ≤ (((copyHeap s.heap vs).update (s.heap.objs.size + 1) (Obj.mapSeq fun _ => (#[] : Array Value))).push (seqObj "tuple" vs.toArray 0)).objs.size := by
    rw [hkS]
    omega
  unfold ksk_tree
  refine wpAny_bind (listItems_at ho rfl ?_)
  refine wpAny_bind (listUpdate_at ho rfl ?_ (by rw [List.size_toArray]; exact hZ) (Nat.zero_le _))
  refine wpAny_bind (seqEpoch_at ho1 rfl ?_)
  refine wpAny_bind (wpAny_newTuple ?_ (by show vs.length ≤ _; exact hZ))
  refine wpAny_bind (wpAny_newList ?_ (Nat.zero_le _))
  refine wpAny_holding ?_
  have kp : ∀ b o, s.heap.get? b = some o → (sortingHeap (copyHeap s.heap vs) (s.heap.objs.size + 1) vs).get? b = some o := fun b o q => sortingHeap_old (Nat.ne_of_lt (Nat.lt_succ_of_lt (Heap.lt_size q))) (copyHeap_old q)
  refine rest (kz := kz) (A := A.in1.in1) (s := { s with heap := (((copyHeap s.heap vs).update (s.heap.objs.size + 1) (Obj.mapSeq fun _ => (#[] : Array Value))).push (seqObj "tuple" vs.toArray 0)).push (seqObj "list" #[] 0) }) (kS := (((copyHeap s.heap vs).update (s.heap.objs.size + 1) (Obj.mapSeq fun _ => (#[] : Array Value))).push (seqObj "tuple" vs.toArray 0)).objs.size)
    (J _) hne (Heap.get?_push_size _ rfl) (Heap.get?_push_of_some _ (Heap.get?_push_of_some _ ho1)) hlen hZ hal hsk hu (j0 _ _ kp hle hne) (jset _) (turn _ e1) (jend _) fun ks s1 h' tk out c kA e q1 q2 q3 q4 q5 q6 => ⟨rfl, h _ ks s1 h' tk out c kA e e1 q1 q2 q3 q4 q5 q6⟩
end
end SkJ
set_option Elab.async false
set_option linter.all false
set_option maxRecDepth 100000
set_option maxHeartbeats 4000000
/-! Mp: sorted(xs, key=o.m) as a rule. -/
namespace Mp
open PySem PySem.Spec PyProof.Rows L2
abbrev KP := Int × Str
def kP (p : KP) : PyData := .tuple [.int p.1, .str p.2]
def kD (p : KP) : D := .tup [.int p.1, .str p.2]
def keysF (f : DF) (y : D) : List D → List KP → Sto → Res (List KP)
  | [], kd, s => .ok kd s
  | d :: l, kd, s => match f [y, d] s with
    | .ok (.tup [.int c, .str z]) s' => keysF f y l (kd ++ [(c, z)]) s'
    | _ => .bad
noncomputable def outK (kd : List KP) (l : List D) : List D := ((kd.zip l).mergeSort (PySem.W.dataLe false fun p => kP p.1)).map (·.2)
/-- the sort of the items x of the object y -/
noncomputable def sortF (f : DF) : DF := fun ds s => match ds with
  | [y, x] => (match lstOf s x with
    | some l => (match keysF f y l [] s with
      | .ok kd s' => .ok (.lst (outK kd l)) s'
      | _ => .bad)
    | none => .bad)
  | _ => .bad
theorem keysF_inv {f : DF} {y d : D} {l : List D} {kd kd' : List KP} {s s' : Sto} (h : keysF f y (d :: l) kd s = .ok kd' s') : ∃ c z s1, f [y, d] s = .ok (.tup [.int c, .str z]) s1 ∧ keysF f y l (kd ++ [(c, z)]) s1 = .ok kd' s' := by
  rw [keysF] at h
  split at h
  · rename_i c z s1 e
    exact ⟨c, z, s1, e, h⟩
  · cases h
theorem keysF_len {f : DF} {y : D} : ∀ {l : List D} {kd kd' : List KP} {s s' : Sto}, keysF f y l kd s = .ok kd' s' → kd'.length = kd.length + l.length
  | [], kd, kd', s, s', h => by
    rw [keysF] at h
    cases h
    rfl
  | d :: l, kd, kd', s, s', h => by
    obtain ⟨c, z, s1, _, h⟩ := keysF_inv h
    rw [keysF_len h, List.length_append, List.length_cons, List.length_cons, List.length_nil]
    omega
theorem vals_tup2 {c : Int} {z : Str} {its : List Value} (h : Vals [V.int c, V.str z] its) : ∃ t u, its = [.int c t, .str z u] := by
  cases h with
  | cons h1 r =>
    cases r with
    | cons h2 r =>
      cases r
      obtain ⟨t, rfl⟩ := h1
      obtain ⟨u, rfl⟩ := h2
      exact ⟨t, u, rfl⟩
/-- a key that is laid, as the sort reads it -/
theorem key_reads {X : Cx} {pins : List (Addr × Obj)} {t : L2.St} {w : Wd} {s : Shared} {v : V} {u : Value} {p : KP} (I : Inv X pins t w.H s) (r : Rep X.K w v (kD p)) (ru : RelV v u) : Reads s.heap u (kP p) [] := by
  unfold kD at r
  cases r with
  | @tup a vs ds h rs =>
    cases rs with
    | cons r1 rs =>
      cases rs with
      | cons r2 rs =>
        cases rs
        cases r1
        cases r2
        obtain rfl : u = Value.ref a := ru
        obtain ⟨its, rv, ⟨o, h1, h2, n, h3⟩, _⟩ := I.tuple h.sq
        obtain ⟨t1, t2, rfl⟩ := vals_tup2 rv
        exact .tuple h1 h2 h3 (.cons (as := []) (.int _ _) (.cons (as := []) (.str _ _) .nil))
theorem keys_read {X : Cx} {pins : List (Addr × Obj)} {t : L2.St} {w : Wd} {s : Shared} (I : Inv X pins t w.H s) : ∀ {kd : List KP} {vs : List V} {us : List Value}, Reps X.K w vs (kd.map kD) → Vals vs us → PySem.W.EachIs (fun v k => ∃ as, Reads s.heap v k as) us (kd.map kP)
  | [], vs, us, r, rv => by
    cases r
    cases rv
    exact .nil
  | p :: kd, vs, us, r, rv => by
    cases r with
    | cons r rs =>
      cases rv with
      | cons h hs => exact .cons ⟨[], key_reads I r h⟩ (keys_read I rs hs)
/-- pins more, of records that are ours -/
theorem Inv_pin2 {X : Cx} {pins : List (Addr × Obj)} {t : L2.St} {H : Hp} {s s0 : Shared} {pins0 : List (Addr × Obj)} {t0 : L2.St} {H0 : Hp} {a b : Addr} {o u : Obj} (I0 : Inv X pins0 t0 H0 s0) (I : Inv X pins t H s) (ha : s0.heap.objs.size ≤ a) (hb : s0.heap.objs.size ≤ b)
    (ea : s.heap.get? a = some o) (eb : s.heap.get? b = some u) (na : H a = none) (nb : H b = none) (da : ∀ v, o.data ≠ .cell v) (db : ∀ v, u.data ≠ .cell v) : Inv X ((a, o) :: (b, u) :: pins) t H s :=
  I.pins_of fun p hp => by
    rcases List.mem_cons.mp hp with rfl | hp
    · exact ⟨ea, na, Nat.ne_of_gt (Nat.lt_of_lt_of_le I0.lt ha), I0.nofs ha, da⟩
    · rcases List.mem_cons.mp hp with rfl | hp
      · exact ⟨eb, nb, Nat.ne_of_gt (Nat.lt_of_lt_of_le I0.lt hb), I0.nofs hb, db⟩
      · exact I.pin p (List.mem_append_right _ hp)
/-- a record of ours has turned -/
theorem Inv_turn {X : Cx} {pins : List (Addr × Obj)} {t : L2.St} {H : Hp} {s s0 : Shared} {t0 : L2.St} {H0 : Hp} {a : Addr} {h' : Heap} {t' : Nat} (I0 : Inv X pins t0 H0 s0) (I : Inv X pins t H s) (ha : s0.heap.objs.size ≤ a) (na : H a = none)
    (k : ∀ b o, b ≠ a → s.heap.get? b = some o → h'.get? b = some o) : Inv X pins t H { s with heap := h', toks := t' } := by
  refine I.turned k na (Nat.ne_of_gt (Nat.lt_of_lt_of_le I0.lt ha)) (.inr (Nat.le_trans I0.sz ha)) (fun x c e z => ?_) fun p hp z => ?_
  · obtain ⟨v, o, ho, _⟩ := I0.cell x c e
    exact absurd z (Nat.ne_of_lt (Nat.lt_of_lt_of_le (Heap.lt_size ho) ha))
  · exact absurd z (Nat.ne_of_lt (Nat.lt_of_lt_of_le (Heap.lt_size (I0.pin p hp).1) ha))
section
end
end Mp
set_option Elab.async false
set_option linter.all false
set_option maxRecDepth 100000
set_option maxHeartbeats 4000000
/-! Mp: sorted(xs, key=o.m): the rule. -/
namespace Mp
open PySem PySem.Spec PyProof.Rows L2
structure MethK (X : Cx) (C m : Str) (mf : DF) : Prop where
  cls : Cls X.K (He.ga X.K C)
  ex : ∃ (g : Addr) (k : Nat), BMeth X.K (He.ga X.K C) m g ∧ FnD X.prog X.w X.K X.mg X.base k g mf ∧ Rm (k + 2) X.A
inductive KTab (X : Cx) (m : Str) : List (Str × DF) → Prop
  | nil : KTab X m []
  | cons {C : Str} {f : DF} {r : List (Str × DF)} : MethK X C m f → KTab X m r → KTab X m ((C, f) :: r)
theorem KTab.get {X : Cx} {m C : Str} {f' : DF} : ∀ {tb : List (Str × DF)}, KTab X m tb → (tb.map fun p => (p.1, sortF p.2)).lookup C = some f' → ∃ f, f' = sortF f ∧ MethK X C m f
  | _, .nil, h => by simp at h
  | _, .cons (C := E) (f := f) h1 r, h => by
    rw [List.map_cons] at h
    by_cases e : C = E
    · subst e
      rw [List.lookup_cons_self] at h
      cases h
      exact ⟨f, rfl, h1⟩
    · have hb : (C == E) = false := by simpa using e
      rw [List.lookup_cons, hb] at h
      exact r.get h
section
end
end Mp
set_option Elab.async false
set_option linter.all false
set_option maxRecDepth 100000
set_option maxHeartbeats 4000000
/-! Mp: < of two keys (number, text). -/
namespace Mp
open PySem PySem.Spec PyProof.Rows L2
def ltKP (a b : KP) : Bool := if a.1 == b.1 then (if a.2 == b.2 then false else decide (a.2.cps.toList < b.2.cps.toList)) else decide (a.1 < b.1)
def ltKD (x y : D) (s : Sto) : Res D := match x with
  | .tup [.int a, .str z] => (match y with
    | .tup [.int b, .str u] => .ok (.bl (ltKP (a, z) (b, u))) s
    | _ => .bad)
  | _ => .bad
def rLtKP (K : Frag) : R2 := fun x y H Q => ∃ (a b : Addr) (c : Int) (z : Str) (c' : Int) (z' : Str), x = .ref a ∧ y = .ref b ∧ SqT K H a [.int c, .str z] ∧ SqT K H b [.int c', .str z'] ∧ Q (.bl (ltKP (c, z) (c', z'))) H
section
variable {X : Cx} {W : WX} {a b : Expr} {pos : Pos} {ma mb : DE}
theorem op_ltKP (hu : X.A.units < cLine) : OpR X (compareOp .Lt) (rLtKP X.K) := by
  intro pins s σ H x y v u Q I rx ry h
  obtain ⟨a, b, c, z, c', z', rfl, rfl, ha, hb, q⟩ := h
  cases rx
  cases ry
  obtain ⟨its, r1, p1, _⟩ := I.tuple ha
  obtain ⟨its2, r2, p2, _⟩ := I.tuple hb
  obtain ⟨t1, u1, rfl⟩ := vals_tup2 r1
  obtain ⟨t2, u2, rfl⟩ := vals_tup2 r2
  have R := Ob.RcOp.tuples_lt (A := X.A) (s := s) (e := fun j => if j = 0 then (c == c') else (z == z')) (r := fun j => if j = 0 then decide (c < c') else decide (z.cps.toList < z'.cps.toList)) p1 p2 hu (fun j h1 h2 => by
    match j, h1 with
    | 0, _ => exact SeqAt.EqAt.int_int _ _ _ _
    | 1, _ => exact SeqAt.EqAt.str_str _ _ _ _) (fun j h1 h2 _ => by
    match j, h1 with
    | 0, _ => exact Ob.RcOp.lt_int _ _ _ _
    | 1, _ => exact fun _ _ _ _ h => PyProof.Rows.lt_str h)
  have e : Ob.lexAt (fun j => if j = 0 then (c == c') else (z == z')) (fun j => if j = 0 then decide (c < c') else decide (z.cps.toList < z'.cps.toList)) (decide (2 < 2)) 0 2 = ltKP (c, z) (c', z') := by
    unfold ltKP
    rw [Ob.lexAt_succ, Ob.lexAt_succ, Ob.lexAt_zero]
    simp
  have zz : wpAny (model X.prog X.w) X.A (compareOp .Lt (.ref a) (.ref b)) (EP X pins σ Q) X.xe s := R X.prog X.w X.xe (EP X pins σ Q) ⟨.bl _, H, I, rfl, by
    show Q (.bl (Ob.lexAt _ _ (decide (2 < 2)) 0 2)) H
    rw [e]
    exact q⟩
  exact zz
theorem tup2_of {K : Frag} {w : Wd} {v : V} {c : Int} {z : Str} (r : Rep K w v (.tup [.int c, .str z])) : ∃ a, v = .ref a ∧ SqT K w.H a [.int c, .str z] := by
  cases r with
  | tup h rs =>
    cases rs with
    | cons r1 rs =>
      cases rs with
      | cons r2 rs =>
        cases rs
        cases r1
        cases r2
        exact ⟨_, rfl, h.sq⟩
theorem v_ltKP : VR2 X.K (rLtKP X.K) ltKD := fun w s x y d e Q E st rx ry hp => by
  unfold ltKD at hp
  split at hp
  · split at hp
    · obtain ⟨a, rfl, h1⟩ := tup2_of rx
      obtain ⟨b, rfl, h2⟩ := tup2_of ry
      exact ⟨a, b, _, _, _, _, rfl, rfl, h1, h2, hp.pure st (.bl _)⟩
    · exact hp.elim
  · exact hp.elim
theorem e_ltK (hu : X.A.units + 64 < cLine) (ha : PE X a (tE X.K W ma)) (hb : PE X b (tE X.K W mb)) : PE X (.Compare a [.Lt] [b] pos) (tE X.K W (binM ltKD ma mb)) := e_cmp (op_ltKP (Nat.lt_of_le_of_lt (Nat.le_add_right _ _) hu)) v_ltKP ha hb (nomark _)
end
end Mp
set_option Elab.async false
set_option linter.all false
set_option maxRecDepth 100000
set_option maxHeartbeats 4000000
/-! Mp: list(d.values()), list(d.items()). -/
namespace Mp
open PySem PySem.Spec PyProof.Rows L2 LiI
section
end
/-! the combinators -/
section
end
section
end
end Mp
set_option Elab.async false
set_option linter.all false
set_option maxRecDepth 100000
set_option maxHeartbeats 4000000
/-! Mp: repr of whole numbers of up to 4300 digits, and of lists and tuples of them. -/
namespace Mp
open PySem PySem.Spec PyProof.Rows L2
open PySem.Builtin
/-- nobody has set the limit of digits -/
def BigD (K : Frag) : Prop := PySem.W.nsIn K cStatics "sys.int_max_str_digits" = some none
section
section
end
end
section
end
abbrev ckBig : Frag → Bool := fun K => match PySem.W.nsIn K cStatics "sys.int_max_str_digits" with
  | some none => true
  | _ => false
theorem Fx.big {P : Program} {fb : List (Frag → Bool)} {fn : List DefM} {K : Frag} {mg : Str → Option Value} (Z : Fx P fb fn K mg) (i : Nat) (h : fb[i]? = some ckBig) : BigD K := by
  have f := Z.fact i h
  dsimp only [ckBig] at f
  unfold BigD
  split at f
  · assumption
  · cases f
end Mp
set_option Elab.async false
set_option linter.all false
set_option maxRecDepth 100000
set_option maxHeartbeats 4000000
/-! Mp: a list comprehension whose element may raise. -/
namespace L2
open PySem PySem.Spec PyProof.Rows
section
end
section
end
section
end
end L2
namespace Mp
open PySem PySem.Spec PyProof.Rows L2
section
end
end Mp
set_option Elab.async false
set_option linter.all false
set_option maxRecDepth 100000
set_option maxHeartbeats 4000000
/-! Mp: enumerate(text). -/
namespace L2
open PySem PySem.Spec PyProof.Rows
section
end
end L2
namespace Mp
open PySem PySem.Spec PyProof.Rows L2
section
end
section
end
end Mp
set_option Elab.async false
set_option linter.all false
set_option maxRecDepth 100000
set_option maxHeartbeats 4000000
/-! Mp: zip of a list with a tuple. -/
namespace L2
open PySem PySem.Spec PyProof.Rows
end L2
namespace Mp
open PySem PySem.Spec PyProof.Rows L2
section
end
section
end
end Mp
set_option Elab.async false
set_option linter.all false
set_option maxRecDepth 100000
set_option maxHeartbeats 4000000
/-! Mp: methods with a parameter of two stars, called with keywords; str.index. -/
namespace Mp
open PySem PySem.Spec PyProof.Rows L2
section
variable {X : Cx} {W : WX} {o : Expr} {pos apos kp : Pos} {mo : DE} {m : Str} {k : Nat} {f : Addr} {mf : DF} {kws : List Keyword}
structure WMethKD (X : Cx) (C m : Str) (mf : DF) : Prop where
  cls : Cls X.K (He.ga X.K C)
  ex : ∃ (g : Addr) (k : Nat), Meth X.K (He.ga X.K C) m g ∧ FnDK X.prog X.w X.K X.mg X.base k g mf ∧ Rm k X.A
inductive WTabK (X : Cx) (m : Str) : List (Str × DF) → Prop
  | nil : WTabK X m []
  | cons {C : Str} {f : DF} {r : List (Str × DF)} : WMethKD X C m f → WTabK X m r → WTabK X m ((C, f) :: r)
theorem WTabK.get {C : Str} {f : DF} : ∀ {tb : List (Str × DF)}, WTabK X m tb → tb.lookup C = some f → WMethKD X C m f
  | _, .nil, h => by simp at h
  | _, .cons (C := E) h1 r, h => by
    by_cases e : C = E
    · subst e
      rw [List.lookup_cons_self] at h
      cases h
      exact h1
    · have hb : (C == E) = false := by simpa using e
      rw [List.lookup_cons, hb] at h
      exact r.get h
end
/-! ### list(text) -/
abbrev rListT : List V → Hp → VK → Prop := fun xs H Q => ∃ x : Str, xs = [.str x] ∧ x.cps.size ≤ sizeLine ∧ ∀ p, H p = none → Q (.ref p) (upd H p (.lst (x.cps.toList.map fun c => V.str ⟨#[c]⟩)))
section
variable {X : Cx}
theorem call_listT (hc : X.calm = true) : CallR X (.type "list") rListT := by
  intro pins s t H xs us Q I r q
  obtain ⟨x, rfl, hz, q⟩ := q
  obtain ⟨u, rfl, rx⟩ := vals1 r
  obtain ⟨tk0, rfl⟩ := rx
  refine call_list_str (I.ok.hd hc) x tk0 (fun h' tk acc c' hk hD hacc => ?_) hz
  have hl : acc.toList.length = x.cps.size := by rw [Array.length_toList]; exact hacc.1
  have hv : Vals (x.cps.toList.map fun c => V.str ⟨#[c]⟩) acc.toList := vals_of_at (by rw [List.length_map, Array.length_toList, hl]) fun j y v h1 h2 => by
    rw [List.getElem?_map, Array.getElem?_toList] at h1
    rw [Array.getElem?_toList] at h2
    obtain ⟨c, t2, e1, rfl⟩ := hacc.2 j v h2
    rw [e1] at h1
    cases h1
    exact ⟨t2, rfl⟩
  exact ⟨.ref s.heap.objs.size, upd H s.heap.objs.size (.lst (x.cps.toList.map fun c => V.str ⟨#[c]⟩)), I.laid (t' := tk) hk (Nat.le_refl _)
    (show ObjOk X.prog X.w _ _ _ (.lst _) from ⟨by rw [List.length_map, Array.length_toList]; exact hz, acc.toList, c', hv, by rw [Array.toArray_toList]; exact hD⟩), rfl, q _ (I.hok.fresh (Nat.le_refl _))⟩
def listXD (k : Bool) (ds : List D) (s : Sto) : Res D := match ds with
  | [.str z] => if z.cps.size ≤ sizeLine then newL k (chars z) s else .bad
  | _ => listKD k ds s
abbrev rListX (K : Frag) : List V → Hp → VK → Prop := fun xs H Q => rListK K xs H Q ∨ rListT xs H Q
theorem call_listX (hc : X.calm = true) : CallR X (.type "list") (rListX X.K) := CallR.or (call_listK hc) (call_listT hc)
theorem reps_chars {K : Frag} {w : Wd} : ∀ l : List Nat, Reps K w (l.map fun c => V.str ⟨#[c]⟩) (l.map fun c => D.str ⟨#[c]⟩)
  | [] => .nil
  | c :: l => .cons (.str _) (reps_chars l)
theorem v_listX {k : Bool} : VRC X.K (rListX X.K) (listXD k) := fun w s xs ds Q E st rs hp => by
  unfold listXD at hp
  split at hp
  · rename_i z
    split at hp
    · rename_i hz
      obtain ⟨y, rfl, ry⟩ := rs.one
      cases ry
      exact .inr ⟨z, rfl, hz, hp.newL st (reps_chars _)⟩
    · exact hp.elim
  · exact .inl (v_listK w s xs _ Q E st rs hp)
end
end Mp
set_option Elab.async false
set_option linter.all false
set_option maxRecDepth 100000
set_option maxHeartbeats 4000000
/-! Mp: dict(zip(keys, values)) of two lists. -/
namespace L2
open PySem PySem.Spec PyProof.Rows
end L2
namespace Mp
open PySem PySem.Spec PyProof.Rows L2
section
end
section
end
end Mp
set_option Elab.async false
set_option linter.all false
set_option maxRecDepth 100000
set_option maxHeartbeats 4000000
/-! Mp: split, upper, f-strings, int(text), xs[::-1], defs called by keywords in their order. -/
namespace Mp
open PySem PySem.Spec PyProof.Rows L2
section
/-! ### f-strings -/
end
/-! ### a def called by keywords, in the order of its parameters -/
def FnN (P : Program) (w : World) (K : Frag) (mg : Str → Option Value) (base : Heap) (k : Nat) (f : Addr) (ps : List Str) (m : DF) : Prop :=
  ∀ (A : Around) (outer : List Env) (s : Shared) (H : Hp) (us : List Value) (vs : List V) (Q : VK) (E : XK), Rm k A → Env0 P w K mg base A outer s H → Vals vs us → vs.length = ps.length → spD K m vs H Q E → codeAny (model P w) A (.call (.ref f) ⟨[], ps.zip us⟩) (CR (L2.CX P w) outer P w H s Q E) s
section
variable {P : Program} {w : World} {K : Frag} {mg : Str → Option Value} {base : Heap}
theorem FnN.mono {j k : Nat} {f : Addr} {ps : List Str} {m : DF} (F : FnN P w K mg base j f ps m) (h : j ≤ k) : FnN P w K mg base k f ps m := fun A outer s H us vs Q E hr => F A outer s H us vs Q E (hr.mono h)
end
section
end
/-! ### == of two dicts that are equal -/
section
end
end Mp
set_option Elab.async false
set_option linter.all false
set_option maxRecDepth 100000
set_option maxHeartbeats 4000000
/-! Mp: sorted(xs, key=lambda x: e); x in o by an own __contains__. -/
namespace Mp
open PySem PySem.Spec PyProof.Rows L2
/-- a lambda with the one parameter x -/
structure LamP (sc scope : Scope) (x : Str) : Prop where
  kind : scope.kind = .function
  co : scope.isCoroutine = false
  gen : scope.isGenerator = false
  own : ∀ y ∈ scope.names, y.2 ≠ .cell ∧ (y.2 = .local → y.1 = x)
  par : scope.names.lookup x = some .local
  free : ∀ y ∈ scope.names, y.2 = .free → sc.names.lookup y.1 = some .cell ∨ sc.names.lookup y.1 = some .free
def lamPB (sc scope : Scope) (x : Str) : Bool :=
  decide (scope.kind = .function) && !scope.isCoroutine && !scope.isGenerator && decide (scope.names.lookup x = some .local) && scope.names.all fun y => !decide (y.2 = .cell) && (!decide (y.2 = .local) || decide (y.1 = x)) && (!decide (y.2 = .free) || decide (sc.names.lookup y.1 = some .cell) || decide (sc.names.lookup y.1 = some .free))
theorem lamP_by {sc scope : Scope} {x : Str} (h : lamPB sc scope x = true) : LamP sc scope x := by
  unfold lamPB at h
  simp only [Bool.and_eq_true, Bool.or_eq_true, Bool.not_eq_true', decide_eq_true_eq, decide_eq_false_iff_not, List.all_eq_true] at h
  obtain ⟨⟨⟨⟨h1, h2⟩, h3⟩, h0⟩, h4⟩ := h
  refine ⟨h1, h2, h3, fun y hy => ⟨(h4 y hy).1.1, fun e => (h4 y hy).1.2.resolve_left fun z => z e⟩, h0, fun y hy e => ?_⟩
  rcases (h4 y hy).2 with (z | z) | z
  · exact absurd e z
  · exact .inl z
  · exact .inr z
theorem LamP.has {X : Cx} {scope : Scope} {x : Str} (L : LamP X.env.scope scope x) (ok : X.Ok) : ∀ y ∈ scope.names, y.2 = .free → ∃ c, X.env.cells.lookup y.1 = some c := fun y hy e => by
  rcases L.free y hy e with k | k
  · exact ok.has _ (.inl k)
  · exact ok.has _ (.inr k)
section
variable {X : Cx} {pins : List (Addr × Obj)} {t : L2.St} {H : Hp} {s : Shared}
theorem lam_startP {A : Around} {outer : List Env} {E : XK} {scope : Scope} {f c' : Addr} {h₁ : Heap} {tk i0 : Nat} {x : Str} {xv : V} {v : Value} (I : Inv X pins t H s) (L : LamP X.env.scope scope x) (e0 : Env0 X.prog X.w X.K X.mg X.base A outer s H) (hd : A.handled = none)
    (hns : h₁.Ns s.heap.objs.size fun y => ([(x, v)] : List (Str × Value)).reverse.lookup y) (kp : ∀ b o, s.heap.get? b = some o → h₁.get? b = some o) (hi0 : X.N[i0]? = some x) (hu : ∀ i, X.N[i]? = some x → i = i0) (hv : RelV xv v) :
    Inv (LamX.lamCx X A outer s H E scope f c') [] (t.set i0 (some xv)) H { s with heap := h₁, toks := tk } := by
  have hfree := L.has I.ok
  have cm : ∀ {y c}, (cloFrom X.env.cells scope.names []).lookup y = some c → X.env.cells.lookup y = some c := fun {y c} e => by
    rcases cloFrom_mem (PySem.mem_of_lookup e) with hm | ⟨h1, h2⟩
    · cases hm
    · obtain ⟨c1, hc⟩ := hfree _ h1 rfl
      have hc : X.env.cells.lookup y = some c1 := hc
      have e2 : c = c1 := by
        rw [h2, hc] <;> rfl
      rw [e2]
      exact hc
  have look : ∀ {y}, scope.names.lookup y = some .free → ∃ c, (cloFrom X.env.cells scope.names []).lookup y = some c := fun {y} hl => by
    have hy : (y, NameKind.free) ∈ scope.names := PySem.mem_of_lookup hl
    exact mem_lookup (cloFrom_has (cells := X.env.cells) (acc := []) hy)
  have cellK : ∀ {c : Addr} {v : Option Value}, s.heap.IsCell c v → h₁.IsCell c v := fun {c v} ⟨o, ho, hd⟩ => ⟨_, kp _ _ ho, hd⟩
  have noA : ∀ b : Addr, b ∉ (LamX.lamCx X A outer s H E scope f c').ex := fun b z => absurd (show b ∈ ([] : List Addr) from z) (by simp)
  refine ⟨⟨e0.mod, L.kind, rfl, rfl, Nat.le_refl _, fun y z c e1 e2 => I.ok.inj y z c (cm e1) (cm e2), fun y hy => ?_, fun y c z _ => ?_, fun _ => hd, Around.frames_deeper e0.frames, .inr ⟨rfl, rfl⟩, fun b z => absurd z (noA b), e0.bs, e0.bsz, fun b _ _ => noA b,
      fun b z => absurd z (noA b), e0.funs, e0.frf⟩,
    rfl, e0.bare, Un.kept kp, ⟨_, hns, fun i y v e1 e2 e3 => ?_⟩, fun y c e => ?_, e0.hok.fresh (Nat.le_refl _), fun y c e => ?_, fun q hq => absurd (show q ∈ ([] : List (Addr × Obj)) ++ [] from hq) (by simp), e0.hok.kept kp, by rw [List.length_set]; exact I.len⟩
  · have hy : scope.names.lookup y = some .cell ∨ scope.names.lookup y = some .free := hy
    rcases hy with hy | hy
    · exact absurd rfl (L.own _ (PySem.mem_of_lookup hy)).1
    · exact look hy
  · have z : false = true := z
    cases z
  · have e3 : Vis scope y := e3
    have e1 : X.N[i]? = some y := e1
    rcases e3 with k | k | k
    · have ey : y = x := (L.own _ (PySem.mem_of_lookup k)).2 rfl
      subst ey
      obtain rfl := hu i e1
      rw [List.getElem?_set_self (by have h := (List.getElem?_eq_some_iff.mp hi0).1; have := I.len; omega)] at e2
      cases e2
      exact ⟨_, hv, .inl ⟨k, by simp⟩⟩
    · exact absurd rfl (L.own _ (PySem.mem_of_lookup k)).1
    · have ne : i0 ≠ i := fun z => by
        subst z
        rw [hi0] at e1
        cases e1
        rw [L.par] at k
        cases k
      rw [List.getElem?_set_ne ne] at e2
      obtain ⟨m, hn, hl⟩ := I.loc
      have hvis : Vis X.env.scope y := (L.free _ (PySem.mem_of_lookup k) rfl).elim (fun k => .inr (.inl k)) (fun k => .inr (.inr k))
      obtain ⟨w', r, q⟩ := hl i y v e1 e2 hvis
      obtain ⟨c2, h2⟩ := look k
      refine ⟨w', r, .inr ⟨.inr k, c2, h2, ?_⟩⟩
      have c1 := cm h2
      rcases q with ⟨k', _⟩ | ⟨_, c3, e', z⟩
      · have k' : X.env.scope.names.lookup y = some .local := k'
        rcases L.free _ (PySem.mem_of_lookup k) rfl with k2 | k2 <;> rw [show X.env.scope.names.lookup y = _ from k2] at k' <;> cases k'
      · rw [c1] at e'
        cases e'
        exact cellK z
  · obtain ⟨w', z⟩ := I.cell y c (cm e)
    exact ⟨w', cellK z⟩
  · exact I.freeC y c (cm e)
end
section
variable {X : Cx} {pins : List (Addr × Obj)} {t : L2.St} {w : Wd} {s : Shared} {Q : VK} {EE : XK} {f : DF} {d : D} {ds : List D} {xs : List V} {so : Sto} {q q0 g p : Addr} {kk : Nat}
theorem sort_runG (I : Inv X pins t w.H s) (st : StR X.K w so) (hr : Rm (kk + 2) X.A) (hs : SqL X.K w.H p xs) (rs : Reps X.K w xs ds)
    (hcall : ∀ (pins1 : List (Addr × Obj)) (w1 : Wd) (s1 : Shared) (so1 so2 : Sto) (d1 : D) (v : Value) (xv : V) (c : Int) (z : Str), (∀ q ∈ pins, q ∈ pins1) → Inv X pins1 t w1.H s1 → Ext w w1 → StR X.K w1 so1 → RelV xv v → Rep X.K w1 xv d1 → f [d, d1] so1 = .ok (.tup [.int c, .str z]) so2 →
      wpAny (model X.prog X.w) X.A.in1.in1 (call (.ref q) [v]) (fun u s2 => ∃ xu w2, Inv X pins1 t w2.H s2 ∧ RelV xu u ∧ Ext w1 w2 ∧ StR X.K w2 so2 ∧ Rep X.K w2 xu (kD (c, z))) (fun _ _ => False) s1)
    (hp : Post X.K (Rep X.K) w EE Q (match keysF f d ds [] so with
      | .ok kd s' => .ok (.lst (outK kd ds)) s'
      | _ => .bad)) : wpAny (model X.prog X.w) X.A (call (.builtin "sorted") [.ref p] [(Str.ofString "key", .ref q)]) (EP X pins t Q) X.xe s := by
  cases ek : keysF f d ds [] so with
  | bad => rw [ek] at hp; exact hp.elim
  | exc C fs s' => rw [ek] at hp; exact hp.elim
  | ok kd s' =>
  rw [ek] at hp
  dsimp only at hp
  have hkl : kd.length = ds.length := by
    have := keysF_len ek
    rw [this]
    simp
  obtain ⟨its, rv, hl, hz⟩ := I.list hs
  have hxl := rv.length
  have hdl := rs.length
  refine SkJ.sorted (a := s.heap.objs.size + 1) (vs := its) (kz := kd.map kP) (b := false) (fun kS i ks s1 => s.heap.objs.size ≤ kS ∧ kS ≠ s.heap.objs.size + 1 ∧ ∃ w1 so1 kd1 kvs, Inv X pins t w1.H s1 ∧ w1.H (s.heap.objs.size + 1) = none ∧ w1.H kS = none ∧ Ext w w1 ∧ StR X.K w1 so1 ∧ kd1.length = i ∧ Vals kvs ks ∧ Reps X.K w1 kvs (kd1.map kD) ∧ keysF f d (ds.drop i) kd1 so1 = .ok kd s')
    rfl hl.isList (by rw [List.length_map]; omega) (by omega) (PySem.W.AllAlike.of fun b b' => ?_) (PySem.W.Sortable.tuples fun b => ⟨_, _, rfl⟩) (fun k hk => ?_) (ksk_s1 _ _) (fun x => ksk_l1 _ _) (fun x => ksk_t1 _ _) ?j0 ?jset ?turn ?jend ?fin
  · show PySem.W.alike (kP b) (kP b') = true
    unfold kP
    simp [PySem.W.alike, PySem.W.alikeAll]
  · obtain ⟨b, hb, rfl⟩ := List.mem_map.mp hk
    have := hr.rm.un
    have e : (kP b).depth = 1 := by
      unfold kP
      simp [PyData.depth, PyData.depthAll]
    rw [e]
    omega
  case j0 =>
    intro kS h' k h1 h2
    exact ⟨h1, h2, w, so, [], [], I.kept (t' := s.toks) k, I.hok.fresh (Nat.le_succ _), I.hok.fresh h1, Ext.refl w, st, rfl, .nil, .nil, ek⟩
  case jset =>
    rintro kS i ks s1 h' ⟨h1, h2, w1, so1, kd1, kvs, I1, n1, n2, e1, st1, hi, rv1, rs1, er⟩ _ _ k
    exact ⟨h1, h2, w1, so1, kd1, kvs, Inv_turn (t' := s1.toks) I I1 h1 n2 k, n1, n2, e1, st1, hi, rv1, rs1, er⟩
  case turn =>
    rintro kS e1 i v k ks s1 kA e hv hk ⟨h1, h2, w1, so1, kd1, kvs, I1, n1, n2, x1, st1, hi, rv1, rs1, er⟩ ok1 ok2
    have I2 := Inv_pin2 I I1 h1 (Nat.le_succ _) ok1 ok2 n2 n1 (fun _ z => by cases z) (fun _ z => by cases z)
    have hi' : i < ds.length := by
      have := (List.getElem?_eq_some_iff.mp hv).1
      omega
    rw [List.drop_eq_getElem_cons hi'] at er
    obtain ⟨c, z, so2, ec, er⟩ := keysF_inv er
    obtain ⟨xv, hx1, hx2⟩ := (rs.ext x1).get (List.getElem?_eq_getElem hi')
    obtain ⟨v', hv1, hv2⟩ := rv.get hx1
    rw [hv] at hv1
    cases hv1
    refine wpAny_mono (hcall _ w1 s1 so1 so2 ds[i] v xv c z (fun p hp => List.mem_cons_of_mem _ (List.mem_cons_of_mem _ hp)) I2 x1 st1 hv2 hx2 ec) (fun u s2 hz => ?_) fun _ _ x => x
    obtain ⟨xu, w2, I3, ru, x2, st2, r2⟩ := hz
    refine ⟨⟨h1, h2, w2, so2, kd1 ++ [(c, z)], kvs ++ [xu], ?_, (I3.pin (_, _) (List.mem_append_right _ (List.mem_cons_of_mem _ List.mem_cons_self))).2.1, (I3.pin (_, _) (List.mem_append_right _ List.mem_cons_self)).2.1, x1.trans x2, st2, by rw [List.length_append, hi]; rfl, rv1.append (.cons ru .nil), ?_, er⟩,
      (I3.pin (_, _) (List.mem_append_right _ List.mem_cons_self)).1, (I3.pin (_, _) (List.mem_append_right _ (List.mem_cons_of_mem _ List.mem_cons_self))).1⟩
    · exact I3.pins_of fun p hp => I3.pin p (List.mem_append_right _ (List.mem_cons_of_mem _ (List.mem_cons_of_mem _ hp)))
    · rw [List.map_append]
      exact (rs1.ext x2).append (.cons r2 .nil)
  case jend =>
    rintro kS ks s1 ⟨h1, h2, w1, so1, kd1, kvs, I1, n1, n2, x1, st1, hi, rv1, rs1, er⟩
    rw [List.drop_eq_nil_of_le (by omega)] at er
    rw [keysF] at er
    cases er
    exact keys_read I1 rs1 rv1
  case fin =>
    rintro kS ks s1 h' tk out c kA e e1 ⟨h1, h2, w1, so1, kd1, kvs, I1, n1, n2, x1, st1, hi, rv1, rs1, er⟩ ok1 ok2 kp ho hko
    rw [List.drop_eq_nil_of_le (by omega)] at er
    rw [keysF] at er
    cases er
    obtain ⟨hm, m1, m2⟩ := restrict s1.heap fun b => decide (b ≠ kS)
    obtain ⟨G, g1, g2⟩ := restrict h' fun b => decide (b ≠ s.heap.objs.size + 1)
    have J1 : Inv X pins t w1.H { s1 with heap := hm, toks := tk } := Inv_turn I I1 h1 n2 fun b o hb ho => by
      rw [m1 b (decide_eq_true hb)]
      exact ho
    have J2 : Inv X pins t w1.H { s1 with heap := G, toks := tk } := Inv_turn (s := { s1 with heap := hm, toks := tk }) I J1 (Nat.le_succ _) n1 fun b o hb ho => by
      by_cases hbk : b = kS
      · subst hbk
        have z := m2 b (decide_eq_false fun z => z rfl)
        rw [z] at ho
        cases ho
      · rw [m1 b (decide_eq_true hbk)] at ho
        rw [g1 b (decide_eq_true hb)]
        exact kp b o hb hbk ho
    have hkl2 : kd.length = its.length := hi
    obtain ⟨bs, ebs⟩ : ∃ bs : List (KP × (V × D)), bs = kd.zip (xs.zip ds) := ⟨_, rfl⟩
    have ek1 : bs.map (fun b => kP b.1) = kd.map kP := by
      rw [ebs, show (fun b : KP × (V × D) => kP b.1) = kP ∘ Prod.fst from rfl, ← List.map_map, List.map_fst_zip (by rw [List.length_zip]; omega)]
    have ek2 : bs.map (fun b => (b.1, b.2.2)) = kd.zip ds := by
      rw [ebs]
      clear ebs ek1
      have : ∀ (kd : List KP) (xs : List V) (ds : List D), xs.length = ds.length → (kd.zip (xs.zip ds)).map (fun b => (b.1, b.2.2)) = kd.zip ds := by
        intro kd
        induction kd with
        | nil => intro xs ds _; simp
        | cons k kd ih =>
          intro xs ds hl
          cases xs with
          | nil =>
            cases ds with
            | nil => simp
            | cons => simp at hl
          | cons x xs =>
            cases ds with
            | nil => simp at hl
            | cons d ds =>
              have := ih xs ds (by simpa using hl)
              simp [this]
      exact this kd xs ds hdl
    have hR : PySem.W.EachIs (fun u (b : KP × (V × D)) => RelV b.2.1 u) its bs := by
      rw [ebs]
      clear ebs ek1 ek2
      have : ∀ (kd : List KP) (xs : List V) (ds : List D) (its : List Value), kd.length = its.length → Vals xs its → xs.length = ds.length → PySem.W.EachIs (fun u (b : KP × (V × D)) => RelV b.2.1 u) its (kd.zip (xs.zip ds)) := by
        intro kd
        induction kd with
        | nil =>
          intro xs ds its hl rv _
          cases its with
          | nil => exact .nil
          | cons => simp at hl
        | cons k kd ih =>
          intro xs ds its hl rv hd
          cases rv with
          | nil => simp at hl
          | cons r rv =>
            cases ds with
            | nil => simp at hd
            | cons d ds => exact .cons r (ih _ ds _ (by simpa using hl) rv (by simpa using hd))
      exact this kd xs ds its hkl2 rv hdl
    have hB : ∀ b ∈ bs, Rep X.K w1 b.2.1 b.2.2 := by
      intro b hb
      rw [ebs] at hb
      have hb2 := (List.of_mem_zip hb).2
      obtain ⟨i, hi⟩ := List.mem_iff_getElem?.mp hb2
      rw [List.getElem?_zip_eq_some] at hi
      obtain ⟨v, h1, h2⟩ := (rs.ext x1).get hi.2
      rw [hi.1] at h1
      cases h1
      exact h2
    have hko2 := PySem.W.keyedOut_each (rev := false) (bs := bs) (fun b => kP b.1) (by rw [ek1]; exact hko) hR
    have eo : outK kd ds = (bs.mergeSort (PySem.W.dataLe false fun b => kP b.1)).map fun b => b.2.2 := by
      unfold outK
      rw [← ek2, ← List.map_mergeSort (s := PySem.W.dataLe false fun p : KP × D => kP p.1) (r := PySem.W.dataLe false fun b : KP × (V × D) => kP b.1) (fun a _ b _ => rfl), List.map_map]
      rfl
    have hM : ∀ b ∈ bs.mergeSort (PySem.W.dataLe false fun b => kP b.1), Rep X.K w1 b.2.1 b.2.2 := fun b hb => hB b (List.mem_mergeSort.mp hb)
    obtain ⟨ms, ems⟩ : ∃ ms, ms = bs.mergeSort (PySem.W.dataLe false fun b => kP b.1) := ⟨_, rfl⟩
    rw [← ems] at hko2 eo hM
    have hV : Vals (ms.map fun b => b.2.1) out := by
      clear ems eo hM ho hko
      induction hko2 with
      | nil => exact .nil
      | cons h _ ih => exact .cons h ih
    have hRs : Reps X.K w1 (ms.map fun b => b.2.1) (ms.map fun b => b.2.2) := by
      clear ems eo hko2 hV
      induction ms with
      | nil => exact .nil
      | cons m ms ih => exact .cons (hM m List.mem_cons_self) (ih fun b hb => hM b (List.mem_cons_of_mem _ hb))
    have hol : out.length = its.length := hko.length (by rw [List.length_map]; omega)
    refine ⟨.ref _, upd w1.H (s.heap.objs.size + 1) (.lst (ms.map fun b => b.2.1)), ?_, rfl, ?_⟩
    · exact Inv.laidN (s := { s1 with heap := G, toks := tk }) (h' := h') (t' := tk) J2 (fun b o hb => by
        by_cases e : b = s.heap.objs.size + 1
        · subst e
          rw [g2 _ (decide_eq_false fun z => z rfl)] at hb
          cases hb
        · rw [← g1 b (decide_eq_true e)]
          exact hb) (g2 _ (decide_eq_false fun z => z rfl)) n1 ⟨by have := hV.length; omega, out, c, hV, ho⟩
    · rw [eo] at hp
      exact (Post.ext x1 hp).frz st1 (fun p np => rep_newL st1 hRs np) _ n1
end
/-- the lambda is called with the value v -/
theorem lam_run {X : Cx} {pins : List (Addr × Obj)} {t : L2.St} {w : Wd} {s : Shared} {Q : VK} {f c : Addr} {params : Arguments} {body : Expr} {scope : Scope} {pm ctv v : Value} {xv : V} {x : Str} {i0 k : Nat} {te : DE} {r : En} {so : Sto} {d : D}
    (I : Inv X pins t w.H s) (L : LamP X.env.scope scope x) (hf : s.heap.get? f = some (lamO X params body scope pm c ctv)) (hc : w.H c = some (LamX.CodeO c (X.env.qual ++ "<lambda>")))
    (hbind : bindArgs (PySem.W.kla_fn "<lambda>" (X.env.qual ++ "<lambda>") params body scope (cloFrom X.env.cells scope.names []) pm (.ref c) ctv) ⟨[v], []⟩ = pure [(x, v)]) (hr : Rm (k + 3) X.A)
    (hbody : ∀ (A : Around) (outer : List Env) (s : Shared) (H : Hp) (E : XK), Rm k (A.deeper (LamX.lamEnv X scope s.heap.objs.size f c)) → PE (LamX.lamCx X A outer s H E scope f c) body (tE X.K (fun cl d _ H' => E cl d H') te))
    (hi0 : X.N[i0]? = some x) (hu : ∀ i, X.N[i]? = some x → i = i0) (rx : RelV xv v) (rd : Rep X.K w xv d) (env : EnvR X.K w r t) (st : StR X.K w so)
    (hp : Post X.K (Rep X.K) w C8.E0 Q (te (r.set i0 (some d)) so)) : wpAny (model X.prog X.w) X.A.in1.in1 (call (.ref f) [v]) (EP X pins t Q) (fun _ _ => False) s := by
  obtain ⟨⟨oc, vs, u2, hoc, hdc, hvc⟩, _, _⟩ := I.hok c _ hc
  have env1 : EnvR X.K w (r.set i0 (some d)) (t.set i0 (some xv)) := by
    refine ⟨by rw [List.length_set, List.length_set]; exact env.1, fun i dd q => ?_⟩
    have hl : i0 < t.length := by
      have h := (List.getElem?_eq_some_iff.mp hi0).1
      have := I.len
      omega
    by_cases e : i0 = i
    · subst e
      have hl2 : i0 < r.length := by
        have := env.1
        omega
      rw [List.getElem?_set_self hl2] at q
      cases q
      exact ⟨_, List.getElem?_set_self hl, rd⟩
    · rw [List.getElem?_set_ne e] at q
      rw [List.getElem?_set_ne e]
      exact env.2 i dd q
  have rc : codeAny (model X.prog X.w) X.A.in1.in1 (.call (.ref f) ⟨[v], []⟩) (CR (L2.CX X.prog X.w) X.stack X.prog X.w w.H s Q C8.E0) s := by
    refine PySem.W.kla_callFunE hr.in1.in1.rm.depth hf rfl L.co L.gen rfl ⟨c, oc, vs, u2, rfl, hoc, hdc, hvc⟩ ?_
    rw [hbind]
    refine wpAny_pure ?_
    refine wpAny_newFunctionEnv (fun y m => (L.own y m).1) (fun y m => ?_) ?_ L.kind
    · rw [List.mem_singleton.mp m]
      exact L.par
    intro h₁ hns hsb
    refine ⟨I.nolimit.fresh _ hsb, ?_⟩
    show codeAny _ _ (.expr body (LamX.lamEnv X scope s.heap.objs.size f c)) _ _
    have kp : ∀ (b : Addr) (o : Obj), s.heap.get? b = some o → h₁.get? b = some o := by
      intro b o e
      exact hsb.extBut b o (Nat.ne_of_lt (Heap.lt_size e)) (Heap.get?_push_of_some _ e)
    have J := lam_startP (E := C8.E0) (f := f) (c' := c) (tk := s.toks + ([(x, v)] : List (Str × Value)).length) I L I.env0.in1.in1 hr.in1.in1.rm.hd hns kp hi0 hu rx
    refine PySem.W.kla_codeExpr (wpAny_mono ((hbody X.A.in1.in1 X.stack s w.H C8.E0 (hr.in1.in1.deeper _)).run [] _ _ w.H Q J ⟨_, so, w, rfl, env1, st, hp⟩) (fun v s' hq => ?_) fun e s' hq => hq)
    obtain ⟨v2, H2, J2, rv2, q2⟩ := hq
    exact ⟨v2, H2, J2.os, J2.bare, J2.base, J2.hok, rv2, q2⟩
  refine wpAny_call (codeAny_mono rc fun z s' hq => ?_)
  cases z with
  | error er =>
    obtain ⟨_, _, _, _, _, _, _, _, _, _, _, _, z⟩ := hq
    exact z.elim
  | ok fl =>
    cases fl with
    | ret u => exact I.after hq
    | _ => exact hq.elim
/-- the lambda is made: as lam_new, and it is new -/
theorem lam_newF {X : Cx} {pins : List (Addr × Obj)} {t : L2.St} {H : Hp} {s : Shared} {c P : Addr} {params : Arguments} {body : Expr} {scope : Scope} {pos : Pos} {ps : Array Value} {E : Value → Shared → Prop} {Q : Value → Shared → Prop} (I : Inv X pins t H s) (TB : LamX.TabB X.base X.mg c P) (hcode : X.env.code = .ref c)
    (hP : H P = some (.tbl ps)) (ht : TriplesOk ps.toList) (ha : ∀ (p : Pos) (cv : Value), codeAmong p ps.toList = some cv → ∃ c, cv = .ref c) (hdef : defaultsOf params X.env = ([], [])) (hfree : ∀ y ∈ scope.names, y.2 = .free → ∃ c, X.env.cells.lookup y.1 = some c)
    (h : ∀ (f c' : Addr) (pm ctv : Value) (H1 : Hp) (s' : Shared), Inv X ((f, lamO X params body scope pm c' ctv) :: pins) t H1 s' → LamStep H P (X.env.qual ++ "<lambda>") ps pos c' H1 → Q (.ref f) s') :
    wpAny (model X.prog X.w) X.A (eval (.Lambda params body scope pos) X.env) Q E s := by
  have onP : s.heap.get? P = some { cls := .none, data := .fields ps } := I.hok P _ hP
  have nsg := I.mod.glob.keeps I.bk
  have bP := TB.bm.keeps I.bk
  have cP := TB.code.keeps I.bk
  have cl := closure_ok (scope := scope) (env := X.env) hfree
  have pinned : ∀ {f : Addr} {o : Obj} {H1 : Hp} {s' : Shared}, Inv X pins t H1 s' → s.heap.objs.size ≤ f → s'.heap.get? f = some o → H1 f = none → (∀ v, o.data ≠ .cell v) → Inv X ((f, o) :: pins) t H1 s' := fun {f o H1 s'} J hf ho hn hd =>
    J.pins_of fun p hp => by
      rcases List.mem_cons.mp hp with rfl | hp
      · exact ⟨ho, hn, Nat.ne_of_gt (Nat.lt_of_lt_of_le I.lt hf), I.nofs hf, hd⟩
      · exact J.pin p (List.mem_append_right _ hp)
  refine PySem.W.kla_eval hdef ?_
  cases hc : codeAmong pos ps.toList with
  | none =>
    refine PySem.W.kla_makeFunction (mg := X.mg) cl I.ok.glob nsg hcode cP onP ht hc TB.gP bP fun c' ctv h' tk hx hge hlt hrec htb => ?_
    obtain ⟨c2, oc, vs, u, e2, hoc, hd, hv⟩ := hrec
    cases e2
    have hsz : s.heap.objs.size ≤ h'.objs.size := Nat.le_trans hge (Nat.le_of_lt hlt)
    have nC : H c' = none := I.hok.fresh hge
    have nP : c' ≠ P := fun z => by
      rw [z, hP] at nC
      cases nC
    have J := LamX.inv_table (t' := tk) (more := #[rawInt pos.line, rawInt pos.col, .ref c']) (h' := h'.push (lamO X params body scope ((X.mg "__name__").getD .none) c' ctv)) I hP
      (fun b o hb e => Heap.get?_push_of_some _ (hx b o hb e)) (Heap.get?_push_of_some _ htb) hge ⟨oc, vs, u, Heap.get?_push_of_some _ hoc, hd, hv⟩
    refine h h'.objs.size c' _ ctv _ _ (pinned J hsz (Heap.get?_push_size _ rfl) ?_ (fun v z => by cases z)) (.inr ⟨nC, nP, rfl⟩)
    have n2 : h'.objs.size ≠ P := Nat.ne_of_gt (Nat.lt_of_lt_of_le (Heap.lt_size onP) hsz)
    rw [upd_ne (Nat.ne_of_gt hlt), upd_ne n2]
    exact I.hok.fresh hsz
  | some cv =>
    obtain ⟨c', e⟩ := ha pos cv hc
    subst e
    refine PySem.W.kla_makeFunctionHit (mg := X.mg) cl I.ok.glob nsg hcode cP onP ht hc bP fun ctv h' tk hx hsz => ?_
    have J : Inv X pins t H { s with heap := h'.push (lamO X params body scope ((X.mg "__name__").getD .none) c' ctv), toks := tk } := I.kept fun b o e => Heap.get?_push_of_some _ (hx b o e)
    exact h h'.objs.size c' _ ctv H _ (pinned J hsz (Heap.get?_push_size _ rfl) (I.hok.fresh hsz) (fun v z => by cases z)) (.inl ⟨rfl, hc⟩)
/-- the key as a function of the object and the item -/
def lamF (te : DE) (r : En) (i0 : Nat) : DF := fun ds s => match ds with
  | [_, d] => te (r.set i0 (some d)) s
  | _ => .bad
theorem uniq_of {N : List Str} {x : Str} {i0 : Nat} (h : (List.range N.length).all (fun i => decide (N[i]? ≠ some x) || decide (i = i0)) = true) : ∀ i, N[i]? = some x → i = i0 := fun i hi => by
  have hl := (List.getElem?_eq_some_iff.mp hi).1
  have := List.all_eq_true.mp h i (List.mem_range.mpr hl)
  simp only [Bool.or_eq_true, decide_eq_true_eq] at this
  exact this.resolve_left fun z => z hi
def tabAt (s : Sto) (i : Nat) : Option Str := match s[i]? with
  | some (some (.tab z)) => some z
  | _ => none
theorem tabAt_eq {s : Sto} {i : Nat} {y : Str} (h : tabAt s i = some y) : s[i]? = some (some (.tab y)) := by
  unfold tabAt at h
  split at h
  · rename_i z e
    cases h
    exact e
  · cases h
/-- sorted(e, key=lambda x: te), x in place i0, the table of the def y in cell i -/
noncomputable def sortLM (i : Nat) (y : Str) (i0 : Nat) (te me : DE) : DE := bindM me fun x => fun r s => if tabAt s i = some y then sortF (lamF te r i0) [.non, x] s else .bad
theorem e_sortedL {X : Cx} {W : WX} {a : Expr} {p lpos kpos pos : Pos} {params : Arguments} {body : Expr} {scope : Scope} {me te : DE} {x y : Str} {i i0 k : Nat} (hg : Gl X "sorted") (hm : X.mg "sorted" = none) (ha : PA X [a] (tA X.K W (consA me nilA)))
    (TB : LamX.TabB X.base X.mg (codeA X.K y) (tabA X.K y)) (hcode : X.env.code = .ref (codeA X.K y)) (hq : lamQ y = X.env.qual ++ "<lambda>") (hr : Rm (k + 3) X.A) (L : LamP X.env.scope scope x) (hdef : defaultsOf params X.env = ([], []))
    (hbind : ∀ (q : Str) (cl : List (Str × Addr)) (pm cv ctv v : Value), bindArgs (PySem.W.kla_fn "<lambda>" q params body scope cl pm cv ctv) ⟨[v], []⟩ = pure [(x, v)])
    (hi0 : X.N[i0]? = some x) (hu : ∀ i, X.N[i]? = some x → i = i0)
    (hbody : ∀ (f c : Addr) (A : Around) (outer : List Env) (s : Shared) (H : Hp) (E : XK), Rm k (A.deeper (LamX.lamEnv X scope s.heap.objs.size f c)) → PE (LamX.lamCx X A outer s H E scope f c) body (tE X.K (fun cl d _ H' => E cl d H') te))
    (he : backTo pos (starEach [a] X.env) = (false, eval a X.env) :: backTo pos (starEach [] X.env) := by rfl) (hpl : (backTo pos (starEach [a] X.env)).any (·.1) = false := by rfl)
    (hall : (backToKw pos (keywordEach [⟨some "key", .Lambda params body scope lpos, kpos⟩] X.env)).all (·.1.isSome) = true := by rfl) (hnone : (backToKw pos (keywordEach [⟨some "key", .Lambda params body scope lpos, kpos⟩] X.env)).any (·.1.isNone) = false := by rfl) (hks : (backToKw pos (keywordEach [⟨some "key", .Lambda params body scope lpos, kpos⟩] X.env)).filterMap (·.1) = [Str.ofString "key"] := by rfl) :
    PE X (.Call (.Name "sorted" p) [a] [⟨some "key", .Lambda params body scope lpos, kpos⟩] pos) (tE X.K W (sortLM i y i0 te me)) := by
  refine ⟨fun pins s t H Q I h => ?_⟩
  obtain ⟨r, so, w, rfl, env, st, hp⟩ := h
  refine wpAny_Call_Name_kw (ld_blt I hg hm (u := .builtin "sorted") rfl ?_ (by decide) (by decide))
  refine PyProof.Rows.callWith_kw (thn (ha.run pos pins s t w.H (fun vs H1 => ∃ so1 w1 x xv, vs = [xv] ∧ w1.H = H1 ∧ Ext w w1 ∧ StR X.K w1 so1 ∧ Rep X.K w1 xv x ∧ Post X.K (Rep X.K) w1 (WE W t) Q (if tabAt so1 i = some y then sortF (lamF te r i0) [.non, x] so1 else .bad)) I ⟨r, so, w, rfl, env, st, ?_⟩) fun us s1 z => ?_) he hpl hall hnone
  · unfold consA bindM
    unfold sortLM bindM at hp
    cases e : me r so with
    | bad => rw [e] at hp; exact hp
    | exc C fs s1 => rw [e] at hp; exact hp
    | ok x so1 =>
      rw [e] at hp
      intro vs w1 e1 st1 r1
      cases r1 with
      | cons r1 rs =>
        cases rs
        exact ⟨so1, w1, x, _, rfl, rfl, e1, st1, r1, Post.ext e1 hp⟩
  · obtain ⟨vs, H1, I1, rv, so1, w1, xd, xv, rfl, rfl, e1, st1, r1, hp1⟩ := z
    show wpAny _ _ (evalAll ((do let v ← eval (.Lambda params body scope lpos) X.env; standAt pos; pure v) :: [])) _ _ s1
    by_cases hi : tabAt so1 i = some y
    rotate_left
    · rw [if_neg hi] at hp1
      exact hp1.elim
    rw [if_pos hi] at hp1
    replace hi := tabAt_eq hi
    obtain ⟨P, hA, hz, eP, ps, hP, ht, ha2⟩ := st1.at_ i _ hi
    refine PySem.wpAny_evalAll_cons (wpAny_bind (lam_newF I1 (eP ▸ TB) hcode hP ht (fun q cv e => (ha2 q cv e).imp fun _ z => z.1) hdef (L.has I1.ok) fun f c pm ctv H2 s2 I2 ls => ?_))
    rw [← hq] at ls
    obtain ⟨w2, rfl, e2, st2, zc, hc⟩ := lam_world st1 hi hA hz eP hP ht ha2 ls
    refine wpAny_bind (wpAny_standAt (wpAny_pure ?_))
    refine PySem.wpAny_evalAll_nil ?_
    rw [hks]
    have hp2 : Post X.K (Rep X.K) w2 (WE W t) Q (sortF (lamF te r i0) [.non, xd] so1) := Post.ext e2 hp1
    unfold sortF at hp2
    dsimp only at hp2
    cases el : lstOf so1 xd with
    | none => rw [el] at hp2; exact hp2.elim
    | some ds =>
      rw [el] at hp2
      dsimp only at hp2
      obtain ⟨pp, xs, rfl, hs, rs⟩ := lstOf_ok st2 (r1.ext e2) el
      cases rv with
      | cons hv rv =>
        cases rv
        obtain rfl : _ = Value.ref pp := hv
        refine thn (sort_runG (kk := k + 1) I2 st2 hr hs rs (fun pins1 w3 s3 so2 so3 d1 v xv c1 z hpp I3 e3 st3 rx rd ek => ?_) hp2) fun _ _ z => ClX.unpinE z
        have hf : s3.heap.get? f = some (lamO X params body scope pm c ctv) := (I3.pin (f, _) (List.mem_append_right _ (hpp _ List.mem_cons_self))).1
        have hc3 : w3.H c = some (LamX.CodeO c (X.env.qual ++ "<lambda>")) := hq ▸ ((e3.H c zc).trans hc)
        have env3 : EnvR X.K w3 r t := ((env.ext e1).ext e2).ext e3
        refine wpAny_mono (lam_run (Q := fun u H2 => ∃ w4, w4.H = H2 ∧ Ext w3 w4 ∧ StR X.K w4 so3 ∧ Rep X.K w4 u (kD (c1, z))) I3 L hf hc3 (hbind _ _ _ _ _ _) hr (fun A outer s H E hr' => hbody f c A outer s H E hr') hi0 hu rx rd env3 st3 ?_) (fun u s4 z => ?_) fun _ _ z => z
        · rw [show te (r.set i0 (some d1)) so2 = .ok (.tup [.int c1, .str z]) so3 from ek]
          exact fun x w' e' st' r' => ⟨w', rfl, e', st', r'⟩
        · obtain ⟨xu, H4, I4, ru, w4, rfl, e4, st4, r4⟩ := z
          exact ⟨xu, w4, I4, ru, e4, st4, r4⟩
/-! ### x in o -/
def inO (tb : List (Str × DF)) (x o : D) (s : Sto) : Res D := match insOf s o with
  | some (C, _) => (match tb.lookup C with
    | some m => (match m [o, x] s with
      | .ok (.bl b) s' => .ok (.bl b) s'
      | .ok _ _ => .bad
      | .exc C fs s' => .exc C fs s'
      | .bad => .bad)
    | none => .bad)
  | none => .bad
section
variable {X : Cx} {W : WX} {a b : Expr} {pos : Pos} {ma mb : DE}
theorem e_inO {tb : List (Str × DF)} (tk : Takes X W) (T : MTab X "__contains__" tb) (ha : PE X a (tE X.K W ma)) (hb : PE X b (tE X.K W mb)) (hmk : behindInMarks .In b = false := by rfl) : PE X (.Compare a [.In] [b] pos) (tE X.K W (binM (inO tb) ma mb)) := by
  refine ⟨fun pins s t H Q I h => ?_⟩
  obtain ⟨r, so, w, rfl, env, st, hp⟩ := h
  refine wpAny_Compare1 (binT ha hb I (opP_of env st hp) fun v u s2 x y H2 I2 rx ry q => ?_) hmk
  obtain ⟨so, w, d, e, rfl, st, r1, r2, hp⟩ := q
  unfold inO at hp
  cases e1 : insOf so e with
  | none => rw [e1] at hp; exact hp.elim
  | some c1 =>
    obtain ⟨C, fs⟩ := c1
    rw [e1] at hp
    dsimp only at hp
    cases e3 : tb.lookup C with
    | none => rw [e3] at hp; exact hp.elim
    | some mf =>
      rw [e3] at hp
      dsimp only at hp
      obtain ⟨hc, g, kk, hm, F, hr⟩ := T.get e3
      obtain ⟨p, dx, l, rfl, hh, kv⟩ := insOf_ok st r2 e1
      cases ry
      obtain ⟨mA, J, _⟩ := ins_get I2.hok hh
      obtain ⟨od, J, _⟩ := J.look
      obtain ⟨m, hF⟩ := I2.fr
      refine PySem.W.in_K hF I2.ok.mod.kin J hm.at_ hm.fn ?_
      refine wpAny_mono (run_fnRD (us := [.ref p, v]) (vs := [.ref p, x]) (Q := fun z H' => ∃ bb, z = V.bl bb ∧ Q (.bl bb) H') F hr (passAt tk t) I2 (.cons rfl (.cons rx .nil)) (sp_post (.cons r2 (.cons r1 .nil)) st ?_)) (fun z s' hz => ?_) fun _ _ x => x
      · cases e4 : mf [e, d] so with
        | bad => rw [e4] at hp; exact hp
        | exc C fs s1 => rw [e4] at hp; exact hp
        | ok z s1 =>
          rw [e4] at hp
          intro v' w' e' st' q'
          cases q' with
          | bl bb => exact ⟨bb, rfl, hp (.bl bb) w' e' st' (.bl _)⟩
          | _ => exact hp.elim
      · obtain ⟨z', H', I', rz, bb, rfl, qz⟩ := hz
        cases rz
        exact wpAny_truthy_bool ⟨.bl bb, H', I', rfl, qz⟩
end
/-- the sort, its list a cell -/
noncomputable def sortFc (f : DF) : DF := fun ds s => match ds with
  | [y, x] => (match lstOf s x with
    | some l => (match keysF f y l [] s with
      | .ok kd s' => newL true (outK kd l) s'
      | _ => .bad)
    | none => .bad)
  | _ => .bad
noncomputable def sortKMc (tb : List (Str × DF)) (m : Str) (me mo : DE) : DE := bindM me fun x => methM (tb.map fun p => (p.1, sortFc p.2)) m mo (pureM [x])
theorem KTab.getc {X : Cx} {m C : Str} {f' : DF} : ∀ {tb : List (Str × DF)}, KTab X m tb → (tb.map fun p => (p.1, sortFc p.2)).lookup C = some f' → ∃ f, f' = sortFc f ∧ MethK X C m f
  | _, .nil, h => by simp at h
  | _, .cons (C := E) (f := f) h1 r, h => by
    rw [List.map_cons] at h
    by_cases e : C = E
    · subst e
      rw [List.lookup_cons_self] at h
      cases h
      exact ⟨f, rfl, h1⟩
    · have hb : (C == E) = false := by simpa using e
      rw [List.lookup_cons, hb] at h
      exact r.getc h
section
variable {X : Cx} {pins : List (Addr × Obj)} {t : L2.St} {w : Wd} {s : Shared} {Q : VK} {EE : XK} {f : DF} {d : D} {ds : List D} {xs : List V} {so : Sto} {q q0 g p : Addr} {kk : Nat}
theorem sort_runC (I : Inv X pins t w.H s) (st : StR X.K w so) (rd : Rep X.K w (.ref q0) d) (zq : w.Z q) (hq : w.H q = some (.met g q0)) (F : FnD X.prog X.w X.K X.mg X.base kk g f) (hr : Rm (kk + 2) X.A) (hs : SqL X.K w.H p xs) (rs : Reps X.K w xs ds)
    (hp : Post X.K (Rep X.K) w EE Q (match keysF f d ds [] so with
      | .ok kd s' => newL true (outK kd ds) s'
      | _ => .bad)) : wpAny (model X.prog X.w) X.A (call (.builtin "sorted") [.ref p] [(Str.ofString "key", .ref q)]) (EP X pins t Q) X.xe s := by
  cases ek : keysF f d ds [] so with
  | bad => rw [ek] at hp; exact hp.elim
  | exc C fs s' => rw [ek] at hp; exact hp.elim
  | ok kd s' =>
  rw [ek] at hp
  dsimp only at hp
  have hkl : kd.length = ds.length := by
    have := keysF_len ek
    rw [this]
    simp
  obtain ⟨its, rv, hl, hz⟩ := I.list hs
  have hxl := rv.length
  have hdl := rs.length
  refine SkJ.sorted (a := s.heap.objs.size + 1) (vs := its) (kz := kd.map kP) (b := false) (fun kS i ks s1 => s.heap.objs.size ≤ kS ∧ kS ≠ s.heap.objs.size + 1 ∧ ∃ w1 so1 kd1 kvs, Inv X pins t w1.H s1 ∧ w1.H (s.heap.objs.size + 1) = none ∧ w1.H kS = none ∧ Ext w w1 ∧ StR X.K w1 so1 ∧ kd1.length = i ∧ Vals kvs ks ∧ Reps X.K w1 kvs (kd1.map kD) ∧ keysF f d (ds.drop i) kd1 so1 = .ok kd s')
    rfl hl.isList (by rw [List.length_map]; omega) (by omega) (PySem.W.AllAlike.of fun b b' => ?_) (PySem.W.Sortable.tuples fun b => ⟨_, _, rfl⟩) (fun k hk => ?_) (ksk_s1 _ _) (fun x => ksk_l1 _ _) (fun x => ksk_t1 _ _) ?j0 ?jset ?turn ?jend ?fin
  · show PySem.W.alike (kP b) (kP b') = true
    unfold kP
    simp [PySem.W.alike, PySem.W.alikeAll]
  · obtain ⟨b, hb, rfl⟩ := List.mem_map.mp hk
    have := hr.rm.un
    have e : (kP b).depth = 1 := by
      unfold kP
      simp [PyData.depth, PyData.depthAll]
    rw [e]
    omega
  case j0 =>
    intro kS h' k h1 h2
    exact ⟨h1, h2, w, so, [], [], I.kept (t' := s.toks) k, I.hok.fresh (Nat.le_succ _), I.hok.fresh h1, Ext.refl w, st, rfl, .nil, .nil, ek⟩
  case jset =>
    rintro kS i ks s1 h' ⟨h1, h2, w1, so1, kd1, kvs, I1, n1, n2, e1, st1, hi, rv1, rs1, er⟩ _ _ k
    exact ⟨h1, h2, w1, so1, kd1, kvs, Inv_turn (t' := s1.toks) I I1 h1 n2 k, n1, n2, e1, st1, hi, rv1, rs1, er⟩
  case turn =>
    rintro kS e1 i v k ks s1 kA e hv hk ⟨h1, h2, w1, so1, kd1, kvs, I1, n1, n2, x1, st1, hi, rv1, rs1, er⟩ ok1 ok2
    have I2 := Inv_pin2 I I1 h1 (Nat.le_succ _) ok1 ok2 n2 n1 (fun _ z => by cases z) (fun _ z => by cases z)
    have hi' : i < ds.length := by
      have := (List.getElem?_eq_some_iff.mp hv).1
      omega
    rw [List.drop_eq_getElem_cons hi'] at er
    obtain ⟨c, z, so2, ec, er⟩ := keysF_inv er
    obtain ⟨xv, hx1, hx2⟩ := (rs.ext x1).get (List.getElem?_eq_getElem hi')
    obtain ⟨v', hv1, hv2⟩ := rv.get hx1
    rw [hv] at hv1
    cases hv1
    have hm : w1.H q = some (.met g q0) := (x1.H q zq).trans hq
    refine wpAny_call (PySem.W.method_call (I1.hok q _ hm) (codeAny_mono (F X.A.in1.in1 X.stack s1 w1.H [.ref q0, v] [.ref q0, xv] (fun u H2 => ∃ w2, w2.H = H2 ∧ Ext w1 w2 ∧ StR X.K w2 so2 ∧ Rep X.K w2 u (kD (c, z))) (fun _ _ _ => False) hr.in1.in1 I2.env0.in1.in1 (.cons rfl (.cons hv2 .nil))
      ⟨[d, ds[i]], so1, w1, rfl, .cons (rd.ext x1) (.cons hx2 .nil), st1, by rw [ec]; exact fun x w' e' st' r' => ⟨w', rfl, e', st', r'⟩⟩) fun zz s2 hz => ?_))
    cases zz with
    | error er =>
      obtain ⟨_, _, _, _, _, _, _, _, _, _, _, _, z⟩ := hz
      exact z.elim
    | ok fl =>
      cases fl with
      | ret u =>
        obtain ⟨xu, H2, I3, ru, w2, rfl, x2, st2, r2⟩ := I2.after hz
        refine ⟨⟨h1, h2, w2, so2, kd1 ++ [(c, z)], kvs ++ [xu], ?_, (I3.pin (_, _) (List.mem_append_right _ (List.mem_cons_of_mem _ List.mem_cons_self))).2.1, (I3.pin (_, _) (List.mem_append_right _ List.mem_cons_self)).2.1, x1.trans x2, st2, by rw [List.length_append, hi]; rfl, rv1.append (.cons ru .nil), ?_, er⟩,
          (I3.pin (_, _) (List.mem_append_right _ List.mem_cons_self)).1, (I3.pin (_, _) (List.mem_append_right _ (List.mem_cons_of_mem _ List.mem_cons_self))).1⟩
        · exact I3.pins_of fun p hp => I3.pin p (List.mem_append_right _ (List.mem_cons_of_mem _ (List.mem_cons_of_mem _ hp)))
        · rw [List.map_append]
          exact (rs1.ext x2).append (.cons r2 .nil)
      | _ => exact hz.elim
  case jend =>
    rintro kS ks s1 ⟨h1, h2, w1, so1, kd1, kvs, I1, n1, n2, x1, st1, hi, rv1, rs1, er⟩
    rw [List.drop_eq_nil_of_le (by omega)] at er
    rw [keysF] at er
    cases er
    exact keys_read I1 rs1 rv1
  case fin =>
    rintro kS ks s1 h' tk out c kA e e1 ⟨h1, h2, w1, so1, kd1, kvs, I1, n1, n2, x1, st1, hi, rv1, rs1, er⟩ ok1 ok2 kp ho hko
    rw [List.drop_eq_nil_of_le (by omega)] at er
    rw [keysF] at er
    cases er
    obtain ⟨hm, m1, m2⟩ := restrict s1.heap fun b => decide (b ≠ kS)
    obtain ⟨G, g1, g2⟩ := restrict h' fun b => decide (b ≠ s.heap.objs.size + 1)
    have J1 : Inv X pins t w1.H { s1 with heap := hm, toks := tk } := Inv_turn I I1 h1 n2 fun b o hb ho => by
      rw [m1 b (decide_eq_true hb)]
      exact ho
    have J2 : Inv X pins t w1.H { s1 with heap := G, toks := tk } := Inv_turn (s := { s1 with heap := hm, toks := tk }) I J1 (Nat.le_succ _) n1 fun b o hb ho => by
      by_cases hbk : b = kS
      · subst hbk
        have z := m2 b (decide_eq_false fun z => z rfl)
        rw [z] at ho
        cases ho
      · rw [m1 b (decide_eq_true hbk)] at ho
        rw [g1 b (decide_eq_true hb)]
        exact kp b o hb hbk ho
    have hkl2 : kd.length = its.length := hi
    obtain ⟨bs, ebs⟩ : ∃ bs : List (KP × (V × D)), bs = kd.zip (xs.zip ds) := ⟨_, rfl⟩
    have ek1 : bs.map (fun b => kP b.1) = kd.map kP := by
      rw [ebs, show (fun b : KP × (V × D) => kP b.1) = kP ∘ Prod.fst from rfl, ← List.map_map, List.map_fst_zip (by rw [List.length_zip]; omega)]
    have ek2 : bs.map (fun b => (b.1, b.2.2)) = kd.zip ds := by
      rw [ebs]
      clear ebs ek1
      have : ∀ (kd : List KP) (xs : List V) (ds : List D), xs.length = ds.length → (kd.zip (xs.zip ds)).map (fun b => (b.1, b.2.2)) = kd.zip ds := by
        intro kd
        induction kd with
        | nil => intro xs ds _; simp
        | cons k kd ih =>
          intro xs ds hl
          cases xs with
          | nil =>
            cases ds with
            | nil => simp
            | cons => simp at hl
          | cons x xs =>
            cases ds with
            | nil => simp at hl
            | cons d ds =>
              have := ih xs ds (by simpa using hl)
              simp [this]
      exact this kd xs ds hdl
    have hR : PySem.W.EachIs (fun u (b : KP × (V × D)) => RelV b.2.1 u) its bs := by
      rw [ebs]
      clear ebs ek1 ek2
      have : ∀ (kd : List KP) (xs : List V) (ds : List D) (its : List Value), kd.length = its.length → Vals xs its → xs.length = ds.length → PySem.W.EachIs (fun u (b : KP × (V × D)) => RelV b.2.1 u) its (kd.zip (xs.zip ds)) := by
        intro kd
        induction kd with
        | nil =>
          intro xs ds its hl rv _
          cases its with
          | nil => exact .nil
          | cons => simp at hl
        | cons k kd ih =>
          intro xs ds its hl rv hd
          cases rv with
          | nil => simp at hl
          | cons r rv =>
            cases ds with
            | nil => simp at hd
            | cons d ds => exact .cons r (ih _ ds _ (by simpa using hl) rv (by simpa using hd))
      exact this kd xs ds its hkl2 rv hdl
    have hB : ∀ b ∈ bs, Rep X.K w1 b.2.1 b.2.2 := by
      intro b hb
      rw [ebs] at hb
      have hb2 := (List.of_mem_zip hb).2
      obtain ⟨i, hi⟩ := List.mem_iff_getElem?.mp hb2
      rw [List.getElem?_zip_eq_some] at hi
      obtain ⟨v, h1, h2⟩ := (rs.ext x1).get hi.2
      rw [hi.1] at h1
      cases h1
      exact h2
    have hko2 := PySem.W.keyedOut_each (rev := false) (bs := bs) (fun b => kP b.1) (by rw [ek1]; exact hko) hR
    have eo : outK kd ds = (bs.mergeSort (PySem.W.dataLe false fun b => kP b.1)).map fun b => b.2.2 := by
      unfold outK
      rw [← ek2, ← List.map_mergeSort (s := PySem.W.dataLe false fun p : KP × D => kP p.1) (r := PySem.W.dataLe false fun b : KP × (V × D) => kP b.1) (fun a _ b _ => rfl), List.map_map]
      rfl
    have hM : ∀ b ∈ bs.mergeSort (PySem.W.dataLe false fun b => kP b.1), Rep X.K w1 b.2.1 b.2.2 := fun b hb => hB b (List.mem_mergeSort.mp hb)
    obtain ⟨ms, ems⟩ : ∃ ms, ms = bs.mergeSort (PySem.W.dataLe false fun b => kP b.1) := ⟨_, rfl⟩
    rw [← ems] at hko2 eo hM
    have hV : Vals (ms.map fun b => b.2.1) out := by
      clear ems eo hM ho hko
      induction hko2 with
      | nil => exact .nil
      | cons h _ ih => exact .cons h ih
    have hRs : Reps X.K w1 (ms.map fun b => b.2.1) (ms.map fun b => b.2.2) := by
      clear ems eo hko2 hV
      induction ms with
      | nil => exact .nil
      | cons m ms ih => exact .cons (hM m List.mem_cons_self) (ih fun b hb => hM b (List.mem_cons_of_mem _ hb))
    have hol : out.length = its.length := hko.length (by rw [List.length_map]; omega)
    refine ⟨.ref _, upd w1.H (s.heap.objs.size + 1) (.lst (ms.map fun b => b.2.1)), ?_, rfl, ?_⟩
    · exact Inv.laidN (s := { s1 with heap := G, toks := tk }) (h' := h') (t' := tk) J2 (fun b o hb => by
        by_cases e : b = s.heap.objs.size + 1
        · subst e
          rw [g2 _ (decide_eq_false fun z => z rfl)] at hb
          cases hb
        · rw [← g1 b (decide_eq_true e)]
          exact hb) (g2 _ (decide_eq_false fun z => z rfl)) n1 ⟨by have := hV.length; omega, out, c, hV, ho⟩
    · rw [eo] at hp
      exact (Post.ext x1 hp).newL st1 hRs _ n1
end
section
variable {X : Cx} {W : WX} {a o : Expr} {pos p apos kpos : Pos} {me mo : DE} {m : Str}
theorem e_sortedKc {tb : List (Str × DF)} (tk : Takes X W) (T : KTab X m tb) (hg : Gl X "sorted") (hm : X.mg "sorted" = none) (ha : PA X [a] (tA X.K W (consA me nilA))) (ho : PE X o (tE X.K W mo))
    (hb : attributeBase o m X.env (eval o X.env) = eval o X.env := by rfl)
    (he : backTo pos (starEach [a] X.env) = (false, eval a X.env) :: backTo pos (starEach [] X.env) := by rfl) (hpl : (backTo pos (starEach [a] X.env)).any (·.1) = false := by rfl)
    (hall : (backToKw pos (keywordEach [⟨some "key", .Attribute o m apos, kpos⟩] X.env)).all (·.1.isSome) = true := by rfl) (hnone : (backToKw pos (keywordEach [⟨some "key", .Attribute o m apos, kpos⟩] X.env)).any (·.1.isNone) = false := by rfl) (hks : (backToKw pos (keywordEach [⟨some "key", .Attribute o m apos, kpos⟩] X.env)).filterMap (·.1) = [Str.ofString "key"] := by rfl) :
    PE X (.Call (.Name "sorted" p) [a] [⟨some "key", .Attribute o m apos, kpos⟩] pos) (tE X.K W (sortKMc tb m me mo)) := by
  refine ⟨fun pins s t H Q I h => ?_⟩
  obtain ⟨r, so, w, rfl, env, st, hp⟩ := h
  refine wpAny_Call_Name_kw (ld_blt I hg hm (u := .builtin "sorted") rfl ?_ (by decide) (by decide))
  refine PyProof.Rows.callWith_kw (thn (ha.run pos pins s t w.H (fun vs H1 => ∃ so1 w1 x xv, vs = [xv] ∧ w1.H = H1 ∧ Ext w w1 ∧ StR X.K w1 so1 ∧ Rep X.K w1 xv x ∧ Post X.K (Rep X.K) w1 (WE W t) Q (methM (tb.map fun p => (p.1, sortFc p.2)) m mo (pureM [x]) r so1)) I ⟨r, so, w, rfl, env, st, ?_⟩) fun us s1 z => ?_) he hpl hall hnone
  · unfold consA bindM
    unfold sortKMc bindM at hp
    cases e : me r so with
    | bad => rw [e] at hp; exact hp
    | exc C fs s1 => rw [e] at hp; exact hp
    | ok x so1 =>
      rw [e] at hp
      intro vs w1 e1 st1 r1
      cases r1 with
      | cons r1 rs =>
        cases rs
        exact ⟨so1, w1, x, _, rfl, rfl, e1, st1, r1, Post.ext e1 hp⟩
  · obtain ⟨vs, H1, I1, rv, so1, w1, x, xv, rfl, rfl, e1, st1, r1, hp1⟩ := z
    show wpAny _ _ (evalAll ((do let v ← eval (.Attribute o m apos) X.env; standAt pos; pure v) :: [])) _ _ s1
    refine PySem.wpAny_evalAll_cons (wpAny_bind (attr_of hb (meth_mid I1 ho (env.ext e1) st1 hp1 fun q0 C f' d s2 so2 w2 dx l I2 e2 st2 r2 hh g1 e3 hp2 => ?_)))
    obtain ⟨f, rfl, hc, g, kk, hm', F, hr⟩ := T.getc e3
    refine getbound_ok I2 hh hc hm' g1 fun q s3 hq I3 => ?_
    refine wpAny_bind (wpAny_standAt (wpAny_pure ?_))
    refine PySem.wpAny_evalAll_nil ?_
    rw [hks]
    have x3 := Wd.frz_ext st2 (o := .met g q0) hq
    have st3 := Wd.frz_st st2 (o := .met g q0) hq
    have hp3 : Post X.K (Rep X.K) (w2.frz q (.met g q0)) (WE W t) Q (sortFc f [d, x] so2) := Post.ext x3 hp2
    unfold sortFc at hp3
    dsimp only at hp3
    cases el : lstOf so2 x with
    | none => rw [el] at hp3; exact hp3.elim
    | some ds =>
      rw [el] at hp3
      dsimp only at hp3
      obtain ⟨pp, xs, rfl, hs, rs⟩ := lstOf_ok st3 ((r1.ext e2).ext x3) el
      cases rv with
      | cons hv rv =>
        cases rv
        obtain rfl : _ = Value.ref pp := hv
        exact sort_runC (w := w2.frz q (.met g q0)) I3 st3 (r2.ext x3) Wd.frz_z Wd.frz_h F hr hs rs hp3
end
end Mp
set_option Elab.async false
set_option linter.all false
set_option maxRecDepth 100000
set_option maxHeartbeats 0
namespace G
open PySem PySem.Spec PyProof.Rows L2 Mp
abbrev PP : Program := (PySem.Challenge.rw_firstanswers_k09_words_compared).prog
def top (i : Nat) : Stmt := PySem.Challenge.pw_firstanswers_k09_words_compared.main.body.getD i (.Pass ⟨0, 0, 0, 0⟩)
theorem takes_blk {X : Cx} : Takes X W0 := fun u s' ⟨_, _, _, _, _, _, _, _, _, _, _, _, _, _, _, _, z⟩ => z.elim
theorem raise_row1 {T : FuncData → Prop} {C : Prop} (h : ∃ fd, T fd) (k : ∀ fd, T fd → C) : C := h.elim k
abbrev s_InvalidCost___init__ : Stmt := inClass (top 3) 0
def d_InvalidCost___init__ : DefM := ⟨fun K => He.ma K (He.ga K "InvalidCost") "__init__", "__init__", "InvalidCost.__init__", defArgs s_InvalidCost___init__, defBody s_InvalidCost___init__, defScope s_InvalidCost___init__, [], none⟩
abbrev s_InvalidLetters___init__ : Stmt := inClass (top 2) 0
def d_InvalidLetters___init__ : DefM := ⟨fun K => He.ma K (He.ga K "InvalidLetters") "__init__", "__init__", "InvalidLetters.__init__", defArgs s_InvalidLetters___init__, defBody s_InvalidLetters___init__, defScope s_InvalidLetters___init__, [], none⟩
abbrev s_InvalidWord___init__ : Stmt := inClass (top 4) 0
def d_InvalidWord___init__ : DefM := ⟨fun K => He.ma K (He.ga K "InvalidWord") "__init__", "__init__", "InvalidWord.__init__", defArgs s_InvalidWord___init__, defBody s_InvalidWord___init__, defScope s_InvalidWord___init__, [], none⟩
abbrev s_is_word : Stmt := top 14
def d_is_word : DefM := ⟨fun K => He.ga K "is_word", "is_word", "is_word", defArgs s_is_word, defBody s_is_word, defScope s_is_word, [.int 160], none⟩
abbrev s_Order___contains__ : Stmt := inClass (top 17) 2
def d_Order___contains__ : DefM := ⟨fun K => He.ma K (He.ga K "Order") "__contains__", "__contains__", "Order.__contains__", defArgs s_Order___contains__, defBody s_Order___contains__, defScope s_Order___contains__, [], none⟩
abbrev s_are_letters : Stmt := top 13
def d_are_letters : DefM := ⟨fun K => He.ga K "are_letters", "are_letters", "are_letters", defArgs s_are_letters, defBody s_are_letters, defScope s_are_letters, [], none⟩
abbrev s_is_integer : Stmt := top 10
def d_is_integer : DefM := ⟨fun K => He.ga K "is_integer", "is_integer", "is_integer", defArgs s_is_integer, defBody s_is_integer, defScope s_is_integer, [], none⟩
abbrev s_is_between : Stmt := top 11
def d_is_between : DefM := ⟨fun K => He.ga K "is_between", "is_between", "is_between", defArgs s_is_between, defBody s_is_between, defScope s_is_between, [], none⟩
abbrev s_is_letter : Stmt := top 12
def d_is_letter : DefM := ⟨fun K => He.ga K "is_letter", "is_letter", "is_letter", defArgs s_is_letter, defBody s_is_letter, defScope s_is_letter, [], none⟩
abbrev s_Order___init__ : Stmt := inClass (top 17) 0
def d_Order___init__ : DefM := ⟨fun K => He.ma K (He.ga K "Order") "__init__", "__init__", "Order.__init__", defArgs s_Order___init__, defBody s_Order___init__, defScope s_Order___init__, [], none⟩
abbrev s_Order_cost_of : Stmt := inClass (top 17) 7
def d_Order_cost_of : DefM := ⟨fun K => He.ma K (He.ga K "Order") "cost_of", "cost_of", "Order.cost_of", defArgs s_Order_cost_of, defBody s_Order_cost_of, defScope s_Order_cost_of, [], none⟩
abbrev s_Order_key : Stmt := inClass (top 17) 8
def d_Order_key : DefM := ⟨fun K => He.ma K (He.ga K "Order") "key", "key", "Order.key", defArgs s_Order_key, defBody s_Order_key, defScope s_Order_key, [], none⟩
abbrev s_Order_below : Stmt := inClass (top 17) 9
def d_Order_below : DefM := ⟨fun K => He.ma K (He.ga K "Order") "below", "below", "Order.below", defArgs s_Order_below, defBody s_Order_below, defScope s_Order_below, [], none⟩
abbrev s_need_word : Stmt := top 15
def d_need_word : DefM := ⟨fun K => He.ga K "need_word", "need_word", "need_word", defArgs s_need_word, defBody s_need_word, defScope s_need_word, [.int 160], none⟩
abbrev s_Order_cost : Stmt := inClass (top 17) 16
def d_Order_cost : DefM := ⟨fun K => He.ma K (He.ga K "Order") "cost", "cost", "Order.cost", defArgs s_Order_cost, defBody s_Order_cost, defScope s_Order_cost, [], none⟩
abbrev s_Order_is_before : Stmt := inClass (top 17) 19
def d_Order_is_before : DefM := ⟨fun K => He.ma K (He.ga K "Order") "is_before", "is_before", "Order.is_before", defArgs s_Order_is_before, defBody s_Order_is_before, defScope s_Order_is_before, [], none⟩
abbrev s_Order_of_costs : Stmt := inClass (top 17) 3
def d_Order_of_costs : DefM := ⟨fun K => He5.wf K (He.ga K "Order") "classmethod" "of_costs", "of_costs", "Order.of_costs", defArgs s_Order_of_costs, defBody s_Order_of_costs, defScope s_Order_of_costs, [], none⟩
abbrev s_Order_sorted_words : Stmt := inClass (top 17) 20
def d_Order_sorted_words : DefM := ⟨fun K => He.ma K (He.ga K "Order") "sorted_words", "sorted_words", "Order.sorted_words", defArgs s_Order_sorted_words, defBody s_Order_sorted_words, defScope s_Order_sorted_words, [], none⟩
abbrev s__law_draw : Stmt := top 20
def d__law_draw : DefM := ⟨fun K => He.ga K "_law_draw", "_law_draw", "_law_draw", defArgs s__law_draw, defBody s__law_draw, defScope s__law_draw, [], none⟩
abbrev s__law_pick : Stmt := top 21
def d__law_pick : DefM := ⟨fun K => He.ga K "_law_pick", "_law_pick", "_law_pick", defArgs s__law_pick, defBody s__law_pick, defScope s__law_pick, [], none⟩
abbrev s__law_word : Stmt := top 25
def d__law_word : DefM := ⟨fun K => He.ga K "_law_word", "_law_word", "_law_word", defArgs s__law_word, defBody s__law_word, defScope s__law_word, [], none⟩
abbrev s__law_long_word : Stmt := top 31
def d__law_long_word : DefM := ⟨fun K => He.ga K "_law_long_word", "_law_long_word", "_law_long_word", defArgs s__law_long_word, defBody s__law_long_word, defScope s__law_long_word, [], none⟩
abbrev s__law_shuffled : Stmt := top 22
def d__law_shuffled : DefM := ⟨fun K => He.ga K "_law_shuffled", "_law_shuffled", "_law_shuffled", defArgs s__law_shuffled, defBody s__law_shuffled, defScope s__law_shuffled, [], none⟩
abbrev s__law_beside : Stmt := top 33
def d__law_beside : DefM := ⟨fun K => He.ga K "_law_beside", "_law_beside", "_law_beside", defArgs s__law_beside, defBody s__law_beside, defScope s__law_beside, [], none⟩
abbrev s__law_cost_of : Stmt := top 27
def d__law_cost_of : DefM := ⟨fun K => He.ga K "_law_cost_of", "_law_cost_of", "_law_cost_of", defArgs s__law_cost_of, defBody s__law_cost_of, defScope s__law_cost_of, [], none⟩
abbrev s__law_costs : Stmt := top 24
def d__law_costs : DefM := ⟨fun K => He.ga K "_law_costs", "_law_costs", "_law_costs", defArgs s__law_costs, defBody s__law_costs, defScope s__law_costs, [], none⟩
abbrev s__law_is_word : Stmt := top 32
def d__law_is_word : DefM := ⟨fun K => He.ga K "_law_is_word", "_law_is_word", "_law_is_word", defArgs s__law_is_word, defBody s__law_is_word, defScope s__law_is_word, [], none⟩
abbrev s__law_letters : Stmt := top 23
def d__law_letters : DefM := ⟨fun K => He.ga K "_law_letters", "_law_letters", "_law_letters", defArgs s__law_letters, defBody s__law_letters, defScope s__law_letters, [], none⟩
abbrev s__law_lettered : Stmt := top 29
def d__law_lettered : DefM := ⟨fun K => He.ga K "_law_lettered", "_law_lettered", "_law_lettered", defArgs s__law_lettered, defBody s__law_lettered, defScope s__law_lettered, [], none⟩
abbrev s__law_made_order : Stmt := top 30
def d__law_made_order : DefM := ⟨fun K => He.ga K "_law_made_order", "_law_made_order", "_law_made_order", defArgs s__law_made_order, defBody s__law_made_order, defScope s__law_made_order, [], none⟩
abbrev s__law_odd : Stmt := top 26
def d__law_odd : DefM := ⟨fun K => He.ga K "_law_odd", "_law_odd", "_law_odd", defArgs s__law_odd, defBody s__law_odd, defScope s__law_odd, [], none⟩
abbrev s__law_pen : Stmt := top 19
def d__law_pen : DefM := ⟨fun K => He.ga K "_law_pen", "_law_pen", "_law_pen", defArgs s__law_pen, defBody s__law_pen, defScope s__law_pen, [], none⟩
abbrev s__law_rank : Stmt := top 28
def d__law_rank : DefM := ⟨fun K => He.ga K "_law_rank", "_law_rank", "_law_rank", defArgs s__law_rank, defBody s__law_rank, defScope s__law_rank, [], none⟩
abbrev s_law : Stmt := top 34
def d_law : DefM := ⟨fun K => He.ga K "law", "law", "law", defArgs s_law, defBody s_law, defScope s_law, [], none⟩
def it0 : Isi := ⟨["Order"], [(("Order", "Order"), true)], ["Order"], [(("Order", "int"), false), (("Order", "bool"), false), (("Order", "str"), false), (("Order", "tuple"), false), (("Order", "list"), false), (("Order", "dict"), false)]⟩
def fn0 : List (DefM) := [d_InvalidCost___init__, d_InvalidLetters___init__, d_InvalidWord___init__, d_is_word, d_Order___contains__, d_are_letters, d_is_integer, d_is_between, d_is_letter, d_Order___init__, d_Order_cost_of, d_Order_key, d_Order_below, d_need_word, d_Order_cost, d_Order_is_before, d_Order_of_costs, d_Order_sorted_words, d__law_draw, d__law_pick, d__law_word, d__law_long_word, d__law_shuffled, d__law_beside, d__law_cost_of]
def fn1 : List (DefM) := [d__law_costs, d__law_is_word, d__law_letters, d__law_lettered, d__law_made_order, d__law_odd, d__law_pen, d__law_rank, d_law]
def fn : List (DefM) := fn0 ++ fn1
def fb0 : List (Frag → Bool) := [ckF (.free "ValueError"), ckExc "InvalidCost" "ValueError.__new__" mValue, ckF (.noat "InvalidCost" "letter"), ckExc "InvalidLetters" "ValueError.__new__" mValue, ckF (.noat "InvalidLetters" "value"), ckExc "InvalidWord" "ValueError.__new__" mValue, ckF (.noat "InvalidWord" "value"), ckF (.free "str"), ckF (.free "isinstance"), ckF (.free "len"), ckF (.free "all"), ckF (.cls "Order"), ckF (.noat "Order" "own_letters"), ckF (.glo "is_word"), ckF (.int "MAX_LETTERS" 4), ckF (.str "ALPHABET" "abcdefghijklmnopqrstuvwxyz"), ckF (.free "range"), ckF (.free "int"), ckF (.free "bool"), ckF (.glo "is_integer"), ckF (.glo "are_letters"), ckF (.glo "InvalidLetters"), ckF (.free "sorted"), ckF (.glo "is_letter"), ckF (.int "MAX_COST" 9)]
def fb1 : List (Frag → Bool) := [ckF (.glo "is_between"), ckF (.glo "InvalidCost"), ckF (.noat "Order" "own_costs"), ckF (.free "sum"), ckF (.meth "Order" "cost_of"), ckF (.meth "Order" "key"), ckF (.glo "InvalidWord"), ckF (.glo "need_word"), ckF (.meth "Order" "below"), ckF (.free "dict"), ckF (.mkr "Order"), ckF (.free "list"), ckBm "Order" "key", ckF (.free "abs"), ckF (.glo "_law_draw"), ckF (.glo "_law_pick"), ckF (.glo "_law_word"), ckF (.glo "_law_long_word"), ckF (.glo "_law_shuffled"), ckF (.glo "_law_letters"), ckF (.glo "_law_costs"), ckCr "Order", ckCm "Order" "of_costs", ckF (.glo "Order"), ckF (.glo "_law_cost_of")]
def fb2 : List (Frag → Bool) := [ckF (.glo "_law_pen"), ckF (.glo "_law_lettered"), ckF (.glo "_law_made_order"), ckF (.glo "_law_beside"), ckF (.meth "Order" "cost"), ckSys, ckF (.free "repr"), ckF (.meth "Order" "__contains__"), ckF (.meth "Order" "is_before"), ckF (.glo "_law_rank"), ckF (.meth "Order" "sorted_words"), ckF (.glo "_law_odd"), ckF (.glo "_law_is_word"), ckF (.glo "law"), ckIsi it0]
def fb : List (Frag → Bool) := fb0 ++ fb1 ++ fb2
def tl0 : List PySem.Str := ["law"]
abbrev FX (K : Frag) (mg : Str → Option Value) : Prop := Fx PP fb fn K mg
def loose0 : List (PySem.Str) := ["_wall", "__name__", "InvalidLetters", "InvalidCost", "InvalidWord", "MAX_LETTERS", "MAX_COST", "MAX_WORD", "ALPHABET", "is_integer", "is_between", "is_letter", "are_letters", "is_word", "need_word", "Order", "_law_pen", "_law_draw", "_law_pick", "_law_shuffled", "_law_letters", "_law_costs", "_law_word", "_law_odd", "_law_cost_of"]
def loose1 : List (PySem.Str) := ["_law_rank", "_law_lettered", "_law_made_order", "_law_long_word", "_law_is_word", "_law_beside"]
def loose : List (PySem.Str) := loose0 ++ loose1
abbrev R : PySem.W.OpenRow := PySem.W.OpenLaw.row PySem.Challenge.rw_firstanswers_k09_words_compared
abbrev hk : PySem.W.Hook := hookT 6 PP.main.file fb fn tl0
def ob (s : PySem.W.SharedT) : AlT := obsTG 6 PP.main.file fb fn tl0 (HandSHeadRun.getT s)
theorem ob_eq (s : PySem.W.SharedT) : ob s = hk.obs s.abs := obsTG_eq (HandSHeadRun.getT_eq s)
theorem run_a (w : World) (os : OsState) : hdA R 20000 w os = some true := by
  kernel_rfl
theorem run_b (w : World) (os : OsState) : hdB R (PySem.W.view R.prog [34]) 20000 loose w os = some (PySem.W.openGood (PySem.W.view R.prog [34]) loose) := by
  kernel_rfl
theorem run_f0 (w : World) (os : OsState) : hdC R (fun s => (fb0).all fun f => f (fgT 6 s)) 20000 w os = some true := by
  kernel_rfl
theorem run_f1 (w : World) (os : OsState) : hdC R (fun s => (fb1).all fun f => f (fgT 6 s)) 20000 w os = some true := by
  kernel_rfl
theorem run_f2 (w : World) (os : OsState) : hdC R (fun s => (fb2).all fun f => f (fgT 6 s)) 20000 w os = some true := by
  kernel_rfl
theorem hdC_allK {r : PySem.W.OpenRow} {Y : Type} {P : PySem.W.SharedT → Y → Bool} {l m : List Y} {M : Nat} {w : World} {os : OsState} (a : hdC r (fun s => l.all (P s)) M w os = some true) (b : hdC r (fun s => m.all (P s)) M w os = some true) : hdC r (fun s => (l ++ m).all (P s)) M w os = some true := by
  have h := hdC_and a b
  have e : (fun s : PySem.W.SharedT => (l ++ m).all (P s)) = fun s => l.all (P s) && m.all (P s) := funext fun s => List.all_append
  rw [e]
  exact h
theorem run_k0 (w : World) (os : OsState) : hdC R (fun s => fn0.all fun d => d.ok PP.main.file (fgT 6 s)) 20000 w os = some true := by
  kernel_rfl
theorem run_k1 (w : World) (os : OsState) : hdC R (fun s => fn1.all fun d => d.ok PP.main.file (fgT 6 s)) 20000 w os = some true := by
  kernel_rfl
def okP (s : PySem.W.SharedT) (d : DefM) : Bool := d.ok PP.main.file (fgT 6 s)
theorem fn_eq : fn = fn0 ++ fn1 := rfl
theorem run_kk (w : World) (os : OsState) : hdC R (fun s => (fn0 ++ fn1).all (okP s)) 20000 w os = some true := (hdC_allK (P := okP) (l := fn0) (m := fn1) (run_k0 w os) (run_k1 w os))
theorem run_k (w : World) (os : OsState) : hdC R (fun s => fn.all fun d => d.ok PP.main.file (fgT 6 s)) 20000 w os = some true := by
  rw [fn_eq]
  exact run_kk w os
theorem run_v (w : World) (os : OsState) : hdC R (fun s => fn.map fun d => fnWM (fgT 6 s) d) 20000 w os = some (fn.map DefM.val) := by
  kernel_rfl
theorem run_t (w : World) (os : OsState) : hdC R (fun s => tabsB (HandSHeadRun.getT s) (fgT 6 s) tl0) 20000 w os = some true := by
  kernel_rfl
theorem fb_eq : fb = ((fb0) ++ (fb1)) ++ (fb2) := by
  simp only [fb, List.append_assoc]
theorem run_f (w : World) (os : OsState) : hdC R (fun s => fb.all fun f => f (fgT 6 s)) 20000 w os = some true := by
  rw [fb_eq]
  exact (hdC_all (F := fun s => (fgT 6 s)) (l := fb0 ++ fb1) (m := fb2) (hdC_all (F := fun s => (fgT 6 s)) (l := fb0) (m := fb1) (run_f0 w os) (run_f1 w os)) (run_f2 w os))
theorem run_c (w : World) (os : OsState) : hdC R ob 20000 w os = some (hk.val w) := hdC_pair (run_t w os) (hdC_pair (hdC_and (run_f w os) (run_k w os)) (run_v w os))
theorem run (w : World) : HandSHeadRun.RunEq R (PySem.W.view R.prog [34]) hk ob 20000 loose w := run_split (H := hk) (run_a w) (run_b w) (run_c w)
end G
set_option Elab.async false
set_option linter.all false
set_option maxRecDepth 100000
set_option maxHeartbeats 0
section
open PySem PySem.W PySem.Calls PyProof.Rows
theorem G.fin (m : Mp.DF) (hf : ∀ {w : World} {K : Frag} {mg : Str → Option Value} {base : Heap}, G.FX K mg → Mp.Tbs K mg base G.tl0 → Mp.FnD G.PP w K mg base 7 (He.ga K "law") m) (hok : ∀ ns : List Int, ∃ s', m [.rol (ns.map .int)] (Mp.s0T G.tl0) = .ok (.bl true) s') : PySem.Challenge.rw_firstanswers_k09_words_compared.Holds := by
  w_on; refine G.okl fun said => ?_
  refine HandSHeadRun.head_any (r := OpenLaw.row PySem.Challenge.rw_firstanswers_k09_words_compared) (q := view (OpenLaw.row PySem.Challenge.rw_firstanswers_k09_words_compared).prog [34]) (H := G.hk) (ob := G.ob) (M := 20000) (loose := G.loose) (d := HandSHeadRun.topDef (OpenLaw.row PySem.Challenge.rw_firstanswers_k09_words_compared).prog 34) (kwd := []) G.ob_eq
    (by kernel_rfl) (fun s => by kernel_rfl) G.run (by kernel_rfl) (by kernel_rfl) (by kernel_rfl) (by rfl) (by first | assumption | decide +kernel) (by decide +kernel) ⟨rfl, rfl, rfl, rfl, rfl, by decide +kernel⟩ ?hw ?hc
  case hw => w_witness2
  case hc =>
    refine Mp.walk_endT (tl := G.tl0) (l := PySem.Challenge.rw_firstanswers_k09_words_compared) (n := 63) (k := 7) (m := m) rfl (by decide) (by kernel_rfl) ⟨⟨rfl, by decide, by decide⟩, rfl⟩ ?F (fun ns _ _ => hok ns)
    intro w mg fa h Y N hmg0
    obtain ⟨K, KX, c, T⟩ := Y
    have hmg : mg ("law" : PySem.Str) = some (.ref fa) := by
      have e : (HandSHeadRun.topDef (OpenLaw.row PySem.Challenge.rw_firstanswers_k09_words_compared).prog 34).name = ("law" : PySem.Str) := by kernel_rfl
      rw [← e]
      exact hmg0
    have Z : G.FX K mg := ⟨c, h, KX, N⟩
    have e := hmg.symm.trans (Mp.Fx.glo Z 63 rfl)
    cases e
    exact ⟨K, KX, T, fun base _ _ TB => hf Z TB⟩
end
set_option Elab.async false
/-! plain number theory: Fermat's little theorem -/
namespace Pl
def choose : Nat → Nat → Nat
  | _, 0 => 1
  | 0, _ + 1 => 0
  | n + 1, k + 1 => choose n k + choose n (k + 1)
end Pl
set_option Elab.async false
set_option linter.all false
/-! plain: remainders -/
namespace Pl
end Pl
set_option Elab.async false
set_option linter.all false
/-! plain: fractions as rationals -/
namespace Pl
def dv (t b : Int) : Int := if 0 < b then (Int.gcd t b : Nat) else -((Int.gcd t b : Nat) : Int)
end Pl
set_option Elab.async false
set_option linter.all false
/-! plain: remainders of fractions -/
namespace Pl
end Pl
set_option Elab.async false
set_option linter.all false
set_option maxRecDepth 100000
/-! Pl: what is wanted behind a computation on data; one rule a construct. -/
namespace Pl
open Mp
open PySem (Str sizeLine)
/-- what is wanted of an expression's end -/
def RP {T : Type} (Q : T → Sto → Prop) (E : Str → List (Str × D) → Sto → Prop) : Res T → Prop
  | .ok a s => Q a s
  | .exc C fs s => E C fs s
  | .bad => False
structure PQ where
  nx : En → Sto → Prop
  rt : D → Sto → Prop
  bk : En → Sto → Prop
  ct : En → Sto → Prop
  ex : Str → List (Str × D) → En → Sto → Prop
def FP (q : PQ) : Fl → Prop
  | .nx r s => q.nx r s
  | .rt d s => q.rt d s
  | .bk r s => q.bk r s
  | .ct r s => q.ct r s
  | .exc C fs r s => q.ex C fs r s
  | .bad => False
abbrev XT := Str → List (Str × D) → Sto → Prop
abbrev noX : XT := fun _ _ _ => False
section
variable {T U : Type} {Q Q' : T → Sto → Prop} {E E' : XT} {r : En} {s : Sto} {q q' : PQ}
theorem RP.mono {m : Res T} (h : RP Q E m) (hq : ∀ a s, Q a s → Q' a s) (he : ∀ C fs s, E C fs s → E' C fs s) : RP Q' E' m := by
  cases m with
  | ok a s => exact hq a s h
  | exc C fs s => exact he C fs s h
  | bad => exact h
theorem RP.imp {m : Res T} (h : RP Q noX m) (hq : ∀ a s, Q a s → Q' a s) : RP Q' E m := h.mono hq fun _ _ _ z => z.elim
theorem RP.of {m : Res T} {a : T} {s' : Sto} (h : m = .ok a s') (hq : Q a s') : RP Q E m := by
  rw [h]
  exact hq
theorem RP.ex {m : Res T} (h : RP Q noX m) : ∃ a s', m = .ok a s' ∧ Q a s' := by
  cases m with
  | ok a s => exact ⟨a, s, rfl, h⟩
  | exc C fs s => exact h.elim
  | bad => exact h.elim
theorem FP.mono {f : Fl} (h : FP q f) (h1 : ∀ r s, q.nx r s → q'.nx r s) (h2 : ∀ d s, q.rt d s → q'.rt d s) (h3 : ∀ r s, q.bk r s → q'.bk r s) (h4 : ∀ r s, q.ct r s → q'.ct r s) (h5 : ∀ C fs r s, q.ex C fs r s → q'.ex C fs r s) : FP q' f := by
  cases f with
  | nx r s => exact h1 _ _ h
  | rt d s => exact h2 _ _ h
  | bk r s => exact h3 _ _ h
  | ct r s => exact h4 _ _ h
  | exc C fs r s => exact h5 _ _ _ _ h
  | bad => exact h
theorem w_ok {a : T} (h : Q a s) : RP Q E (.ok a s) := h
theorem w_bind {m : DM T} {f : T → DM U} {Q : U → Sto → Prop} (h : RP (fun a s' => RP Q E (f a r s')) E (m r s)) : RP Q E (Mp.bindM m f r s) := by
  unfold Mp.bindM
  cases e : m r s <;> rw [e] at h <;> exact h
theorem w_pure {a : T} (h : Q a s) : RP Q E (pureM a r s) := h
theorem w_then {m : DM T} {f : T → DS} (h : RP (fun a s' => FP q (f a r s')) (fun C fs s' => q.ex C fs r s') (m r s)) : FP q (thenS m f r s) := by
  unfold thenS
  cases e : m r s <;> rw [e] at h <;> exact h
theorem w_seq {a b : DS} (h : FP ⟨fun r' s' => FP q (b r' s'), q.rt, q.bk, q.ct, q.ex⟩ (a r s)) : FP q (seqS a b r s) := by
  unfold seqS
  cases e : a r s <;> rw [e] at h <;> exact h
/-- with a word between two statements -/
theorem w_mid {a b : DS} (P : En → Sto → Prop) (h1 : FP ⟨P, q.rt, q.bk, q.ct, q.ex⟩ (a r s)) (h2 : ∀ r' s', P r' s' → FP q (b r' s')) : FP q (seqS a b r s) := w_seq (h1.mono h2 (fun _ _ h => h) (fun _ _ h => h) (fun _ _ h => h) fun _ _ _ _ h => h)
end
section
variable {Q : D → Sto → Prop} {E : XT} {r : En} {s : Sto} {q : PQ} {a b c : DE} {f : D → D → Sto → Res D}
theorem w_v {i : Nat} {d : D} (h : r[i]? = some (some d)) (hq : Q d s) : RP Q E (vM i r s) := by
  unfold vM
  rw [h]
  exact hq
theorem w_c {d : D} (hq : Q d s) : RP Q E (cM d r s) := hq
theorem w_bin (h : RP (fun x s1 => RP (fun y s2 => RP Q E (f x y s2)) E (b r s1)) E (a r s)) : RP Q E (binM f a b r s) := w_bind (h.mono (fun _ _ h => w_bind h) fun _ _ _ h => h)
theorem w_un {g : D → Sto → Res D} (h : RP (fun x s1 => RP Q E (g x s1)) E (a r s)) : RP Q E (unM g a r s) := w_bind h
theorem w_arg {m : DM (List D)} {g : List D → Sto → Res D} (h : RP (fun x s1 => RP Q E (g x s1)) E (m r s)) : RP Q E (argM g m r s) := w_bind h
theorem w_call {m : DM (List D)} {g : DF} (h : RP (fun x s1 => RP Q E (g x s1)) E (m r s)) : RP Q E (callM g m r s) := w_bind h
theorem w_nil {Q : List D → Sto → Prop} (h : Q [] s) : RP Q E (nilA r s) := h
theorem w_cons {Q : List D → Sto → Prop} {m : DM (List D)} (h : RP (fun x s1 => RP (fun l s2 => Q (x :: l) s2) E (m r s1)) E (a r s)) : RP Q E (consA a m r s) := w_bind (h.mono (fun _ _ h => w_bind h) fun _ _ _ h => h)
theorem w_star {Q : List D → Sto → Prop} (h : RP (fun x s1 => ∃ l, x = .tup l ∧ Q l s1) E (a r s)) : RP Q E (starA a r s) := w_bind (h.mono (fun x s ⟨l, e, h⟩ => by
  subst e
  exact h) fun _ _ _ h => h)
theorem w_tru {Q : Bool → Sto → Prop} (h : RP (fun x s1 => ∃ k, truD s1 x = some k ∧ Q k s1) E (a r s)) : RP Q E (truM a r s) := w_bind (h.mono (fun x s ⟨k, e, h⟩ => by
  rw [e]
  exact h) fun _ _ _ h => h)
theorem w_bl {Q : Bool → Sto → Prop} (h : RP (fun x s1 => ∃ k, x = .bl k ∧ Q k s1) E (a r s)) : RP Q E (blM a r s) := w_bind (h.mono (fun x s ⟨k, e, h⟩ => by
  subst e
  exact h) fun _ _ _ h => h)
theorem w_not (h : RP (fun k s1 => Q (.bl (!k)) s1) E (truM a r s)) : RP Q E (notV a r s) := w_bind h
theorem w_and (h : RP (fun x s1 => ∃ k, truD s1 x = some k ∧ (k = true → RP Q E (b r s1)) ∧ (k = false → Q x s1)) E (a r s)) : RP Q E (andV a b r s) := w_bind (h.mono (fun x s ⟨k, e, h1, h2⟩ => w_bind (w_tru (w_c ⟨k, e, by
  cases k
  · exact h2 rfl
  · exact h1 rfl⟩))) fun _ _ _ h => h)
theorem w_or (h : RP (fun x s1 => ∃ k, truD s1 x = some k ∧ (k = false → RP Q E (b r s1)) ∧ (k = true → Q x s1)) E (a r s)) : RP Q E (orV a b r s) := w_bind (h.mono (fun x s ⟨k, e, h1, h2⟩ => w_bind (w_tru (w_c ⟨k, e, by
  cases k
  · exact h1 rfl
  · exact h2 rfl⟩))) fun _ _ _ h => h)
theorem w_notT {Q : Bool → Sto → Prop} {c : DM Bool} (h : RP (fun k s1 => Q (!k) s1) E (c r s)) : RP Q E (notT c r s) := w_bind h
theorem w_andT {Q : Bool → Sto → Prop} {c d : DM Bool} (h : RP (fun k s1 => (k = true → RP Q E (d r s1)) ∧ (k = false → Q false s1)) E (c r s)) : RP Q E (andT c d r s) := w_bind (h.mono (fun k s h => by
  cases k
  · exact h.2 rfl
  · exact h.1 rfl) fun _ _ _ h => h)
theorem w_orT {Q : Bool → Sto → Prop} {c d : DM Bool} (h : RP (fun k s1 => (k = false → RP Q E (d r s1)) ∧ (k = true → Q true s1)) E (c r s)) : RP Q E (orT c d r s) := w_bind (h.mono (fun k s h => by
  cases k
  · exact h.1 rfl
  · exact h.2 rfl) fun _ _ _ h => h)
theorem w_ifM {c : DM Bool} (h : RP (fun k s1 => (k = true → RP Q E (a r s1)) ∧ (k = false → RP Q E (b r s1))) E (c r s)) : RP Q E (ifM c a b r s) := w_bind (h.mono (fun k s h => by
  cases k
  · exact h.2 rfl
  · exact h.1 rfl) fun _ _ _ h => h)
theorem w_chain {g : D → D → Sto → Res D} (h : RP (fun x s1 => RP (fun y s2 => RP (fun z s3 => ∃ k, z = .bl k ∧ (k = true → RP (fun u s4 => RP Q E (g y u s4)) E (c r s3)) ∧ (k = false → Q (.bl false) s3)) E (f x y s2)) E (b r s1)) E (a r s)) : RP Q E (chainM f g a b c r s) := w_bind (h.mono (fun x s1 h => w_bind (h.mono (fun y s2 h => by
  cases e : f x y s2 with
  | ok z s3 =>
    rw [e] at h
    obtain ⟨k, rfl, h1, h2⟩ := h
    cases k
    · exact h2 rfl
    · exact w_bind (m := c) (f := fun u => fun _ s => g y u s) (h1 rfl)
  | exc C fs s3 => rw [e] at h; exact h
  | bad => rw [e] at h; exact h) fun _ _ _ h => h)) fun _ _ _ h => h)
theorem w_attr {tb : List (Str × Ak)} {f : Str} (h : RP (fun x s1 => RP Q E (attrD tb f x s1)) E (a r s)) : RP Q E (attrM tb f a r s) := w_bind h
theorem w_meth {tb : List (Str × DF)} {m : Str} {l : DM (List D)} (h : RP (fun x s1 => ∃ C fs f, insOf s1 x = some (C, fs) ∧ fs.lookup m = none ∧ tb.lookup C = some f ∧ RP (fun ds s2 => RP Q E (f (x :: ds) s2)) E (l r s1)) E (a r s)) : RP Q E (methM tb m a l r s) := w_bind (h.mono (fun x s1 ⟨C, fs, f, e1, e2, e3, h⟩ => by
  rw [e1]
  dsimp only
  rw [e2]
  dsimp only
  rw [e3]
  exact w_bind h) fun _ _ _ h => h)
theorem w_super {tb : List (Str × DF)} {l : DM (List D)} (h : RP (fun x s1 => ∃ C fs f, insOf s1 x = some (C, fs) ∧ tb.lookup C = some f ∧ RP (fun ds s2 => RP Q E (f (x :: ds) s2)) E (l r s1)) E (vM 0 r s)) : RP Q E (superM tb l r s) := w_bind (h.mono (fun x s1 ⟨C, fs, f, e1, e3, h⟩ => by
  rw [e1]
  dsimp only
  rw [e3]
  exact w_bind h) fun _ _ _ h => h)
theorem w_superS {tb : List (Str × DF)} {l : DM (List D)} (h : RP (fun _ s' => q.nx r s') (fun C fs s' => q.ex C fs r s') (superM tb l r s)) : FP q (superS tb l r s) := w_then h
theorem w_make {k : Bool} {C : Str} {m : DF} {l : DM (List D)} (h : RP (fun ds s1 => RP (fun v s2 => v = .non ∧ RP Q E (freezeI k s1.length s2)) E (m (.cel s1.length :: ds) (s1 ++ [some (.ins C [])]))) E (l r s)) : RP Q E (makeM k C m l r s) := w_bind (h.mono (fun ds s1 h => by
  cases e : m (.cel s1.length :: ds) (s1 ++ [some (.ins C [])]) with
  | ok v s2 =>
    rw [e] at h
    obtain ⟨rfl, h⟩ := h
    exact h
  | exc C fs s3 => rw [e] at h; exact h
  | bad => rw [e] at h; exact h) fun _ _ _ h => h)
theorem w_freeze {n : Nat} {C : Str} {fs : List (Str × D)} (h : s[n]? = some (some (.ins C fs))) (hq : Q (.ins C fs) (s.set n none)) : RP Q E (freezeI false n s) := by
  unfold freezeI
  rw [if_neg (by decide), h]
  exact hq
theorem w_opt {Q : Option Int → Sto → Prop} (h : RP (fun x s1 => ∃ i, x = .int i ∧ Q (some i) s1) E (a r s)) : RP Q E (optM a r s) := w_bind (h.mono (fun x s ⟨i, e, h⟩ => by
  subst e
  exact h) fun _ _ _ h => h)
theorem w_sli {k : Bool} {l u : DM (Option Int)} (h : RP (fun x s1 => RP (fun lo s2 => RP (fun hi s3 => RP Q E (sliD k x lo hi s3)) E (u r s2)) E (l r s1)) E (a r s)) : RP Q E (sliM k a l u r s) := w_bind (h.mono (fun _ _ h => w_bind (h.mono (fun _ _ h => w_bind h) fun _ _ _ h => h)) fun _ _ _ h => h)
/-! dict displays -/
theorem w_pairs0 {Q : List (D × D) → Sto → Prop} (h : Q [] s) : RP Q E (pairsM [] r s) := h
theorem w_pairs1 {Q : List (D × D) → Sto → Prop} {l : List (DE × DE)} (h : RP (fun x s1 => RP (fun y s2 => RP (fun l s3 => Q ((x, y) :: l) s3) E (pairsM l r s2)) E (b r s1)) E (a r s)) : RP Q E (pairsM ((a, b) :: l) r s) := w_bind (h.mono (fun _ _ h => w_bind (h.mono (fun _ _ h => w_bind h) fun _ _ _ h => h)) fun _ _ _ h => h)
theorem w_disp {l : List (DE × DE)} (h : RP (fun ps s1 => ∃ kvs, keyed ps = some kvs ∧ kvs.length ≤ 15 ∧ Q (.cel s1.length) (s1 ++ [some (.dct (mergeA [] kvs))])) E (pairsM l r s)) : RP Q E (dispM l r s) := w_bind (h.mono (fun ps s1 ⟨kvs, e, hl, h⟩ => by
  rw [e]
  dsimp only
  rw [if_pos hl]
  exact h) fun _ _ _ h => h)
/-! statements -/
theorem w_skip (h : q.nx r s) : FP q (skipS r s) := h
theorem w_brk (h : q.bk r s) : FP q (brkS r s) := h
theorem w_cnt (h : q.ct r s) : FP q (cntS r s) := h
theorem w_set {i : Nat} (h : RP (fun d s' => q.nx (r.set i (some d)) s') (fun C fs s' => q.ex C fs r s') (a r s)) : FP q (setS i a r s) := w_then h
theorem w_expr (h : RP (fun _ s' => q.nx r s') (fun C fs s' => q.ex C fs r s') (a r s)) : FP q (exprS a r s) := w_then h
theorem w_ret (h : RP (fun d s' => q.rt d s') (fun C fs s' => q.ex C fs r s') (a r s)) : FP q (retS a r s) := w_then h
theorem w_retN (h : q.rt .non s) : FP q (retN r s) := h
theorem w_if {c : DM Bool} {x y : DS} (h : RP (fun k s1 => (k = true → FP q (x r s1)) ∧ (k = false → FP q (y r s1))) (fun C fs s' => q.ex C fs r s') (c r s)) : FP q (ifS c x y r s) := w_then (h.mono (fun k s h => by
  cases k
  · exact h.2 rfl
  · exact h.1 rfl) fun _ _ _ h => h)
theorem w_asg {g : DG} (h : RP (fun d s' => ∃ p, g d r s' = some p ∧ q.nx p.1 p.2) (fun C fs s' => q.ex C fs r s') (a r s)) : FP q (asgS a g r s) := w_then (h.mono (fun d s ⟨p, e, h⟩ => by
  rw [e]
  exact h) fun _ _ _ h => h)
theorem w_par2 {i j : Nat} {m : DM (List D)} (h : RP (fun ds s' => ∃ x y, ds = [x, y] ∧ q.nx ((r.set i (some x)).set j (some y)) s') (fun C fs s' => q.ex C fs r s') (m r s)) : FP q (par2S i j m r s) := w_then (h.mono (fun d s ⟨x, y, e, h⟩ => by
  subst e
  exact h) fun _ _ _ h => h)
theorem w_par3 {i j k : Nat} {m : DM (List D)} (h : RP (fun ds s' => ∃ x y z, ds = [x, y, z] ∧ q.nx (((r.set i (some x)).set j (some y)).set k (some z)) s') (fun C fs s' => q.ex C fs r s') (m r s)) : FP q (par3S i j k m r s) := w_then (h.mono (fun d s ⟨x, y, z, e, h⟩ => by
  subst e
  exact h) fun _ _ _ h => h)
theorem w_aug {i : Nat} (h : RP (fun d s' => q.nx (r.set i (some d)) s') (fun C fs s' => q.ex C fs r s') (binM f (vM i) a r s)) : FP q (augS i f a r s) := w_then h
theorem w_sub (h : RP (fun y s1 => RP (fun x s2 => RP (fun z s3 => ∃ s4, putI x z y s3 = some s4 ∧ q.nx r s4) (fun C fs s' => q.ex C fs r s') (b r s2)) (fun C fs s' => q.ex C fs r s') (a r s1)) (fun C fs s' => q.ex C fs r s') (c r s)) : FP q (subS a b c r s) := w_then (h.mono (fun _ _ h => w_then (h.mono (fun _ _ h => w_then (h.mono (fun z s3 ⟨s4, e, h⟩ => by
  rw [e]
  exact h) fun _ _ _ h => h)) fun _ _ _ h => h)) fun _ _ _ h => h)
theorem w_fld {tb : List Str} {f : Str} (h : RP (fun y s1 => RP (fun x s2 => ∃ n C fs, x = .cel n ∧ s2[n]? = some (some (.ins C fs)) ∧ C ∈ tb ∧ fs.length < 1000 ∧ q.nx r (s2.set n (some (.ins C (putD f y fs))))) (fun C fs s' => q.ex C fs r s') (a r s1)) (fun C fs s' => q.ex C fs r s') (b r s)) : FP q (fldS tb f a b r s) := w_then (h.mono (fun _ _ h => w_then (h.mono (fun x s2 ⟨n, C, fs, e, e1, h1, h2, h⟩ => by
  subst e
  dsimp only
  rw [e1]
  dsimp only
  rw [if_pos ⟨h1, h2⟩]
  exact h) fun _ _ _ h => h)) fun _ _ _ h => h)
theorem w_raise {C f : Str} {m : DM (List D)} (h : RP (fun ds s' => ∃ d, ds = [d] ∧ q.ex C [(f, d)] r s') (fun C fs s' => q.ex C fs r s') (m r s)) : FP q (raiseS C f m r s) := w_then (h.mono (fun d s ⟨x, e, h⟩ => by
  subst e
  exact h) fun _ _ _ h => h)
theorem w_raise0 {C : Str} (h : q.ex C [] r s) : FP q (raise0S C r s) := h
theorem w_noExc {f : Fl} (h : FP ⟨q.nx, q.rt, q.bk, q.ct, fun _ _ _ _ => False⟩ f) : FP q (noExc f) := by
  cases f with
  | exc C fs r s => exact h.elim
  | _ => exact h
theorem w_try {x y : DS} {tb : List (Str × Bool)} (h : FP ⟨q.nx, q.rt, q.bk, q.ct, fun C fs r' s' => ∃ k, tb.lookup C = some k ∧ (k = true → FP ⟨q.nx, q.rt, q.bk, q.ct, fun _ _ _ _ => False⟩ (y r' s')) ∧ (k = false → q.ex C fs r' s')⟩ (x r s)) : FP q (tryS x tb y r s) := by
  unfold tryS
  cases e : x r s with
  | exc C fs r' s' =>
    rw [e] at h
    obtain ⟨k, e1, h1, h2⟩ := h
    dsimp only
    rw [e1]
    cases k
    · exact h2 rfl
    · exact w_noExc (h1 rfl)
  | nx r s => rw [e] at h; exact h
  | rt d s => rw [e] at h; exact h
  | bk r s => rw [e] at h; exact h
  | ct r s => rw [e] at h; exact h
  | bad => rw [e] at h; exact h
/-! bodies -/
abbrev bodyQ (Q : D → Sto → Prop) (E : XT) : PQ := ⟨fun _ s' => Q .non s', Q, fun _ _ => False, fun _ _ => False, fun C fs _ s' => E C fs s'⟩
theorem w_bodyX {n : Nat} {b : DS} {ds : List D} (h : FP (bodyQ Q E) (b (ds.map some ++ List.replicate (n - ds.length) none) s)) : RP Q E (bodyX n b ds s) := by
  unfold bodyX
  cases e : b (ds.map some ++ List.replicate (n - ds.length) none) s <;> rw [e] at h <;> exact h
theorem w_body {k n : Nat} {dd : List D} {b : DS} {ds es : List D} {r : En} (h0 : argsD k dd ds = some es) (hr : es.map some ++ List.replicate (n - es.length) none = r) (h : FP (bodyQ Q E) (b r s)) : RP Q E (bodyM k dd n b ds s) := by
  unfold bodyM
  rw [h0]
  subst hr
  exact w_bodyX h
theorem w_bodyV {k n : Nat} {b : DS} {ds : List D} {r : En} (h0 : k ≤ ds.length) (h1 : ds.length ≤ 1000) (hr : (ds.take k ++ [D.tup (ds.drop k)]).map some ++ List.replicate (n - (ds.take k ++ [D.tup (ds.drop k)]).length) none = r) (h : FP (bodyQ Q E) (b r s)) : RP Q E (bodyV k n b ds s) := by
  unfold bodyV
  rw [if_pos ⟨h0, h1⟩]
  subst hr
  exact w_bodyX h
/-! loops -/
theorem w_for0 {m : DM Src} {g : DG} {b : DS} (h : RP (fun c s' => FP q (forF c g b c.its r s')) (fun C fs s' => q.ex C fs r s') (m r s)) : FP q (forS m g b r s) := w_then h
theorem forF_inv {c : Src} {g : DG} {b : DS} (I : Nat → En → Sto → Prop) (hc : ∀ i r s, I i r s → SrcOk c s) :
    ∀ (l : List D) (i : Nat) (r : En) (s : Sto), i ≤ c.its.length → c.its.drop i = l → I i r s → (∀ i d r s, c.its[i]? = some d → I i r s → ∃ p, g d r s = some p ∧ FP ⟨I (i + 1), q.rt, q.nx, I (i + 1), q.ex⟩ (b p.1 p.2)) → (∀ r s, I c.its.length r s → q.nx r s) → FP q (forF c g b l r s)
  | [], i, r, s, hle, hl, hi, hs, he => by
    have h1 : i = c.its.length := by
      have := congrArg List.length hl
      simp at this
      omega
    unfold forF
    rw [if_pos (hc i r s hi)]
    subst h1
    exact he r s hi
  | d :: l, i, r, s, hle, hl, hi, hs, he => by
    have hlt : i < c.its.length := by
      have := congrArg List.length hl
      simp at this
      omega
    have hd : c.its[i]? = some d := by
      have := congrArg (fun z => z[0]?) hl
      simpa using this
    obtain ⟨p, hp, hb⟩ := hs i d r s hd hi
    have hl' : c.its.drop (i + 1) = l := by
      rw [← List.tail_drop, hl]
      rfl
    unfold forF
    rw [if_pos (hc i r s hi), hp]
    dsimp only
    cases e : b p.1 p.2 with
    | nx r' s' => rw [e] at hb; exact forF_inv I hc l (i + 1) r' s' hlt hl' hb hs he
    | ct r' s' => rw [e] at hb; exact forF_inv I hc l (i + 1) r' s' hlt hl' hb hs he
    | bk r' s' => rw [e] at hb; exact hb
    | rt d s' => rw [e] at hb; exact hb
    | exc C fs r' s' => rw [e] at hb; exact hb
    | bad => rw [e] at hb; exact hb
/-- a for loop by what holds between two turns -/
theorem w_for {c : Src} {g : DG} {b : DS} (I : Nat → En → Sto → Prop) (hc : c.cel = none) (h0 : I 0 r s) (hs : ∀ i d r s, c.its[i]? = some d → I i r s → ∃ p, g d r s = some p ∧ FP ⟨I (i + 1), q.rt, q.nx, I (i + 1), q.ex⟩ (b p.1 p.2)) (he : ∀ r s, I c.its.length r s → q.nx r s) : FP q (forF c g b c.its r s) :=
  forF_inv I (fun _ _ _ _ => by unfold SrcOk; rw [hc]; trivial) c.its 0 r s (Nat.zero_le _) rfl h0 hs he
/-- a while loop by what holds between two turns and a number that falls -/
theorem w_while {t : DM Bool} {b : DS} (I : Nat → En → Sto → Prop) (hs : ∀ n r s, I n r s → RP (fun k s1 => (k = true → FP ⟨fun r' s' => ∃ m, m < n ∧ I m r' s', q.rt, q.nx, fun r' s' => ∃ m, m < n ∧ I m r' s', q.ex⟩ (b r s1)) ∧ (k = false → q.nx r s1)) (fun C fs s' => q.ex C fs r s') (t r s)) :
    ∀ (n : Nat) (r : En) (s : Sto), I n r s → FP q (whileS t b r s) := by
  intro n
  induction n using Nat.strongRecOn with
  | ind n ih =>
    intro r s hi
    have h := hs n r s hi
    rw [whileS_eq]
    cases e : t r s with
    | ok k s1 =>
      rw [e] at h
      dsimp only
      cases k with
      | false => exact h.2 rfl
      | true =>
        have h1 := h.1 rfl
        rw [if_pos rfl]
        cases e2 : b r s1 with
        | nx r' s' =>
          rw [e2] at h1
          obtain ⟨m, hm, hi'⟩ := h1
          exact ih m hm r' s' hi'
        | ct r' s' =>
          rw [e2] at h1
          obtain ⟨m, hm, hi'⟩ := h1
          exact ih m hm r' s' hi'
        | bk r' s' => rw [e2] at h1; exact h1
        | rt d s' => rw [e2] at h1; exact h1
        | exc C fs r' s' => rw [e2] at h1; exact h1
        | bad => rw [e2] at h1; exact h1
    | exc C fs s1 => rw [e] at h; exact h
    | bad => rw [e] at h; exact h
theorem lcF_inv {c : Src} {g : DG} {tt : DM Bool} {te : DE} {Q : List D → Sto → Prop} (I : Nat → List D → Sto → Prop) (hc : ∀ i l s, I i l s → SrcOk c s)
    (hs : ∀ i d l s, c.its[i]? = some d → I i l s → ∃ p, g d r s = some p ∧ RP (fun k s1 => (k = true → RP (fun y s2 => l.length < sizeLine ∧ I (i + 1) (l ++ [y]) s2) noX (te p.1 s1)) ∧ (k = false → I (i + 1) l s1)) noX (tt p.1 p.2)) (he : ∀ l s, I c.its.length l s → Q l s) :
    ∀ (l : List D) (i : Nat) (acc : List D) (s : Sto), i ≤ c.its.length → c.its.drop i = l → I i acc s → RP Q E (lcF c g tt te r l acc s)
  | [], i, acc, s, hle, hl, hi => by
    have h1 : i = c.its.length := by
      have := congrArg List.length hl
      simp at this
      omega
    unfold lcF
    rw [if_pos (hc i acc s hi)]
    subst h1
    exact he acc s hi
  | d :: l, i, acc, s, hle, hl, hi => by
    have hlt : i < c.its.length := by
      have := congrArg List.length hl
      simp at this
      omega
    have hd : c.its[i]? = some d := by
      have := congrArg (fun z => z[0]?) hl
      simpa using this
    obtain ⟨p, hp, hb⟩ := hs i d acc s hd hi
    have hl' : c.its.drop (i + 1) = l := by
      rw [← List.tail_drop, hl]
      rfl
    unfold lcF
    rw [if_pos (hc i acc s hi), hp]
    dsimp only
    cases e : tt p.1 p.2 with
    | ok k s1 =>
      rw [e] at hb
      dsimp only
      cases k with
      | false => exact lcF_inv I hc hs he l (i + 1) acc s1 hlt hl' (hb.2 rfl)
      | true =>
        have h1 := hb.1 rfl
        rw [if_pos rfl]
        cases e2 : te p.1 s1 with
        | ok y s2 =>
          rw [e2] at h1
          dsimp only
          rw [if_pos h1.1]
          exact lcF_inv I hc hs he l (i + 1) (acc ++ [y]) s2 hlt hl' h1.2
        | exc C fs s2 => rw [e2] at h1; exact h1.elim
        | bad => rw [e2] at h1; exact h1.elim
    | exc C fs s1 => rw [e] at hb; exact hb.elim
    | bad => rw [e] at hb; exact hb.elim
theorem w_lc0 {k : Bool} {mi : DM Src} {g : DG} {tt : DM Bool} {te : DE} {vs : List Nat} (h : RP (fun c s' => RP (fun acc s2 => RP Q E (newL k acc s2)) noX (lcF c g tt te (wipeE r vs) c.its [] s')) E (mi r s)) : RP Q E (lcM k mi g tt te vs r s) := w_bind (h.mono (fun c s1 h => by
  cases e : lcF c g tt te (wipeE r vs) c.its [] s1 with
  | ok acc s2 => rw [e] at h; exact h
  | exc C fs s2 => rw [e] at h; exact h.elim
  | bad => rw [e] at h; exact h.elim) fun _ _ _ h => h)
theorem w_lc {c : Src} {g : DG} {tt : DM Bool} {te : DE} {Q : List D → Sto → Prop} (I : Nat → List D → Sto → Prop) (hc : c.cel = none) (h0 : I 0 [] s)
    (hs : ∀ i d l s, c.its[i]? = some d → I i l s → ∃ p, g d r s = some p ∧ RP (fun k s1 => (k = true → RP (fun y s2 => l.length < sizeLine ∧ I (i + 1) (l ++ [y]) s2) noX (te p.1 s1)) ∧ (k = false → I (i + 1) l s1)) noX (tt p.1 p.2)) (he : ∀ l s, I c.its.length l s → Q l s) : RP Q E (lcF c g tt te r c.its [] s) :=
  lcF_inv I (fun _ _ _ _ => by unfold SrcOk; rw [hc]; trivial) hs he c.its 0 [] s (Nat.zero_le _) rfl h0
end
section
variable {Q : Src → Sto → Prop} {E : XT} {r : En} {s : Sto} {a : DE}
theorem srcM_of {x : D} {c : Src} (h : srcD s x = some c) : srcM s x = .ok c s := by
  unfold srcM
  cases x with
  | dct m => cases h; rfl
  | cel n =>
    have h' : (match s[n]? with
      | some (some (.lst l)) => some (⟨l, some n⟩ : Src)
      | _ => none) = some c := h
    cases e : s[n]? with
    | none => rw [e] at h'; cases h'
    | some o =>
      rw [e] at h'
      cases o with
      | none => cases h'
      | some ct =>
        cases ct with
        | lst l =>
          cases h'
          simp only [lockD, srcD, e, okO]
        | _ => cases h'
  | _ =>
    simp only [lockD]
    rw [h]
    rfl
theorem w_seqI (h : RP (fun x s1 => ∃ c, srcD s1 x = some c ∧ Q c s1) E (a r s)) : RP Q E (seqI a r s) := w_bind (h.mono (fun x s ⟨c, e, h⟩ => by
  rw [srcM_of e]
  exact h) fun _ _ _ h => h)
theorem w_argI {m : DM (List D)} {g : List D → Sto → Res Src} (h : RP (fun x s1 => RP Q E (g x s1)) E (m r s)) : RP Q E (argI g m r s) := w_bind h
theorem w_range1 {j : Int} (h1 : -(2 ^ 62) ≤ j) (h2 : j < 2 ^ 62) (h : Q ⟨intL 0 j.toNat, none⟩ s) : RP Q E (rangeD1 [.int j] s) := by
  unfold rangeD1
  dsimp only
  rw [if_pos ⟨h1, h2⟩]
  exact h
theorem intL_len {lo : Int} {n : Nat} : (intL lo n).length = n := by simp [intL]
theorem intL_get {lo : Int} {n i : Nat} {d : D} (h : (intL lo n)[i]? = some d) : i < n ∧ d = .int (lo + i) := by
  have hi := (List.getElem?_eq_some_iff.mp h).1
  rw [intL_len] at hi
  refine ⟨hi, ?_⟩
  unfold intL at h
  rw [List.getElem?_map, List.getElem?_range hi] at h
  simpa using h.symm
end
end Pl
set_option Elab.async false
set_option linter.all false
set_option maxRecDepth 100000
/-! Pl: operators on data. -/
namespace Pl
open Mp
open PySem (Str sizeLine)
section
variable {Q : D → Sto → Prop} {E : XT} {r : En} {s : Sto} {i j : Int} {x y : Str}
theorem o_addI (h : Q (.int (i + j)) s) : RP Q E (addD (.int i) (.int j) s) := h
theorem o_addS (hl : x.length + y.length ≤ sizeLine) (h : Q (.str (x ++ y)) s) : RP Q E (addD (.str x) (.str y) s) := by
  unfold addD
  dsimp only
  rw [if_pos hl]
  exact h
theorem o_addL {l m : List D} (hl : l.length + m.length ≤ sizeLine) (h : Q (.lst (l ++ m)) s) : RP Q E (addD (.lst l) (.lst m) s) := by
  unfold addD
  dsimp only [lstX]
  rw [if_pos hl]
  exact h
theorem o_addI' (h : Q (.int (i + j)) s) : RP Q E (addI (.int i) (.int j) s) := h
theorem o_sub (h : Q (.int (i - j)) s) : RP Q E (subD (.int i) (.int j) s) := h
theorem log_lt' {n k : Nat} (h : n < 2 ^ k) (hk : 0 < k) : n.log2 < k := by
  by_cases z : n = 0
  · subst z
    have : Nat.log2 0 = 0 := by decide
    omega
  · exact (Nat.log2_lt z).mpr h
theorem mulC_of {a b : Nat} (hi : i.natAbs < 2 ^ a) (hj : j.natAbs < 2 ^ b) (ha : 0 < a) (hb : 0 < b) (h : a + b ≤ 1000000) : mulC i j = true := by
  unfold mulC
  refine decide_eq_true ?_
  have h1 := log_lt' hi ha
  have h2 := log_lt' hj hb
  omega
theorem o_mul (hc : mulC i j = true) (h : Q (.int (i * j)) s) : RP Q E (mulD (.int i) (.int j) s) := by
  unfold mulD
  dsimp only
  rw [if_pos hc]
  exact h
/-- of small ones -/
theorem o_mul64 (hi : i.natAbs < 18446744073709551616) (hj : j.natAbs < 18446744073709551616) (h : Q (.int (i * j)) s) : RP Q E (mulD (.int i) (.int j) s) := o_mul (mulC_of (a := 64) (b := 64) hi hj (by decide) (by decide) (by decide)) h
theorem log_of {n b : Nat} (h : n < 2 ^ b) (hb : 0 < b) : n.log2 < b := log_lt' h hb
theorem o_div (h0 : 0 < j) (h1 : j.natAbs.log2 < 9000) (h : Q (.int (i / j)) s) : RP Q E (divD (.int i) (.int j) s) := by
  unfold divD
  dsimp only
  rw [if_pos ⟨h0, h1⟩]
  exact h
theorem o_div64 (h0 : 0 < j) (h1 : j < 18446744073709551616) (h : Q (.int (i / j)) s) : RP Q E (divD (.int i) (.int j) s) :=
  o_div h0 (Nat.lt_of_lt_of_le (log_of (b := 64) (by omega) (by decide)) (by decide)) h
theorem o_mod (h0 : 0 < j) (h : Q (.int (i % j)) s) : RP Q E (modD (.int i) (.int j) s) := by
  unfold modD
  dsimp only
  rw [if_pos h0]
  exact h
theorem o_pow (h0 : 0 ≤ j) (h1 : j ≤ 1000000) (h2 : i.natAbs < 2 ^ 64) (h : Q (.int (i ^ j.toNat)) s) : RP Q E (powD (.int i) (.int j) s) := by
  unfold powD
  dsimp only
  rw [if_pos ⟨h0, h1, h2⟩]
  exact h
theorem o_powV {v : Int} (h0 : 0 ≤ j) (h1 : j ≤ 1000000) (h2 : i.natAbs < 2 ^ 64) (hv : i ^ j.toNat = v) (h : Q (.int v) s) : RP Q E (powD (.int i) (.int j) s) := o_pow h0 h1 h2 (by rw [hv]; exact h)
theorem o_max2 (h : Q (.int (if j > i then j else i)) s) : RP Q E (max2D [.int i, .int j] s) := h
theorem o_min2 (h : Q (.int (if j < i then j else i)) s) : RP Q E (min2D [.int i, .int j] s) := h
theorem o_neg (h : Q (.int (-i)) s) : RP Q E (negD (.int i) s) := h
theorem o_lt (h : Q (.bl (decide (i < j))) s) : RP Q E (ltI (.int i) (.int j) s) := h
theorem o_le (h : Q (.bl (decide (i ≤ j))) s) : RP Q E (leI (.int i) (.int j) s) := h
theorem o_gt (h : Q (.bl (decide (j < i))) s) : RP Q E (gtI (.int i) (.int j) s) := h
theorem o_ge (h : Q (.bl (decide (j ≤ i))) s) : RP Q E (geI (.int i) (.int j) s) := h
theorem o_eqI (h : Q (.bl (decide (i = j))) s) : RP Q E (eqD (.int i) (.int j) s) := h
theorem o_neI (h : Q (.bl (!decide (i = j))) s) : RP Q E (neD (.int i) (.int j) s) := h
theorem o_eqS (h : Q (.bl (decide (x = y))) s) : RP Q E (eqD (.str x) (.str y) s) := h
theorem o_neS (h : Q (.bl (!decide (x = y))) s) : RP Q E (neD (.str x) (.str y) s) := h
theorem o_abs (h : Q (.int (if i < 0 then -i else i)) s) : RP Q E (absD [.int i] s) := h
theorem o_int (h : Q (.int i) s) : RP Q E (Mp.intD [.int i] s) := h
theorem o_intB {b : Bool} (h : Q (.int (if b then 1 else 0)) s) : RP Q E (Mp.intD [.bl b] s) := h
theorem o_tup {l : List D} (hl : l.length ≤ sizeLine) (h : Q (.tup l) s) : RP Q E (tupD l s) := by
  unfold tupD
  rw [if_pos hl]
  exact h
theorem o_lst {l : List D} (hl : l.length ≤ sizeLine) (h : Q (.lst l) s) : RP Q E (lstD false l s) := by
  unfold lstD
  rw [if_pos hl]
  exact h
theorem o_lstC {l : List D} (hl : l.length ≤ sizeLine) (h : Q (.cel s.length) (s ++ [some (.lst l)])) : RP Q E (lstD true l s) := by
  unfold lstD
  rw [if_pos hl]
  exact h
theorem o_newL {l : List D} (h : Q (.lst l) s) : RP Q E (newL false l s) := h
theorem o_len {x : D} {l : List D} (hx : ∀ z, x ≠ .str z) (hs : seqOf s x = some l) (h : Q (.int (l.length : Nat)) s) : RP Q E (lenD [x] s) := by
  unfold lenD
  cases x with
  | str z => exact absurd rfl (hx z)
  | _ =>
    dsimp only
    rw [hs]
    exact h
theorem o_lenL {l : List D} (h : Q (.int (l.length : Nat)) s) : RP Q E (lenD [.lst l] s) := h
theorem o_lenT {l : List D} (h : Q (.int (l.length : Nat)) s) : RP Q E (lenD [.tup l] s) := h
theorem o_lenS (hl : x.length ≤ sizeLine) (h : Q (.int (x.length : Nat)) s) : RP Q E (lenD [.str x] s) := by
  unfold lenD
  dsimp only
  rw [if_pos hl]
  exact h
theorem o_list {x : D} {l : List D} (hs : seqOf s x = some l) (h : Q (.lst l) s) : RP Q E (listD false [x] s) := by
  unfold listD
  dsimp only
  rw [hs]
  exact h
theorem o_all {l : List Bool} {x : D} (hx : (lstOf s x).bind bools = some l) (h : Q (.bl (l.all id)) s) : RP Q E (allD [x] s) := by
  unfold allD
  dsimp only
  rw [hx]
  exact h
theorem bools_map {T : Type} (f : T → Bool) : ∀ l : List T, bools (l.map fun x => .bl (f x)) = some (l.map f)
  | [] => rfl
  | x :: l => by
    show (bools (l.map fun x => .bl (f x))).map (fun m => f x :: m) = _
    rw [bools_map f l]
    rfl
theorem intsOf_map {T : Type} (f : T → Int) : ∀ l : List T, intsOf (l.map fun x => .int (f x)) = some (l.map f)
  | [] => rfl
  | x :: l => by
    show (intsOf (l.map fun x => .int (f x))).map (fun m => f x :: m) = _
    rw [intsOf_map f l]
    rfl
theorem o_isi {it : Isi} {x c : D} {t : Tg} {b : Bool} (h1 : tagD s x = some t) (h2 : isiT it t c = some b) (h : Q (.bl b) s) : RP Q E (isiD it [x, c] s) := by
  unfold isiD
  dsimp only
  rw [h1]
  dsimp only
  rw [h2]
  exact h
theorem o_idxD {n : Nat} {m : List (L2.Key × D)} {x y d : D} {k : L2.Key} (h1 : dctOf s x = some m) (h2 : keyD y = some k) (h3 : getK m k = some d) (h : Q d s) : RP Q E (idxD x y s) := by
  unfold idxD
  rw [h1]
  dsimp only
  rw [h2]
  dsimp only
  rw [h3]
  exact h
theorem o_fld {tb : List (Str × Ak)} {f C : Str} {x d : D} {fs : List (Str × D)} (h1 : insOf s x = some (C, fs)) (h2 : tb.lookup C = some .fld) (h3 : fs.lookup f = some d) (h : Q d s) : RP Q E (attrD tb f x s) := by
  unfold attrD
  rw [h1]
  dsimp only
  rw [h2]
  dsimp only
  rw [h3]
  exact h
/-- xs[i] of a frozen list, a tuple -/
theorem o_idxL {l : List D} {d : D} {k : Nat} (h0 : i = (k : Int)) (h1 : l[k]? = some d) (h : Q d s) : RP Q E (idxD (.lst l) (.int i) s) := by
  have hk := (List.getElem?_eq_some_iff.mp h1).1
  have e : L2.atI l i = some d := by
    subst h0
    unfold L2.atI L2.ixN
    rw [if_pos (by omega), if_pos (by omega)]
    simpa using h1
  show RP Q E (okO s (L2.atI l i))
  rw [e]
  exact h
theorem cut_take {l : List D} {k : Int} (hk : 0 ≤ k) : cutD l none (some k) = l.take k.toNat := by
  unfold cutD
  have e0 : _root_.HT.sIx l.length 0 none = 0 := rfl
  have e1 : _root_.HT.sIx l.length l.length (some k) = min k.toNat l.length := if_neg (by omega)
  rw [e0, e1, List.drop_zero, Nat.sub_zero]
  by_cases h : k.toNat ≤ l.length
  · rw [Nat.min_eq_left h]
  · rw [Nat.min_eq_right (by omega), List.take_length, List.take_of_length_le (by omega)]
end
end Pl
set_option Elab.async false
set_option linter.all false
set_option maxRecDepth 100000
/-! Pl: how long a repr is. -/
namespace Pl
open Mp
open PySem (Str sizeLine PyData)
open PySem
mutual
def wt : PyData → Nat
  | .none => 4
  | .bool _ => 5
  | .int _ => 600
  | .str x => (reprText x).length
  | .list xs => wtAll xs + 4
  | .tuple xs => wtAll xs + 4
  | .dict _ => 0
def wtAll : List PyData → Nat
  | [] => 0
  | x :: xs => wt x + 2 + wtAll xs
end
theorem int_len {i : Int} (h : i.natAbs.log2 < 1920) : (Str.ofString (toString i)).length ≤ 600 := by
  have hb : i.natAbs < 2 ^ 1920 := by
    by_cases z : i.natAbs = 0
    · rw [z]
      exact Nat.two_pow_pos 1920
    · exact (Nat.log2_lt z).mp h
  have hc : (2 : Nat) ^ 1920 < 10 ^ 599 := by decide +kernel
  by_cases h0 : 0 ≤ i
  · exact Nat.le_trans (PyProof.Rows.toString_length_le (k := 599) h0 (by decide) (by
      have : (i.natAbs : Int) < ((10 ^ 599 : Nat) : Int) := by exact_mod_cast Nat.lt_trans hb hc
      rw [Int.natAbs_of_nonneg h0] at this
      simpa using this)) (by decide)
  · have e : toString i = "-" ++ toString (-i) := by
      cases i with
      | ofNat n => exact absurd (Int.natCast_nonneg n) h0
      | negSucc n => rfl
    have h1 := PyProof.Rows.toString_length_le (v := -i) (k := 599) (by omega) (by decide) (by
      have : (i.natAbs : Int) < ((10 ^ 599 : Nat) : Int) := by exact_mod_cast Nat.lt_trans hb hc
      rw [show ((i.natAbs : Nat) : Int) = -i by omega] at this
      simpa using this)
    rw [e, PyProof.Rows.ofString_length, String.toList_append, List.length_append]
    rw [PyProof.Rows.ofString_length] at h1
    have : ("-" : String).toList.length = 1 := by decide
    omega
theorem textFrom_le : ∀ (ts : List Str) (k : Nat) (acc : Str), (textFrom k acc ts).length ≤ acc.length + piled ts
  | [], k, acc => by
    show acc.length ≤ acc.length + piled []
    omega
  | t :: r, k, acc => by
    have h := textFrom_le r (k + 1) (acc ++ (if k > 0 then ", " else "" : String) ++ t)
    have e : (acc ++ (if k > 0 then ", " else "" : String) ++ t).length = acc.length + (if k > 0 then 2 else 0) + t.length := by
      rw [strLen_append, strLen_append]
      split <;> rfl
    have d1 : (if k > 0 then 2 else 0 : Nat) ≤ 2 := by split <;> omega
    rw [piled_cons]
    show (textFrom (k + 1) _ r).length ≤ _
    omega
theorem join_le : ∀ ts : List Str, (Str.join ", " ts).length ≤ piled ts
  | [] => by decide
  | t :: r => by
    have := join_length_add (t :: r) (by simp)
    omega
mutual
theorem shown_len : ∀ p : PyData, p.showable = true → p.hasDict = false → p.shown.length ≤ wt p
  | .none, _, _ => by rw [PyData.shown, wt]; decide
  | .bool b, _, _ => by rw [PyData.shown, wt]; cases b <;> decide
  | .int i, h, _ => by
    rw [PyData.shown, wt]
    rw [PyData.showable] at h
    exact int_len (of_decide_eq_true h)
  | .str x, _, _ => by rw [PyData.shown, wt]; exact Nat.le_refl _
  | .list xs, h, hd => by
    rw [PyData.showable] at h
    rw [PyData.hasDict] at hd
    have := shownAll_len xs h hd
    rw [PyData.shown, wt]
    unfold listText
    rw [strLen_append]
    have h2 := textFrom_le (PyData.shownAll xs) 0 "["
    have h3 : (("[" : String) : Str).length = 1 := by decide
    have h4 : (("]" : String) : Str).length = 1 := by decide
    omega
  | .tuple xs, h, hd => by
    rw [PyData.showable] at h
    rw [PyData.hasDict] at hd
    have := shownAll_len xs h hd
    rw [PyData.shown, wt]
    unfold tupleText
    rw [strLen_append, strLen_append]
    have h2 := join_le (PyData.shownAll xs)
    have h3 : (("(" : String) : Str).length = 1 := by decide
    have h4 : ((if (PyData.shownAll xs).length == 1 then ",)" else ")" : String) : Str).length ≤ 2 := by split <;> decide
    omega
  | .dict kvs, _, hd => by
    rw [PyData.hasDict] at hd
    cases hd
theorem shownAll_len : ∀ xs : List PyData, PyData.showableAll xs = true → PyData.hasDictAll xs = false → piled (PyData.shownAll xs) ≤ wtAll xs
  | [], _, _ => by rw [PyData.shownAll, wtAll]; decide
  | x :: xs, h, hd => by
    rw [PyData.showableAll, Bool.and_eq_true] at h
    rw [PyData.hasDictAll, Bool.or_eq_false_iff] at hd
    have h1 := shown_len x h.1 hd.1
    have h2 := shownAll_len xs h.2 hd.2
    rw [PyData.shownAll, piled_cons, wtAll]
    omega
end
end Pl
set_option Elab.async false
set_option linter.all false
set_option maxRecDepth 100000
/-! Pl: the pen of a law. -/
namespace Pl
open Mp
open PySem (Str sizeLine)
/-- the pen's cell -/
def penC (cells : List Int) (b l : Int) : Ct := .dct [(.inr "cells", .lst (cells.map .int)), (.inr "begun", .int b), (.inr "left", .int l)]
/-- cell n is a pen with at most b draws begun -/
def Pen (s : Sto) (n : Nat) (b : Int) : Prop := ∃ cells g l, s[n]? = some (some (penC cells g l)) ∧ cells.length ≤ 63 ∧ 0 ≤ g ∧ g ≤ b ∧ 0 ≤ l
/-- all but cell n stays -/
def Fr (n : Nat) (s s' : Sto) : Prop := s.length ≤ s'.length ∧ ∀ i, i < s.length → i ≠ n → s'[i]? = s[i]?
theorem Fr.refl {n : Nat} {s : Sto} : Fr n s s := ⟨Nat.le_refl _, fun _ _ _ => rfl⟩
theorem Fr.trans {n : Nat} {s s' s'' : Sto} (h : Fr n s s') (k : Fr n s' s'') : Fr n s s'' := ⟨Nat.le_trans h.1 k.1, fun i hi ne => (k.2 i (Nat.lt_of_lt_of_le hi h.1) ne).trans (h.2 i hi ne)⟩
theorem Fr.set {n : Nat} {s : Sto} {c : Option Ct} : Fr n s (s.set n c) := ⟨by rw [List.length_set]; exact Nat.le_refl _, fun i _ ne => List.getElem?_set_ne (fun e => ne e.symm)⟩
theorem Pen.mono {s : Sto} {n : Nat} {b c : Int} (h : Pen s n b) (hb : b ≤ c) : Pen s n c := by
  obtain ⟨cells, g, l, h1, h2, h3, h4, h5⟩ := h
  exact ⟨cells, g, l, h1, h2, h3, Int.le_trans h4 hb, h5⟩
theorem Pen.lt {s : Sto} {n : Nat} {b : Int} (h : Pen s n b) : n < s.length := by
  obtain ⟨cells, g, l, h1, _⟩ := h
  exact (List.getElem?_eq_some_iff.mp h1).1
theorem Pen.app {s : Sto} {n : Nat} {b : Int} (h : Pen s n b) (c : Option Ct) : Pen (s ++ [c]) n b := by
  have hl := h.lt
  obtain ⟨cells, g, l, h1, h2⟩ := h
  exact ⟨cells, g, l, by rw [List.getElem?_append_left hl]; exact h1, h2⟩
end Pl
namespace Pl
open Mp
open PySem (Str sizeLine PyData)
section
variable {Q : D → Sto → Prop} {E : XT} {s : Sto} {n : Nat} {c : List Int} {g l x : Int}
theorem pen_left (hs : s[n]? = some (some (penC c g l))) (h : Q (.int l) s) : RP Q E (idxD (.cel n) (.str "left") s) := by
  refine o_idxD (n := n) (m := [(.inr "cells", .lst (c.map .int)), (.inr "begun", .int g), (.inr "left", .int l)]) (k := .inr "left") (d := .int l) ?_ rfl ?_ h
  · unfold dctOf
    dsimp only
    rw [hs]
    rfl
  · rfl
theorem pen_begun (hs : s[n]? = some (some (penC c g l))) (h : Q (.int g) s) : RP Q E (idxD (.cel n) (.str "begun") s) := by
  refine o_idxD (n := n) (m := [(.inr "cells", .lst (c.map .int)), (.inr "begun", .int g), (.inr "left", .int l)]) (k := .inr "begun") (d := .int g) ?_ rfl ?_ h
  · unfold dctOf
    dsimp only
    rw [hs]
    rfl
  · rfl
theorem pen_cells (hs : s[n]? = some (some (penC c g l))) (h : Q (.lst (c.map .int)) s) : RP Q E (idxD (.cel n) (.str "cells") s) := by
  refine o_idxD (n := n) (m := [(.inr "cells", .lst (c.map .int)), (.inr "begun", .int g), (.inr "left", .int l)]) (k := .inr "cells") (d := .lst (c.map .int)) ?_ rfl ?_ h
  · unfold dctOf
    dsimp only
    rw [hs]
    rfl
  · rfl
theorem pen_putL (hs : s[n]? = some (some (penC c g l))) : putI (.cel n) (.str "left") (.int x) s = some (s.set n (some (penC c g x))) := by
  unfold putI
  dsimp only
  rw [hs]
  rfl
theorem pen_putB (hs : s[n]? = some (some (penC c g l))) : putI (.cel n) (.str "begun") (.int x) s = some (s.set n (some (penC c x l))) := by
  unfold putI
  dsimp only
  rw [hs]
  rfl
theorem pen_at (hs : s[n]? = some (some (penC c g l))) {y : Ct} : (s.set n (some y))[n]? = some (some y) := List.getElem?_set_self (List.getElem?_eq_some_iff.mp hs).1
theorem toPys_ints : ∀ c : List Int, toPys (c.map D.int) = some (c.map PyData.int)
  | [] => rfl
  | i :: c => by
    show (toPy (.int i)).bind (fun x => (toPys (c.map D.int)).map fun y => x :: y) = _
    rw [toPys_ints c]
    rfl
theorem lay_ints : ∀ c : List Int, PyData.canLayAll0 (c.map PyData.int) = true
  | [] => rfl
  | i :: c => by
    rw [List.map_cons, PyData.canLayAll0, lay_ints c]
    rfl
theorem dep_ints : ∀ c : List Int, PyData.depthAll (c.map PyData.int) = 0
  | [] => rfl
  | i :: c => by
    rw [List.map_cons, PyData.depthAll, dep_ints c]
    rfl
theorem shaped_ints (c : List Int) : PySem.SeqAt.shaped (.list (c.map .int)) = true := by
  unfold PySem.SeqAt.shaped
  rw [PyData.canLay0, lay_ints, PyData.depth, dep_ints]
  rfl
theorem o_neNil (h : Q (.bl (!c.isEmpty)) s) : RP Q E (neD (.lst (c.map .int)) (.lst []) s) := by
  show RP Q E (eqG0 true (.lst (c.map .int)) (.lst []) s)
  have e1 : toPy (.lst (c.map .int)) = some (.list (c.map .int)) := by
    rw [toPy, toPys_ints]
    rfl
  have e2 : toPy (.lst []) = some (.list []) := rfl
  unfold eqG0
  rw [e1, e2]
  dsimp only
  rw [if_pos (by rw [shaped_ints]; rfl)]
  have e3 : PyData.eqv (.list (c.map .int)) (.list []) = c.isEmpty := by
    rw [PyData.eqv]
    cases c with
    | nil => rfl
    | cons i c => rfl
  show Q (.bl (if true = true then !PyData.eqv (.list (c.map .int)) (.list []) else _)) s
  rw [e3]
  exact h
end
end Pl
set_option Elab.async false
set_option linter.all false
set_option maxRecDepth 100000
/-! Pl: try .. except .. as e. -/
namespace Pl
open Mp
open PySem (Str sizeLine PyData Addr)
section
variable {Q : D → Sto → Prop} {E : XT} {r : En} {s : Sto} {q : PQ}
theorem FP.rt_eq {v : D} {s2 : Sto} {f : Fl} (h : FP ⟨fun _ _ => False, fun d s => d = v ∧ s = s2, fun _ _ => False, fun _ _ => False, fun _ _ _ _ => False⟩ f) : f = .rt v s2 := by
  cases f with
  | rt d s =>
    obtain ⟨rfl, rfl⟩ := h
    rfl
  | nx _ _ => exact h.elim
  | bk _ _ => exact h.elim
  | ct _ _ => exact h.elim
  | exc _ _ _ _ => exact h.elim
  | bad => exact h.elim
abbrev retQ (v : D) (s2 : Sto) : PQ := ⟨fun _ _ => False, fun d s => d = v ∧ s = s2, fun _ _ => False, fun _ _ => False, fun _ _ _ _ => False⟩
/-- a handler that returns -/
theorem w_tryAs {i : Nat} {C0 : Str} {mb : DS} {tb : List (Str × Bool)} {mh : Addr → Option Addr → List (Str × D) → DS} (h : FP ⟨q.nx, q.rt, q.bk, q.ct, fun C fs r' s' => ∃ k, tb.lookup C = some k ∧ (k = true → C = C0 ∧ ∃ v s2, (∀ a d, FP (retQ v s2) (mh a d fs (r'.set i (some (.exn a d C fs))) s')) ∧ q.rt v s2) ∧ (k = false → q.ex C fs r' s')⟩ (mb r s)) : FP q (tryAsS i C0 mb tb mh r s) := by
  unfold tryAsS
  cases e : mb r s with
  | exc C fs r' s' =>
    rw [e] at h
    obtain ⟨k, e1, h1, h2⟩ := h
    dsimp only
    rw [e1]
    cases k
    · exact h2 rfl
    · obtain ⟨rfl, v, s2, h3, h4⟩ := h1 rfl
      dsimp only
      rw [if_pos rfl]
      have h5 : ∀ a d, offS i (mh a d fs (r'.set i (some (.exn a d C fs))) s') = .rt v s2 := fun a d => by
        rw [(h3 a d).rt_eq]
        rfl
      rw [joinF_of fun a d => (h5 a d).trans (h5 0 none).symm, h5]
      exact h4
  | nx r s => rw [e] at h; exact h
  | rt d s => rw [e] at h; exact h
  | bk r s => rw [e] at h; exact h
  | ct r s => rw [e] at h; exact h
  | bad => rw [e] at h; exact h
theorem o_isx {a : Addr} {d : Option Addr} {tt : List (String × Bool)} {C : Str} {fs : List (Str × D)} {n : String} {b : Bool} (hb : tt.lookup n = some b) (h : Q (.bl b) s) : RP Q E (isxD a d tt [.exn a d C fs, .ty n] s) := by
  unfold isxD
  dsimp only
  rw [if_pos ⟨rfl, rfl⟩, hb]
  exact h
theorem w_exn {a : Addr} {d : Option Addr} {f : Str} {m : DE} (h : RP (fun x s1 => ∃ C fs v, x = .exn a d C fs ∧ fs.lookup f = some v ∧ Q v s1) E (m r s)) : RP Q E (exnM a d f m r s) := w_bind (h.mono (fun x s1 ⟨C, fs, v, e, e2, h⟩ => by
  subst e
  dsimp only
  rw [if_pos ⟨rfl, rfl⟩, e2]
  exact h) fun _ _ _ h => h)
end
end Pl
set_option Elab.async false
set_option linter.all false
set_option maxRecDepth 100000
/-! Pl: rules for lists that grow, dict comprehensions, zip of a starred tuple, sorting. -/
namespace Pl
open Mp
open PySem (Str sizeLine PyData)
section
variable {Q : D → Sto → Prop} {E : XT} {r : En} {s : Sto} {q : PQ} {a : DE}
theorem RP.eqn {T : Type} {m : Res T} {v : T} {s' : Sto} (h : RP (fun y t => t = s' ∧ y = v) noX m) : m = .ok v s' := by
  obtain ⟨x, t, e, rfl, rfl⟩ := h.ex
  exact e
/-- a comprehension over a mapped list, whose elements leave the store -/
theorem w_lcX {T : Type} {c : Src} {g : DG} {te : DE} {Q : List D → Sto → Prop} (xs : List T) (f F : T → D) (hi : c.its = xs.map f) (hc : c.cel = none) (hl : xs.length ≤ sizeLine)
    (hs : ∀ x ∈ xs, ∃ p, g (f x) r s = some (p, s) ∧ RP (fun y t => t = s ∧ y = F x) noX (te p s)) (he : Q (xs.map F) s) : RP Q E (lcF c g yesM te r c.its [] s) :=
  w_lc (fun i l s' => s' = s ∧ l = (xs.take i).map F) hc ⟨rfl, by simp⟩ (fun i d l s' hd ⟨e1, e2⟩ => by
    subst e1
    rw [hi, List.getElem?_map] at hd
    cases ex : xs[i]? with
    | none => rw [ex] at hd; cases hd
    | some x =>
      rw [ex] at hd
      cases hd
      have hil := (List.getElem?_eq_some_iff.mp ex).1
      obtain ⟨p, h1, h2⟩ := hs x (List.mem_of_getElem? ex)
      refine ⟨_, h1, fun _ => ?_, fun z => by cases z⟩
      refine RP.of h2.eqn ⟨?_, rfl, ?_⟩
      · rw [e2, List.length_map, List.length_take]
        omega
      · rw [e2, List.take_succ, ex]
        simp) (fun l s' ⟨e1, e2⟩ => by
    subst e1
    rw [hi, List.length_map, List.take_length] at e2
    rw [e2]
    exact he)
/-! dict comprehensions -/
theorem w_dc0 {mi : DM Src} {g : DG} {tt : DM Bool} {tk te : DE} {vs : List Nat} (h : RP (fun c s' => RP (fun acc s2 => Q (.dct acc) s2) noX (dcF c g tt tk te (wipeE r vs) c.its [] s')) E (mi r s)) : RP Q E (dcM mi g tt tk te vs r s) := w_bind (h.mono (fun c s1 h => by
  cases e : dcF c g tt tk te (wipeE r vs) c.its [] s1 with
  | ok acc s2 => rw [e] at h; exact h
  | exc C fs s2 => rw [e] at h; exact h.elim
  | bad => rw [e] at h; exact h.elim) fun _ _ _ h => h)
theorem putA_new {T U : Type} [DecidableEq T] {l : List (T × U)} {k : T} {v : U} (h : k ∉ l.map (·.1)) : putA l k v = l ++ [(k, v)] := by
  unfold putA
  rw [if_neg]
  intro z
  rw [List.any_eq_true] at z
  obtain ⟨p, hp, e⟩ := z
  exact h (List.mem_map.mpr ⟨p, hp, of_decide_eq_true e⟩)
theorem w_dcX {T : Type} {c : Src} {g : DG} {tk te : DE} {Q : List (L2.Key × D) → Sto → Prop} (f F : T → D) (K : T → L2.Key) (hc : c.cel = none) :
    ∀ (xs : List T) (acc : List (L2.Key × D)), acc.length + xs.length ≤ sizeLine → (xs.map K).Nodup → (∀ x ∈ xs, K x ∉ acc.map (·.1)) →
    (∀ x ∈ xs, ∃ p y, g (f x) r s = some (p, s) ∧ RP (fun z t => t = s ∧ z = y) noX (tk p s) ∧ keyD y = some (K x) ∧ RP (fun z t => t = s ∧ z = F x) noX (te p s)) → Q (acc ++ xs.map fun x => (K x, F x)) s → RP Q E (dcF c g yesM tk te r (xs.map f) acc s)
  | [], acc, _, _, _, _, he => by
    rw [List.map_nil]
    unfold dcF
    rw [if_pos (by unfold SrcOk; rw [hc]; trivial)]
    rw [List.map_nil, List.append_nil] at he
    exact he
  | x :: xs, acc, hl, hn, ha, hs, he => by
    obtain ⟨p, y, h1, h2, h3, h4⟩ := hs x List.mem_cons_self
    rw [List.map_cons]
    unfold dcF
    rw [if_pos (by unfold SrcOk; rw [hc]; trivial), h1]
    dsimp only
    rw [show yesM p s = .ok true s from rfl]
    dsimp only
    rw [if_pos rfl, h2.eqn]
    dsimp only
    rw [h4.eqn]
    dsimp only
    rw [h3]
    dsimp only
    simp only [List.length_cons] at hl
    rw [if_pos (by omega), putA_new (ha x List.mem_cons_self)]
    rw [List.map_cons, List.nodup_cons] at hn
    refine w_dcX f F K hc xs (acc ++ [(K x, F x)]) (by rw [List.length_append]; simp; omega) hn.2 (fun z hz hm => ?_) (fun z hz => hs z (List.mem_cons_of_mem _ hz)) ?_
    · rw [List.map_append, List.mem_append] at hm
      rcases hm with hm | hm
      · exact ha z (List.mem_cons_of_mem _ hz) hm
      · simp at hm
        exact hn.1 (hm ▸ List.mem_map_of_mem hz)
    · rw [List.append_assoc]
      exact he
/-! methods -/
theorem w_bm {ty : Sto → D → Bool} {f : D → List D → Sto → Res D} {l : DM (List D)} (h : RP (fun x s1 => ty s1 x = true ∧ RP (fun ds s2 => RP Q E (f x ds s2)) E (l r s1)) E (a r s)) : RP Q E (bmD ty f a l r s) := w_bind (h.mono (fun x s ⟨e, h⟩ => by
  rw [if_pos e]
  exact w_bind h) fun _ _ _ h => h)
theorem o_app {n : Nat} {l : List D} {d : D} (hs : s[n]? = some (some (.lst l))) (hl : l.length < sizeLine) (h : Q .non (s.set n (some (.lst (l ++ [d]))))) : RP Q E (appD (.cel n) [d] s) := by
  unfold appD
  dsimp only
  rw [hs]
  dsimp only
  rw [if_pos hl]
  exact h
theorem o_pop {n k : Nat} {l : List D} {d : D} {i : Int} (hs : s[n]? = some (some (.lst l))) (hi : i = (k : Int)) (hk : l[k]? = some d) (hl : l.length ≤ sizeLine) (h : Q d (s.set n (some (.lst (l.eraseIdx k))))) : RP Q E (popD (.cel n) [.int i] s) := by
  have hlt := (List.getElem?_eq_some_iff.mp hk).1
  have hz : sizeLine = 16777216 := by decide
  unfold popD
  dsimp only
  rw [hs]
  dsimp only
  have e : PySem.seqIndex? i l.length = some k := by
    subst hi
    unfold PySem.seqIndex?
    simp
    omega
  rw [if_pos (by subst hi; constructor <;> omega), e]
  dsimp only
  rw [hk]
  exact h
theorem strsOf_map : ∀ ys : List Str, strsOf (ys.map .str) = some ys
  | [] => rfl
  | y :: ys => by
    show (strsOf (ys.map .str)).map (fun l => y :: l) = _
    rw [strsOf_map ys]
    rfl
theorem o_join {x : D} {a : Str} {ys : List Str} (hx : lstOf s x = some (ys.map .str)) (hl : (ys.map (·.length)).sum + ys.length * a.length ≤ 16777216) (h : Q (.str (PySem.Txt.join a ys)) s) : RP Q E (joinD (.str a) [x] s) := by
  unfold joinD
  dsimp only
  rw [hx]
  dsimp only
  rw [strsOf_map]
  dsimp only
  rw [if_pos hl]
  exact h
/-- texts of one sign each -/
theorem join_chars (cs : List Nat) : PySem.Txt.join "" (cs.map fun c => (⟨#[c]⟩ : Str)) = ⟨cs.toArray⟩ := by
  show PySem.Builtin.Str.glued _ _ = _
  rw [PySem.StrLaws.glued_eq_join]
  induction cs with
  | nil => rfl
  | cons c cs ih =>
    cases cs with
    | nil => rfl
    | cons c2 cs =>
      show (⟨#[c]⟩ : Str) ++ "" ++ Str.join "" ((c2 :: cs).map fun c => (⟨#[c]⟩ : Str)) = _
      rw [ih]
      show Str.mk (#[c] ++ #[] ++ (c2 :: cs).toArray) = Str.mk (c :: c2 :: cs).toArray
      congr 1
      apply Array.ext'
      simp
theorem len_chars (cs : List Nat) : ((cs.map fun c => (⟨#[c]⟩ : Str)).map (·.length)).sum = cs.length := by
  induction cs with
  | nil => rfl
  | cons c cs ih =>
    rw [List.map_cons, List.map_cons, List.sum_cons, ih]
    show 1 + _ = _
    rw [List.length_cons]
    omega
theorem o_sortedI {x : D} {ns : List Int} (h1 : dctOf s x = none) (h2 : lstOf s x = some (ns.map .int)) (h : Q (.lst ((ns.mergeSort leI2).map .int)) s) : RP Q E (sortedD [x] s) := by
  unfold sortedD
  dsimp only
  rw [h1]
  dsimp only
  rw [h2]
  dsimp only
  rw [show intsOf (ns.map .int) = some ns from by have := intsOf_map (fun z : Int => z) ns; rw [List.map_id'] at this; exact this]
  exact h
theorem w_listRg {k : Int} (h : RP (fun x s1 => x = .int k ∧ 0 ≤ k ∧ k ≤ 16777216 ∧ Q (.lst (intL 0 k.toNat)) s1) E (a r s)) : RP Q E (listRgM false a r s) := w_bind (h.mono (fun x s ⟨e, h1, h2, h⟩ => by
  subst e
  unfold listRgD
  dsimp only
  rw [if_pos ⟨h1, h2⟩]
  exact h) fun _ _ _ h => h)
end
end Pl
set_option Elab.async false
set_option linter.all false
set_option maxRecDepth 100000
/-! Pl: letters and words as texts. -/
namespace Pl
open Mp
open PySem (Str sizeLine PyData)
def ch (i : Nat) : Str := ⟨#[97 + i]⟩
/-- the text of these letters -/
def LS (ps : List Nat) : Str := ⟨(ps.map (97 + ·)).toArray⟩
theorem LS_len (ps : List Nat) : (LS ps).length = ps.length := by
  show (ps.map (97 + ·)).toArray.size = _
  simp
theorem LS_chars (ps : List Nat) : chars (LS ps) = ps.map fun i => .str (ch i) := by
  unfold chars LS
  simp only [List.map_map]
  rfl
theorem ch_inj {i j : Nat} (h : ch i = ch j) : i = j := by
  have h1 : (#[97 + i] : Array Nat) = #[97 + j] := congrArg Str.cps h
  simp at h1
  exact h1
theorem LS_join (ps : List Nat) : PySem.Txt.join "" (ps.map ch) = LS ps := by
  have h := join_chars (ps.map (97 + ·))
  rw [List.map_map] at h
  exact h
theorem LS_joinlen (ps : List Nat) : ((ps.map ch).map (·.length)).sum = ps.length := by
  have h := len_chars (ps.map (97 + ·))
  rw [List.length_map] at h
  rw [← h, List.map_map, List.map_map, List.map_map]
  rfl
theorem inStr_LS (i : Nat) (ps : List Nat) : inStr (ch i) (LS ps) = decide (i ∈ ps) := by
  unfold inStr LS ch
  show decide (97 + i ∈ (ps.map (97 + ·))) = _
  apply decide_eq_decide.mpr
  simp
theorem abc : (Str.ofString "abcdefghijklmnopqrstuvwxyz") = LS (List.range 26) := by decide +kernel
theorem inStr_abc {i : Nat} (h : i < 26) : inStr (ch i) (Str.ofString "abcdefghijklmnopqrstuvwxyz") = true := by
  rw [abc, inStr_LS, decide_eq_true_iff]
  exact List.mem_range.mpr h
theorem idx_LS {ps : List Nat} {k p : Nat} {i : Int} {s : Sto} {Q : D → Sto → Prop} {E : XT} (hl : ps.length ≤ sizeLine) (h0 : i = (k : Int)) (h1 : ps[k]? = some p) (h : Q (.str (ch p)) s) : RP Q E (idxD (.str (LS ps)) (.int i) s) := by
  have hlt := (List.getElem?_eq_some_iff.mp h1).1
  unfold idxD
  rw [show dctOf s (.str (LS ps)) = none from rfl]
  dsimp only
  rw [if_pos (by rw [LS_len]; exact hl)]
  subst h0
  have e : L2.atI (LS ps).cps.toList (k : Int) = some (97 + p) := by
    unfold L2.atI L2.ixN
    have z : (LS ps).cps.toList = ps.map (97 + ·) := by simp [LS]
    rw [z, List.length_map, if_pos (by omega), if_pos (by omega)]
    simp [h1]
  rw [e]
  exact h
theorem lt_ch {a b : Nat} {s : Sto} {Q : D → Sto → Prop} {E : XT} (h : Q (.bl (decide (a < b))) s) : RP Q E (ltI (.str (ch a)) (.str (ch b)) s) := by
  have e : decide ((ch a).cps.toList < (ch b).cps.toList) = decide (a < b) := by
    apply decide_eq_decide.mpr
    show [97 + a] < [97 + b] ↔ a < b
    rw [List.cons_lt_cons_iff]
    constructor
    · rintro (h | ⟨_, h⟩)
      · omega
      · exact absurd h (by simp)
    · intro h
      exact .inl (by omega)
  show Q (.bl (decide ((ch a).cps.toList < (ch b).cps.toList))) s
  rw [e]
  exact h
theorem o_inS {x y : Str} {s : Sto} {Q : D → Sto → Prop} {E : XT} (h : Q (.bl (inStr x y)) s) : RP Q E (inD false (.str x) (.str y) s) := h
/-- a dict by letters -/
def byL {T : Type} (ps : List Nat) (f : Nat → T) : List (L2.Key × T) := ps.map fun i => (.inr (ch i), f i)
theorem byL_get {T : Type} {ps : List Nat} {f : Nat → T} {i : Nat} (h : i ∈ ps) : getK (byL ps f) (.inr (ch i)) = some (f i) := by
  unfold byL
  induction ps with
  | nil => cases h
  | cons j ps ih =>
    unfold getK at ih ⊢
    rw [List.map_cons, List.find?_cons]
    by_cases e : j = i
    · subst e
      simp
    · have : decide ((Sum.inr (ch j) : L2.Key) = .inr (ch i)) = false := decide_eq_false fun z => e (ch_inj (Sum.inr.inj z))
      dsimp only
      rw [this]
      rcases List.mem_cons.mp h with rfl | h
      · exact absurd rfl e
      · exact ih h
theorem key_nodup {ps : List Nat} (h : ps.Nodup) : (ps.map fun i => (Sum.inr (ch i) : L2.Key)).Nodup := by
  induction ps with
  | nil => exact .nil
  | cons j ps ih =>
    rw [List.nodup_cons] at h
    rw [List.map_cons, List.nodup_cons]
    refine ⟨fun z => ?_, ih h.2⟩
    obtain ⟨i, hi, e⟩ := List.mem_map.mp z
    exact h.1 (ch_inj (Sum.inr.inj e) ▸ hi)
/-- letters: one to four, ascending -/
structure Lets (ps : List Nat) : Prop where
  pos : 1 ≤ ps.length
  few : ps.length ≤ 4
  lt : ∀ i ∈ ps, i < 26
  asc : ps.Pairwise (· < ·)
theorem Lets.nodup {ps : List Nat} (h : Lets ps) : ps.Nodup := h.asc.imp fun z => Nat.ne_of_lt z
end Pl
set_option Elab.async false
set_option linter.all false
set_option maxRecDepth 100000
set_option maxHeartbeats 4000000
/-! Pl: lambdas handed to a def; texts by their signs. -/
namespace Pl
open Mp
open PySem (Str sizeLine PyData Addr)
section
variable {Q : D → Sto → Prop} {E : XT} {r : En} {s : Sto} {te : DE}
/-- texts by their signs -/
def CS (cs : List Nat) : Str := ⟨cs.toArray⟩
theorem CS_of (z : Str) : z = CS z.cps.toList := by
  cases z
  simp [CS]
theorem LS_CS (ps : List Nat) : LS ps = CS (ps.map (97 + ·)) := rfl
theorem CS_len (cs : List Nat) : (CS cs).length = cs.length := by
  show cs.toArray.size = _
  simp
theorem CS_chars (cs : List Nat) : chars (CS cs) = cs.map fun c => .str ⟨#[c]⟩ := by
  unfold chars CS
  rfl
theorem CS_app (a b : List Nat) : CS a ++ CS b = CS (a ++ b) := by
  show (⟨a.toArray ++ b.toArray⟩ : Str) = ⟨_⟩
  simp
theorem inStr_CS (c : Nat) (cs : List Nat) : inStr ⟨#[c]⟩ (CS cs) = decide (c ∈ cs) := by
  unfold inStr CS
  rfl
theorem foldl_app (l : List (List Nat)) (a : List Nat) : (l.map List.toArray).foldl (· ++ ·) a.toArray = (a ++ l.flatten).toArray := by
  induction l generalizing a with
  | nil => simp
  | cons x l ih =>
    rw [List.map_cons, List.foldl_cons, List.append_toArray, ih, List.flatten_cons, List.append_assoc]
theorem repS_CS (cs : List Nat) (n : Nat) : repS (CS cs) n = CS (List.replicate n cs).flatten := by
  unfold repS CS
  have h := foldl_app (List.replicate n cs) []
  rw [List.map_replicate] at h
  rw [List.nil_append] at h
  rw [← h]
theorem LS_rep (ps : List Nat) (n : Nat) : repS (LS ps) n = LS (List.replicate n ps).flatten := by
  rw [LS_CS, repS_CS, LS_CS, List.map_flatten, List.map_replicate]
theorem LS_app (ps qs : List Nat) : LS ps ++ LS qs = LS (ps ++ qs) := by
  rw [LS_CS, LS_CS, CS_app, LS_CS, List.map_append]
theorem ch_LS (i : Nat) : ch i = LS [i] := rfl
theorem o_mulX {z : Str} {k : Int} {n : Nat} (hn : n = k.toNat) (h1 : 2 ≤ k) (h2 : k ≤ 1000000) (h3 : 0 < z.length) (h4 : z.length * n ≤ 16777216) (h : Q (.str (repS z n)) s) : RP Q E (mulX (.str z) (.int k) s) := by
  subst hn
  unfold mulX
  dsimp only
  rw [if_pos ⟨h1, h2, h3, h4⟩]
  exact h
theorem repr_len {cs : List Nat} (h : ∀ c ∈ cs, c < 128) : (PySem.reprText (CS cs)).length ≤ 10 * cs.length + 2 := by
  have := PySem.StrLaws.reprText_len (CS cs) (by
    intro c hc
    have := h c (by simpa [CS] using hc)
    exact Nat.lt_trans this (by decide))
  rw [CS_len] at this
  exact this
/-- a comprehension with a test over a mapped list, which leaves the store -/
theorem w_lcY {T : Type} {c : Src} {g : DG} {tt : DM Bool} {te : DE} {Q : List D → Sto → Prop} (xs : List T) (f F : T → D) (C : T → Bool) (hi : c.its = xs.map f) (hc : c.cel = none) (hl : xs.length ≤ sizeLine)
    (hs : ∀ x ∈ xs, ∃ p, g (f x) r s = some (p, s) ∧ RP (fun k s1 => s1 = s ∧ k = C x) noX (tt p s) ∧ (C x = true → RP (fun y t => t = s ∧ y = F x) noX (te p s))) (he : Q ((xs.filter C).map F) s) : RP Q E (lcF c g tt te r c.its [] s) :=
  w_lc (fun i l s' => s' = s ∧ l = ((xs.take i).filter C).map F ∧ l.length ≤ i) hc ⟨rfl, by simp, Nat.le_refl _⟩ (fun i d l s' hd ⟨e1, e2, e3⟩ => by
    subst e1
    rw [hi, List.getElem?_map] at hd
    cases ex : xs[i]? with
    | none => rw [ex] at hd; cases hd
    | some x =>
      rw [ex] at hd
      cases hd
      have hil := (List.getElem?_eq_some_iff.mp ex).1
      obtain ⟨p, h1, h2, h3⟩ := hs x (List.mem_of_getElem? ex)
      refine ⟨_, h1, ?_⟩
      refine RP.of h2.eqn ⟨fun hk => ?_, fun hk => ?_⟩
      · refine RP.of (h3 hk).eqn ⟨by omega, rfl, ?_, by simp; omega⟩
        rw [e2, List.take_succ, ex]
        simp [hk]
      · refine ⟨rfl, ?_, by omega⟩
        rw [e2, List.take_succ, ex]
        simp [hk]) (fun l s' ⟨e1, e2, _⟩ => by
    subst e1
    rw [hi, List.length_map, List.take_length] at e2
    rw [e2]
    exact he)
theorem o_ninS {x y : Str} (h : Q (.bl (!inStr x y)) s) : RP Q E (inD true (.str x) (.str y) s) := h
end
end Pl
set_option Elab.async false
set_option linter.all false
set_option maxRecDepth 100000
set_option maxHeartbeats 4000000
/-! Pl: sums of products over a ring. -/
namespace Pl
section
end
end Pl
namespace Pl
open Mp
open PySem (Str sizeLine)
theorem LS_rev (ps : List Nat) : revS (LS ps) = LS ps.reverse := by
  unfold revS LS
  simp
theorem o_rev {z : Str} {s : Sto} {Q : D → Sto → Prop} {E : XT} (hl : z.length ≤ sizeLine) (h : Q (.str (revS z)) s) : RP Q E (revD (.str z) s) := by
  unfold revD
  dsimp only
  rw [if_pos hl]
  exact h
end Pl
namespace Pl
open Mp
open PySem (Str sizeLine PyData)
section
variable {s : Sto} {Q : D → Sto → Prop} {E : XT}
theorem LS_list (ws : List Nat) : (LS ws).cps.toList = ws.map (97 + ·) := by simp [LS]
theorem LS_cutl {ws : List Nat} {i : Nat} (h : i ≤ ws.length) : L2.cutS (LS ws) none (some (i : Int)) = LS (ws.take i) := by
  unfold L2.cutS
  rw [HT.sIx_none, HT.sIx_nat, LS_len, LS_list, List.drop_zero, Nat.min_eq_left h, Nat.sub_zero]
  unfold LS
  rw [List.map_take]
theorem LS_cutr {ws : List Nat} {i : Nat} (h : i ≤ ws.length) : L2.cutS (LS ws) (some (i : Int)) none = LS (ws.drop i) := by
  unfold L2.cutS
  rw [HT.sIx_none, HT.sIx_nat, LS_len, LS_list, Nat.min_eq_left h]
  rw [List.take_of_length_le (by simp)]
  unfold LS
  rw [List.map_drop]
theorem o_sliS {c : Bool} {z : Str} {lo hi : Option Int} (hl : z.length ≤ sizeLine) (h : Q (.str (L2.cutS z lo hi)) s) : RP Q E (sliD c (.str z) lo hi s) := by
  unfold sliD
  dsimp only
  rw [if_pos hl]
  exact h
end
end Pl
set_option Elab.async false
set_option linter.all false
set_option maxRecDepth 100000
set_option maxHeartbeats 4000000
/-! Pl: rules for two clauses, starred items, dict(..), own operators, several except clauses. -/
namespace Pl
open Mp
open PySem (Str sizeLine PyData Addr)
section
variable {Q : D → Sto → Prop} {E : XT} {r : En} {s : Sto} {q : PQ} {a b : DE}
/-! two clauses -/
theorem w_lc20 {k : Bool} {mi mi1 : DM Src} {g g1 : DG} {tt tt1 : DM Bool} {te : DE} {vs vs1 : List Nat} (h : RP (fun c s' => RP (fun acc s2 => RP Q E (newL k acc s2)) noX (lcF2 c g tt mi1 g1 tt1 te vs1 (wipeE r vs) c.its [] s')) E (mi r s)) : RP Q E (lc2M k mi g tt mi1 g1 tt1 te vs vs1 r s) := w_bind (h.mono (fun c s1 h => by
  cases e : lcF2 c g tt mi1 g1 tt1 te vs1 (wipeE r vs) c.its [] s1 with
  | ok acc s2 => rw [e] at h; exact h
  | exc C fs s2 => rw [e] at h; exact h.elim
  | bad => rw [e] at h; exact h.elim) fun _ _ _ h => h)
theorem w_seqJ {Q : Src → Sto → Prop} (h : RP (fun x s1 => ∃ c, srcJ s1 x = some c ∧ Q c s1) E (a r s)) : RP Q E (seqJ a r s) := w_bind (h.mono (fun x s ⟨c, e, h⟩ => by
  rw [e]
  exact h) fun _ _ _ h => h)
/-! starred items -/
theorem w_starC {Q : List D → Sto → Prop} {m : DM (List D)} (h : RP (fun x s1 => ∃ l, seqOf s1 x = some l ∧ RP (fun ys s2 => Q (l ++ ys) s2) E (m r s1)) E (a r s)) : RP Q E (starC a m r s) := w_bind (h.mono (fun x s ⟨l, e, h⟩ => w_bind (by
  show RP _ E (okO s (seqOf s x))
  rw [e]
  exact w_bind h)) fun _ _ _ h => h)
theorem w_spr (h : RP (fun x s1 => ∃ m, dctOf s1 x = some m ∧ Q (.dct m) s1) E (a r s)) : RP Q E (sprM a r s) := w_bind (h.mono (fun x s ⟨m, e, h⟩ => by
  rw [e]
  exact h) fun _ _ _ h => h)
/-! dict(..) -/
theorem pairsD_map {T : Type} (K : T → L2.Key) (F : T → D) : ∀ xs : List T, pairsD (xs.map fun x => .tup [keyV (K x), F x]) = some (xs.map fun x => (K x, F x))
  | [] => rfl
  | x :: xs => by
    rw [List.map_cons]
    unfold pairsD
    rw [show keyD (keyV (K x)) = some (K x) from by cases K x <;> rfl]
    dsimp only
    rw [pairsD_map K F xs]
    rfl
theorem mergeA_new {U : Type} : ∀ (kvs l : List (L2.Key × U)), (kvs.map (·.1)).Nodup → (∀ p ∈ kvs, p.1 ∉ l.map (·.1)) → mergeA l kvs = l ++ kvs
  | [], l, _, _ => (List.append_nil l).symm
  | p :: kvs, l, hn, h => by
    rw [List.map_cons, List.nodup_cons] at hn
    show mergeA (putA l p.1 p.2) kvs = _
    rw [putA_new (h p List.mem_cons_self), mergeA_new kvs _ hn.2 fun z hz hm => ?_, List.append_assoc]
    · rfl
    · rw [List.map_append, List.mem_append] at hm
      rcases hm with hm | hm
      · exact h z (List.mem_cons_of_mem _ hz) hm
      · simp at hm
        exact hn.1 (hm ▸ List.mem_map_of_mem hz)
theorem o_dictP {T : Type} (xs : List T) (K : T → L2.Key) (F : T → D) {x : D} (h0 : dctOf s x = none) (hl : lstOf s x = some (xs.map fun x => .tup [keyV (K x), F x])) (hn : (xs.map K).Nodup) (h : Q (.dct (xs.map fun x => (K x, F x))) s) : RP Q E (dictPD false [x] s) := by
  unfold dictPD
  dsimp only
  rw [h0]
  dsimp only
  rw [hl]
  dsimp only
  rw [pairsD_map]
  dsimp only
  rw [mergeA_new _ [] (by rw [List.map_map]; exact hn) (fun _ _ z => by cases z), List.nil_append]
  exact h
/-! own operators -/
theorem o_own0 {tb : List (Str × DF)} {f : D → D → Sto → Res D} {x y : D} (h0 : insOf s x = none) (h : RP Q E (f x y s)) : RP Q E (ownD tb f x y s) := by
  unfold ownD
  rw [h0]
  exact h
theorem o_eqO0 {neg : Bool} {tb : List ((Str × Str) × DF)} {x y : D} (h0 : insOf s x = none) (h : RP Q E (eqG neg x y s)) : RP Q E (eqO neg tb x y s) := by
  unfold eqO
  rw [h0]
  exact h
/-! several except clauses -/
theorem w_tryN {x : DS} {hs : List Hd} (h : FP ⟨q.nx, q.rt, q.bk, q.ct, fun C fs r' s' => FP q (manyF hs C fs r' s')⟩ (x r s)) : FP q (tryNS x hs r s) := by
  unfold tryNS
  cases e : x r s with
  | exc C fs r' s' => rw [e] at h; exact h
  | nx r s => rw [e] at h; exact h
  | rt d s => rw [e] at h; exact h
  | bk r s => rw [e] at h; exact h
  | ct r s => rw [e] at h; exact h
  | bad => rw [e] at h; exact h
end
end Pl
namespace Pl
open Mp
open PySem (Str sizeLine PyData Addr)
section
end
end Pl
namespace Pl
open Mp
open PySem (Str sizeLine PyData Addr)
section
variable {Q : D → Sto → Prop} {E : XT} {r : En} {s : Sto}
theorem o_idxC {c k : Nat} {l : List D} {d : D} {i : Int} (hs : s[c]? = some (some (.lst l))) (h0 : i = (k : Int)) (h1 : l[k]? = some d) (h : Q d s) : RP Q E (idxD (.cel c) (.int i) s) := by
  have hk := (List.getElem?_eq_some_iff.mp h1).1
  have e : L2.atI l i = some d := by
    subst h0
    unfold L2.atI L2.ixN
    rw [if_pos (by omega), if_pos (by omega)]
    simpa using h1
  have ed : dctOf s (.cel c) = none := by
    unfold dctOf
    dsimp only
    rw [hs]
  have es : lstOf s (.cel c) = some l := by
    unfold lstOf lstX
    dsimp only
    rw [hs]
  unfold idxD
  rw [ed]
  dsimp only
  rw [es]
  dsimp only
  rw [e]
  exact h
end
end Pl
set_option Elab.async false
set_option linter.all false
set_option maxRecDepth 100000
/-! Pl: how long a repr is, dicts too. -/
namespace Pl
open Mp
open PySem (Str sizeLine PyData)
open PySem
mutual
def wd : PyData → Nat
  | .none => 4
  | .bool _ => 5
  | .int _ => 600
  | .str x => (reprText x).length
  | .list xs => wdAll xs + 4
  | .tuple xs => wdAll xs + 4
  | .dict kvs => wdKv kvs + 4
def wdAll : List PyData → Nat
  | [] => 0
  | x :: xs => wd x + 2 + wdAll xs
def wdKv : List (PyData × PyData) → Nat
  | [] => 0
  | (a, b) :: r => wd a + wd b + 4 + wdKv r
end
/-! texts of sound signs -/
def SOk (z : Str) : Prop := ∀ c ∈ z.cps.toList, c < 0x110000
theorem SOk.of (x : String) : SOk (Str.ofString x) := by
  rw [Str.ofString_eq_toList]
  intro c hc
  have hc : c ∈ x.toList.map Char.toNat := by simpa using hc
  obtain ⟨k, _, rfl⟩ := List.mem_map.mp hc
  have := k.valid
  show k.val.toNat < _
  rcases this with h | h <;> omega
theorem SOk.app {a b : Str} (ha : SOk a) (hb : SOk b) : SOk (a ++ b) := fun c hc => by
  have hc : c ∈ (a.cps ++ b.cps).toList := hc
  rw [Array.toList_append, List.mem_append] at hc
  exact hc.elim (ha c) (hb c)
theorem SOk.join : ∀ {ts : List Str}, (∀ t ∈ ts, SOk t) → SOk (Str.join ", " ts)
  | [], _ => fun c hc => by cases hc
  | [x], h => h x List.mem_cons_self
  | x :: y :: r, h => by
    show SOk (x ++ Str.ofString ", " ++ Str.join ", " (y :: r))
    exact ((h x List.mem_cons_self).app (SOk.of _)).app (SOk.join fun t ht => h t (List.mem_cons_of_mem _ ht))
mutual
/-- all texts in it are sound when shown -/
def snd : PyData → Prop
  | .none => True
  | .bool _ => True
  | .int _ => True
  | .str x => SOk (reprText x)
  | .list xs => sndAll xs
  | .tuple xs => sndAll xs
  | .dict kvs => sndKv kvs
def sndAll : List PyData → Prop
  | [] => True
  | x :: xs => snd x ∧ sndAll xs
def sndKv : List (PyData × PyData) → Prop
  | [] => True
  | (a, b) :: r => snd a ∧ snd b ∧ sndKv r
end
/-- data that can be shown: so much fuel, so deep, so wide -/
def Rdy (m k W : Nat) (d : D) : Prop := ∃ p, (∀ (s : Sto) n, m ≤ n → rdP s n d = some p) ∧ p.showable = true ∧ p.depth ≤ k ∧ wd p ≤ W ∧ snd p
def Rds (m k W : Nat) (l : List D) : Prop := ∃ ps, (∀ (s : Sto) n, m ≤ n → rdPs s n l = some ps) ∧ PyData.showableAll ps = true ∧ PyData.depthAll ps ≤ k ∧ wdAll ps ≤ W ∧ ps.length = l.length ∧ sndAll ps
section
variable {m m' k k' W W' : Nat} {d : D} {l : List D}
theorem Rdy.mono (h : Rdy m k W d) (h1 : m ≤ m') (h2 : k ≤ k') (h3 : W ≤ W') : Rdy m' k' W' d := by
  obtain ⟨p, e, a, b, c, o⟩ := h
  exact ⟨p, fun s n hn => e s n (Nat.le_trans h1 hn), a, Nat.le_trans b h2, Nat.le_trans c h3, o⟩
theorem Rds.nil : Rds 1 0 0 [] := by
  refine ⟨[], fun s n hn => ?_, rfl, Nat.le_refl _, Nat.le_refl _, rfl, trivial⟩
  obtain ⟨n, rfl⟩ : ∃ j, n = j + 1 := ⟨n - 1, by omega⟩
  simp only [rdPs]
theorem Rds.cons (h : Rdy m k W d) (h2 : Rds m' k' W' l) : Rds (max m m' + 1) (max k k') (W + 2 + W') (d :: l) := by
  obtain ⟨p, e1, a1, b1, c1, o1⟩ := h
  obtain ⟨ps, e2, a2, b2, c2, l2, o2⟩ := h2
  refine ⟨p :: ps, fun s n hn => ?_, ?_, ?_, ?_, by rw [List.length_cons, l2, List.length_cons], by rw [sndAll]; exact ⟨o1, o2⟩⟩
  · obtain ⟨n, rfl⟩ : ∃ j, n = j + 1 := ⟨n - 1, by omega⟩
    simp only [rdPs]
    rw [e1 s n (by omega), e2 s n (by omega)]
    rfl
  · rw [PyData.showableAll, a1, a2]
    rfl
  · rw [PyData.depthAll]
    omega
  · rw [wdAll]
    omega
theorem Rds.all : ∀ {l : List D}, (∀ d ∈ l, Rdy m k W d) → Rds (m + l.length + 1) k ((W + 2) * l.length) l
  | [], _ => by
    refine ⟨[], fun s n hn => ?_, rfl, Nat.zero_le _, Nat.zero_le _, rfl, trivial⟩
    obtain ⟨n, rfl⟩ : ∃ j, n = j + 1 := ⟨n - 1, by omega⟩
    simp only [rdPs]
  | d :: l, h => by
    obtain ⟨p, e1, a1, b1, c1, o1⟩ := h d List.mem_cons_self
    obtain ⟨ps, e2, a2, b2, c2, l2, o2⟩ := Rds.all (l := l) fun x hx => h x (List.mem_cons_of_mem _ hx)
    refine ⟨p :: ps, fun s n hn => ?_, ?_, ?_, ?_, by rw [List.length_cons, l2, List.length_cons], by rw [sndAll]; exact ⟨o1, o2⟩⟩
    · rw [List.length_cons] at hn
      obtain ⟨n, rfl⟩ : ∃ j, n = j + 1 := ⟨n - 1, by omega⟩
      simp only [rdPs]
      rw [e1 s n (by omega), e2 s n (by omega)]
      rfl
    · rw [PyData.showableAll, a1, a2]
      rfl
    · rw [PyData.depthAll]
      omega
    · rw [wdAll, List.length_cons, Nat.mul_succ]
      omega
theorem Rdy.int {i : Int} (h : i.natAbs < 2 ^ 1900) : Rdy 1 0 600 (.int i) := by
  refine ⟨.int i, fun s n hn => ?_, ?_, Nat.le_refl _, Nat.le_refl _, trivial⟩
  · obtain ⟨n, rfl⟩ : ∃ j, n = j + 1 := ⟨n - 1, by omega⟩
    simp only [rdP]
  · rw [PyData.showable]
    refine decide_eq_true ?_
    by_cases z : i.natAbs = 0
    · rw [z]
      decide
    · exact (Nat.log2_lt z).mpr (Nat.lt_of_lt_of_le h (Nat.pow_le_pow_right (by decide) (by decide)))
theorem Rdy.str {z : Str} (h : ∀ c ∈ z.cps.toList, c < 16 ^ 8) (ho : SOk (reprText z)) : Rdy 1 0 (10 * z.length + 2) (.str z) := by
  refine ⟨.str z, fun s n hn => ?_, rfl, Nat.le_refl _, PySem.StrLaws.reprText_len z h, by rw [snd]; exact ho⟩
  obtain ⟨n, rfl⟩ : ∃ j, n = j + 1 := ⟨n - 1, by omega⟩
  simp only [rdP]
theorem Rdy.tup (h : Rds m k W l) : Rdy (m + 1) (k + 1) (W + 4) (.tup l) := by
  obtain ⟨ps, e, a, b, c, _, o⟩ := h
  refine ⟨.tuple ps, fun s n hn => ?_, by rw [PyData.showable]; exact a, by rw [PyData.depth]; omega, by rw [wd]; omega, by rw [snd]; exact o⟩
  obtain ⟨n, rfl⟩ : ∃ j, n = j + 1 := ⟨n - 1, by omega⟩
  simp only [rdP]
  rw [e s n (by omega)]
  rfl
theorem Rdy.lst (h : Rds m k W l) : Rdy (m + 1) (k + 1) (W + 4) (.lst l) := by
  obtain ⟨ps, e, a, b, c, _, o⟩ := h
  refine ⟨.list ps, fun s n hn => ?_, by rw [PyData.showable]; exact a, by rw [PyData.depth]; omega, by rw [wd]; omega, by rw [snd]; exact o⟩
  obtain ⟨n, rfl⟩ : ∃ j, n = j + 1 := ⟨n - 1, by omega⟩
  simp only [rdP]
  rw [e s n (by omega)]
  rfl
theorem kv_show : ∀ {ks ps : List PyData}, PyData.showableAll ks = true → PyData.showableAll ps = true → ks.length = ps.length → PyData.showableKv (ks.zip ps) = true ∧ PyData.depthKv (ks.zip ps) ≤ max (PyData.depthAll ks) (PyData.depthAll ps) ∧ wdKv (ks.zip ps) ≤ wdAll ks + wdAll ps
  | [], [], _, _, _ => ⟨rfl, by simp [PyData.depthKv], by simp [wdKv]⟩
  | [], _ :: _, _, _, h => by cases h
  | _ :: _, [], _, _, h => by cases h
  | x :: ks, y :: ps, h1, h2, h3 => by
    rw [PyData.showableAll, Bool.and_eq_true] at h1 h2
    obtain ⟨a, b, c⟩ := kv_show h1.2 h2.2 (by simpa using h3)
    rw [List.zip_cons_cons, PyData.showableKv, PyData.depthKv, wdKv, PyData.depthAll, PyData.depthAll, wdAll, wdAll]
    refine ⟨by rw [h1.1, h2.1, a]; rfl, by omega, by omega⟩
theorem kv_snd : ∀ {ks ps : List PyData}, sndAll ks → sndAll ps → sndKv (ks.zip ps)
  | [], ps, _, _ => by rw [List.zip_nil_left]; trivial
  | x :: ks, [], _, _ => by rw [List.zip_nil_right]; trivial
  | x :: ks, y :: ps, h1, h2 => by
    rw [sndAll] at h1 h2
    rw [List.zip_cons_cons, sndKv]
    exact ⟨h1.1, h2.1, kv_snd h1.2 h2.2⟩
theorem Rdy.dct {m0 : List (L2.Key × D)} {K : Nat} (hk : PyData.showableAll (m0.map fun p => keyP p.1) = true) (hd : PyData.depthAll (m0.map fun p => keyP p.1) = 0) (hw : wdAll (m0.map fun p => keyP p.1) ≤ K) (ho : sndAll (m0.map fun p => keyP p.1)) (h : Rds m k W (m0.map (·.2))) : Rdy (m + 1) (k + 1) (K + W + 4) (.dct m0) := by
  obtain ⟨ps, e, a, b, c, hl, o⟩ := h
  obtain ⟨x, y, z⟩ := kv_show hk a (by rw [hl, List.length_map, List.length_map])
  refine ⟨.dict ((m0.map fun p => keyP p.1).zip ps), fun s n hn => ?_, by rw [PyData.showable]; exact x, by rw [PyData.depth]; omega, by rw [wd]; omega, by rw [snd]; exact kv_snd ho o⟩
  obtain ⟨n, rfl⟩ : ∃ j, n = j + 1 := ⟨n - 1, by omega⟩
  simp only [rdP]
  rw [e s n (by omega)]
  rfl
end
end Pl
set_option Elab.async false
set_option linter.all false
set_option maxRecDepth 100000
set_option maxHeartbeats 4000000
/-! Pl: rules for dict.get, list(d), keywords, sorted texts, max. -/
namespace Pl
open Mp
open PySem (Str sizeLine PyData)
section
variable {Q : D → Sto → Prop} {E : XT} {r : En} {s : Sto} {a b c : DE} {x y : D}
theorem w_get (h : RP (fun x s1 => ∃ m0, dctOf s1 x = some m0 ∧ RP (fun y s2 => RP (fun z s3 => ∃ m k, dctOf s3 x = some m ∧ keyD y = some k ∧ Q ((getK m k).getD z) s3) E (c r s2)) E (b r s1)) E (a r s)) : RP Q E (getM a b c r s) := w_bind (h.mono (fun x s1 ⟨m0, e0, h⟩ => by
  rw [e0]
  refine w_bind (h.mono (fun y s2 h => w_bind (h.mono (fun z s3 ⟨m, k, e1, e2, h⟩ => ?_) fun _ _ _ h => h)) fun _ _ _ h => h)
  rw [e1]
  dsimp only
  rw [e2]
  exact h) fun _ _ _ h => h)
theorem w_kwA {m : DM (List D)} {k : DM (List (Str × D))} {Q : List D → Sto → Prop} (h : RP (fun ds s1 => RP (fun l s2 => Q (ds ++ [.dct (KwX.kK l)]) s2) E (k r s1)) E (m r s)) : RP Q E (kwA m k r s) := w_bind (h.mono (fun _ _ h => w_bind h) fun _ _ _ h => h)
theorem w_sprK {Q : List (Str × D) → Sto → Prop} (h : RP (fun x s1 => ∃ m l, dctOf s1 x = some m ∧ kS m = some l ∧ Q l s1) E (a r s)) : RP Q E (sprK a r s) := w_bind (h.mono (fun x s ⟨m, l, e1, e2, h⟩ => by
  rw [e1]
  dsimp only
  rw [e2]
  exact h) fun _ _ _ h => h)
theorem w_kwM {ks : List Str} {m : DM (List D)} {Q : List (Str × D) → Sto → Prop} (h : RP (fun es s1 => Q (ks.zip es) s1) E (m r s)) : RP Q E (kwM ks m r s) := w_bind h
theorem w_makeL {kk : Bool} {C : Str} {m : DF} {l : DM (List D)} (h : RP (fun x s1 => x = .glo C ∧ RP Q E (makeM kk C m l r s1)) E (a r s)) : RP Q E (makeLM kk C m a l r s) := w_bind (h.mono (fun x s ⟨e, h⟩ => by
  subst e
  dsimp only
  rw [if_pos rfl]
  exact h) fun _ _ _ h => h)
theorem o_listK {k : Bool} {m : List (L2.Key × D)} (h1 : dctOf s x = some m) (h : RP Q E (newL k (m.map fun p => keyV p.1) s)) : RP Q E (listKD k [x] s) := by
  unfold listKD
  dsimp only
  rw [h1]
  exact h
end
end Pl
set_option Elab.async false
set_option linter.all false
set_option maxRecDepth 100000
set_option maxHeartbeats 4000000
/-! Pl: keys of number and text: the order, the sort. -/
namespace Pl
open Mp
open PySem (Str sizeLine PyData)
theorem dataLt_kP (p q : KP) : PySem.W.dataLt (kP p) (kP q) = ltKP p q := by
  unfold kP ltKP
  rw [PySem.W.dataLt_pair (by simp [PySem.W.alike]) (by simp [PySem.W.alike]), PySem.W.dataLt_int, PySem.W.dataLt_str]
  simp only [PyData.eqv]
  rfl
theorem dataLe_kP (p q : KP) : PySem.W.dataLe false (fun p : KP => kP p) p q = !ltKP q p := by
  show (!PySem.W.dataLt (kP q) (kP p)) = _
  rw [dataLt_kP]
theorem keysF_pure {T : Type} {f : DF} {y : D} {s : Sto} (g : T → D) (k : T → KP) : ∀ {l : List T} {kd : List KP}, (∀ x ∈ l, f [y, g x] s = .ok (kD (k x)) s) → keysF f y (l.map g) kd s = .ok (kd ++ l.map k) s
  | [], kd, _ => by
    rw [List.map_nil, keysF]
    simp
  | x :: l, kd, h => by
    rw [List.map_cons, keysF, h x List.mem_cons_self]
    show keysF f y (l.map g) (kd ++ [((k x).1, (k x).2)]) s = _
    rw [keysF_pure g k fun x hx => h x (List.mem_cons_of_mem _ hx), List.append_assoc]
    rfl
/-- the sort of values of one kind by their keys -/
theorem outK_map {T : Type} (g : T → D) (k : T → KP) (ws : List T) : outK (ws.map k) (ws.map g) = (ws.mergeSort fun a b => !ltKP (k b) (k a)).map g := by
  have e : (ws.map k).zip (ws.map g) = ws.map fun w => (k w, g w) := by
    induction ws with
    | nil => rfl
    | cons w ws ih => simp only [List.map_cons, List.zip_cons_cons, ih]
  unfold outK
  rw [e, ← List.map_mergeSort (f := fun w => (k w, g w)) (r := fun a b => !ltKP (k b) (k a)) (fun a _ b _ => (dataLe_kP (k a) (k b)).symm), List.map_map]
  rfl
/-- each once, as they come first -/
def uniqA {T : Type} [DecidableEq T] (acc : List T) (x : T) : List T := if x ∈ acc then acc else acc ++ [x]
def uniq {T : Type} [DecidableEq T] (l : List T) : List T := l.foldl uniqA []
theorem uniqA_nodup {T : Type} [DecidableEq T] : ∀ {l acc : List T}, acc.Nodup → (l.foldl uniqA acc).Nodup
  | [], _, h => h
  | x :: l, acc, h => by
    rw [List.foldl_cons]
    refine uniqA_nodup ?_
    unfold uniqA
    split
    · exact h
    · rename_i hx
      rw [List.nodup_append]
      exact ⟨h, by simp, fun a ha b hb e => hx (by simp at hb; rw [← hb, ← e]; exact ha)⟩
theorem uniqA_mem {T : Type} [DecidableEq T] {y : T} : ∀ {l acc : List T}, y ∈ l.foldl uniqA acc ↔ y ∈ acc ∨ y ∈ l
  | [], acc => by simp
  | x :: l, acc => by
    rw [List.foldl_cons, uniqA_mem]
    unfold uniqA
    split
    · rename_i hx
      constructor
      · rintro (h | h)
        · exact .inl h
        · exact .inr (List.mem_cons_of_mem _ h)
      · rintro (h | h)
        · exact .inl h
        · rcases List.mem_cons.mp h with rfl | h
          · exact .inl hx
          · exact .inr h
    · simp [or_assoc]
theorem uniqA_len {T : Type} [DecidableEq T] : ∀ {l acc : List T}, (l.foldl uniqA acc).length ≤ acc.length + l.length
  | [], acc => by simp
  | x :: l, acc => by
    rw [List.foldl_cons]
    have := uniqA_len (l := l) (acc := uniqA acc x)
    have e : (uniqA acc x).length ≤ acc.length + 1 := by
      unfold uniqA
      split
      · omega
      · simp
    rw [List.length_cons]
    omega
theorem uniq_nodup {T : Type} [DecidableEq T] {l : List T} : (uniq l).Nodup := uniqA_nodup List.Pairwise.nil
theorem uniq_mem {T : Type} [DecidableEq T] {l : List T} {y : T} : y ∈ uniq l ↔ y ∈ l := by
  unfold uniq
  rw [uniqA_mem]
  simp
theorem uniq_len {T : Type} [DecidableEq T] {l : List T} : (uniq l).length ≤ l.length := by
  have := uniqA_len (l := l) (acc := [])
  unfold uniq
  simpa using this
theorem putA_uniq {T : Type} [DecidableEq T] {K : T → L2.Key} (hK : ∀ x y, K x = K y → x = y) {v : D} {acc : List T} {x : T} : putA (acc.map fun x => (K x, v)) (K x) v = (uniqA acc x).map fun x => (K x, v) := by
  unfold uniqA
  by_cases h : x ∈ acc
  · rw [if_pos h]
    unfold putA
    rw [if_pos (by rw [List.any_eq_true]; exact ⟨_, List.mem_map_of_mem h, decide_eq_true rfl⟩), List.map_map]
    apply List.map_congr_left
    intro y _
    show (if K y = K x then (K y, v) else (K y, v)) = _
    split <;> rfl
  · rw [if_neg h, putA_new]
    · simp
    · intro z
      obtain ⟨p, hp, e⟩ := List.mem_map.mp z
      obtain ⟨y, hy, rfl⟩ := List.mem_map.mp hp
      exact h (hK _ _ e ▸ hy)
/-- a dict comprehension with one value: each key once -/
theorem w_dcU {T : Type} [DecidableEq T] {c : Src} {g : DG} {tk te : DE} {r : En} {s : Sto} {E : XT} {Q : List (L2.Key × D) → Sto → Prop} (f : T → D) (v : D) (K : T → L2.Key) (hK : ∀ x y, K x = K y → x = y) (hc : c.cel = none) :
    ∀ (xs acc : List T), acc.length + xs.length ≤ sizeLine → (∀ x ∈ xs, ∃ p y, g (f x) r s = some (p, s) ∧ RP (fun z t => t = s ∧ z = y) noX (tk p s) ∧ keyD y = some (K x) ∧ RP (fun z t => t = s ∧ z = v) noX (te p s)) →
      Q ((xs.foldl uniqA acc).map fun x => (K x, v)) s → RP Q E (dcF c g yesM tk te r (xs.map f) (acc.map fun x => (K x, v)) s)
  | [], acc, _, _, he => by
    rw [List.map_nil]
    unfold dcF
    rw [if_pos (by unfold SrcOk; rw [hc]; trivial)]
    exact he
  | x :: xs, acc, hl, hs, he => by
    obtain ⟨p, y, h1, h2, h3, h4⟩ := hs x List.mem_cons_self
    rw [List.map_cons]
    unfold dcF
    rw [if_pos (by unfold SrcOk; rw [hc]; trivial), h1]
    dsimp only
    rw [show yesM p s = .ok true s from rfl]
    dsimp only
    rw [if_pos rfl, h2.eqn]
    dsimp only
    rw [h4.eqn]
    dsimp only
    rw [h3]
    dsimp only
    simp only [List.length_cons] at hl
    have hu : (uniqA acc x).length ≤ acc.length + 1 := by
      unfold uniqA
      split
      · omega
      · simp
    rw [if_pos (by rw [List.length_map]; omega), putA_uniq hK]
    exact w_dcU f v K hK hc xs (uniqA acc x) (by omega) (fun z hz => hs z (List.mem_cons_of_mem _ hz)) he
section
variable {Q : D → Sto → Prop} {E : XT} {r : En} {s : Sto} {me mo : DE} {x y : D}
theorem o_ltK {a b : Int} {z u : Str} (h : Q (.bl (ltKP (a, z) (b, u))) s) : RP Q E (ltKD (.tup [.int a, .str z]) (.tup [.int b, .str u]) s) := h
end
end Pl
set_option Elab.async false
set_option linter.all false
set_option maxRecDepth 100000
set_option maxHeartbeats 0
namespace G
open PySem PySem.Spec PyProof.Rows L2 Mp
section
variable {w : World} {K : Frag} {mg : Str → Option Value} {base : Heap}
theorem z0 (Z : FX K mg) : mg "ValueError" = none := Z.free 0 rfl
theorem z1 (Z : FX K mg) : OexB K (He.ga K "InvalidCost") "ValueError" "ValueError.__new__" "ValueError.__init__" mValue ∧ PySem.W.findIn K (.ref (He.ga K "InvalidCost")) "__init__" = some (some (.ref (He.ma K (He.ga K "InvalidCost") "__init__"))) ∧ PySem.W.typeIn K (.ref (He.ma K (He.ga K "InvalidCost") "__init__")) = some (.type "function") := Z.exc 1 bxValue rfl
theorem z2 (Z : FX K mg) : NoAttr K (He.ga K "InvalidCost") "letter" := Z.noat 2 rfl
theorem z3 (Z : FX K mg) : OexB K (He.ga K "InvalidLetters") "ValueError" "ValueError.__new__" "ValueError.__init__" mValue ∧ PySem.W.findIn K (.ref (He.ga K "InvalidLetters")) "__init__" = some (some (.ref (He.ma K (He.ga K "InvalidLetters") "__init__"))) ∧ PySem.W.typeIn K (.ref (He.ma K (He.ga K "InvalidLetters") "__init__")) = some (.type "function") := Z.exc 3 bxValue rfl
theorem z4 (Z : FX K mg) : NoAttr K (He.ga K "InvalidLetters") "value" := Z.noat 4 rfl
theorem z5 (Z : FX K mg) : OexB K (He.ga K "InvalidWord") "ValueError" "ValueError.__new__" "ValueError.__init__" mValue ∧ PySem.W.findIn K (.ref (He.ga K "InvalidWord")) "__init__" = some (some (.ref (He.ma K (He.ga K "InvalidWord") "__init__"))) ∧ PySem.W.typeIn K (.ref (He.ma K (He.ga K "InvalidWord") "__init__")) = some (.type "function") := Z.exc 5 bxValue rfl
theorem z6 (Z : FX K mg) : NoAttr K (He.ga K "InvalidWord") "value" := Z.noat 6 rfl
theorem z7 (Z : FX K mg) : mg "str" = none := Z.free 7 rfl
theorem z8 (Z : FX K mg) : mg "isinstance" = none := Z.free 8 rfl
theorem z9 (Z : FX K mg) : mg "len" = none := Z.free 9 rfl
theorem z10 (Z : FX K mg) : mg "all" = none := Z.free 10 rfl
theorem z11 (Z : FX K mg) : Cls K (He.ga K "Order") := Z.cls 11 rfl
theorem z12 (Z : FX K mg) : NoAttr K (He.ga K "Order") "own_letters" := Z.noat 12 rfl
theorem z13 (Z : FX K mg) : mg "is_word" = some (.ref (He.ga K "is_word")) := Z.glo 13 rfl
theorem z14 (Z : FX K mg) : ∃ t, mg "MAX_LETTERS" = some (.int 4 t) := Z.int 14 rfl
theorem z15 (Z : FX K mg) : ∃ t, mg "ALPHABET" = some (.str "abcdefghijklmnopqrstuvwxyz" t) := Z.str 15 rfl
theorem z16 (Z : FX K mg) : mg "range" = none := Z.free 16 rfl
theorem z17 (Z : FX K mg) : mg "int" = none := Z.free 17 rfl
theorem z18 (Z : FX K mg) : mg "bool" = none := Z.free 18 rfl
theorem z19 (Z : FX K mg) : mg "is_integer" = some (.ref (He.ga K "is_integer")) := Z.glo 19 rfl
theorem z20 (Z : FX K mg) : mg "are_letters" = some (.ref (He.ga K "are_letters")) := Z.glo 20 rfl
theorem z21 (Z : FX K mg) : mg "InvalidLetters" = some (.ref (He.ga K "InvalidLetters")) := Z.glo 21 rfl
theorem z22 (Z : FX K mg) : mg "sorted" = none := Z.free 22 rfl
theorem z23 (Z : FX K mg) : mg "is_letter" = some (.ref (He.ga K "is_letter")) := Z.glo 23 rfl
theorem z24 (Z : FX K mg) : ∃ t, mg "MAX_COST" = some (.int 9 t) := Z.int 24 rfl
theorem z25 (Z : FX K mg) : mg "is_between" = some (.ref (He.ga K "is_between")) := Z.glo 25 rfl
theorem z26 (Z : FX K mg) : mg "InvalidCost" = some (.ref (He.ga K "InvalidCost")) := Z.glo 26 rfl
theorem z27 (Z : FX K mg) : NoAttr K (He.ga K "Order") "own_costs" := Z.noat 27 rfl
theorem z28 (Z : FX K mg) : mg "sum" = none := Z.free 28 rfl
theorem z29 (Z : FX K mg) : Meth K (He.ga K "Order") "cost_of" (He.ma K (He.ga K "Order") "cost_of") := Z.meth 29 rfl
theorem z30 (Z : FX K mg) : Meth K (He.ga K "Order") "key" (He.ma K (He.ga K "Order") "key") := Z.meth 30 rfl
theorem z31 (Z : FX K mg) : mg "InvalidWord" = some (.ref (He.ga K "InvalidWord")) := Z.glo 31 rfl
theorem z32 (Z : FX K mg) : mg "need_word" = some (.ref (He.ga K "need_word")) := Z.glo 32 rfl
theorem z33 (Z : FX K mg) : Meth K (He.ga K "Order") "below" (He.ma K (He.ga K "Order") "below") := Z.meth 33 rfl
theorem z34 (Z : FX K mg) : mg "dict" = none := Z.free 34 rfl
theorem z35 (Z : FX K mg) : Mk K (He.ga K "Order") (He.ma K (He.ga K "Order") "__init__") := Z.mkr 35 rfl
theorem z36 (Z : FX K mg) : mg "list" = none := Z.free 36 rfl
theorem z37 (Z : FX K mg) : BMeth K (He.ga K "Order") "key" (He.ma K (He.ga K "Order") "key") := Z.bm 37 rfl
theorem z38 (Z : FX K mg) : mg "abs" = none := Z.free 38 rfl
theorem z39 (Z : FX K mg) : mg "_law_draw" = some (.ref (He.ga K "_law_draw")) := Z.glo 39 rfl
theorem z40 (Z : FX K mg) : mg "_law_pick" = some (.ref (He.ga K "_law_pick")) := Z.glo 40 rfl
theorem z41 (Z : FX K mg) : mg "_law_word" = some (.ref (He.ga K "_law_word")) := Z.glo 41 rfl
theorem z42 (Z : FX K mg) : mg "_law_long_word" = some (.ref (He.ga K "_law_long_word")) := Z.glo 42 rfl
theorem z43 (Z : FX K mg) : mg "_law_shuffled" = some (.ref (He.ga K "_law_shuffled")) := Z.glo 43 rfl
theorem z44 (Z : FX K mg) : mg "_law_letters" = some (.ref (He.ga K "_law_letters")) := Z.glo 44 rfl
theorem z45 (Z : FX K mg) : mg "_law_costs" = some (.ref (He.ga K "_law_costs")) := Z.glo 45 rfl
theorem z46 (Z : FX K mg) : ClX.CRead K (He.ga K "Order") (.type "type") := Z.cr 46 rfl
theorem z47 (Z : FX K mg) : ClX.CMet K (He.ga K "Order") (.type "type") "of_costs" (He.ma K (He.ga K "Order") "of_costs") (He5.wf K (He.ga K "Order") "classmethod" "of_costs") := Z.cm 47 rfl
theorem z48 (Z : FX K mg) : mg "Order" = some (.ref (He.ga K "Order")) := Z.glo 48 rfl
theorem z49 (Z : FX K mg) : mg "_law_cost_of" = some (.ref (He.ga K "_law_cost_of")) := Z.glo 49 rfl
theorem z50 (Z : FX K mg) : mg "_law_pen" = some (.ref (He.ga K "_law_pen")) := Z.glo 50 rfl
theorem z51 (Z : FX K mg) : mg "_law_lettered" = some (.ref (He.ga K "_law_lettered")) := Z.glo 51 rfl
theorem z52 (Z : FX K mg) : mg "_law_made_order" = some (.ref (He.ga K "_law_made_order")) := Z.glo 52 rfl
theorem z53 (Z : FX K mg) : mg "_law_beside" = some (.ref (He.ga K "_law_beside")) := Z.glo 53 rfl
theorem z54 (Z : FX K mg) : Meth K (He.ga K "Order") "cost" (He.ma K (He.ga K "Order") "cost") := Z.meth 54 rfl
theorem z55 (Z : FX K mg) : SysD K := Z.sys 55 rfl
theorem z56 (Z : FX K mg) : mg "repr" = none := Z.free 56 rfl
theorem z57 (Z : FX K mg) : Meth K (He.ga K "Order") "__contains__" (He.ma K (He.ga K "Order") "__contains__") := Z.meth 57 rfl
theorem z58 (Z : FX K mg) : Meth K (He.ga K "Order") "is_before" (He.ma K (He.ga K "Order") "is_before") := Z.meth 58 rfl
theorem z59 (Z : FX K mg) : mg "_law_rank" = some (.ref (He.ga K "_law_rank")) := Z.glo 59 rfl
theorem z60 (Z : FX K mg) : Meth K (He.ga K "Order") "sorted_words" (He.ma K (He.ga K "Order") "sorted_words") := Z.meth 60 rfl
theorem z61 (Z : FX K mg) : mg "_law_odd" = some (.ref (He.ga K "_law_odd")) := Z.glo 61 rfl
theorem z62 (Z : FX K mg) : mg "_law_is_word" = some (.ref (He.ga K "_law_is_word")) := Z.glo 62 rfl
theorem z64 (Z : FX K mg) : IsiOk K it0 := Z.isi 64 rfl
theorem z_isi (Z : FX K mg) : IsiOk K it0 := z64 Z
theorem x_InvalidCost (Z : FX K mg) : ∃ fd, FnOk PP w K mg base (L2.CX PP w) 1 (He.ma K (He.ga K "InvalidCost") "__init__") fd ["self", "letter"] (spI1 (He.ga K "InvalidCost") "letter") ∧ Binds K fd ["self", "letter"] [] := by
  obtain ⟨fd, F⟩ := Z.df 0 (d := d_InvalidCost___init__) rfl rfl
  exact ⟨fd, fn_init1 F ⟨rfl, rfl, rfl, by decide +kernel, rfl, by decide +kernel, by decide +kernel⟩ rfl rfl (by decide) (by decide) (z0 Z) ((z1 Z)).1 (z2 Z), F.bindsN (ps := ["self", "letter"]) fun _ _ _ _ _ _ us hl => match us, hl with | [_, _], _ => rfl⟩
theorem x_InvalidLetters (Z : FX K mg) : ∃ fd, FnOk PP w K mg base (L2.CX PP w) 1 (He.ma K (He.ga K "InvalidLetters") "__init__") fd ["self", "value"] (spI1 (He.ga K "InvalidLetters") "value") ∧ Binds K fd ["self", "value"] [] := by
  obtain ⟨fd, F⟩ := Z.df 1 (d := d_InvalidLetters___init__) rfl rfl
  exact ⟨fd, fn_init1 F ⟨rfl, rfl, rfl, by decide +kernel, rfl, by decide +kernel, by decide +kernel⟩ rfl rfl (by decide) (by decide) (z0 Z) ((z3 Z)).1 (z4 Z), F.bindsN (ps := ["self", "value"]) fun _ _ _ _ _ _ us hl => match us, hl with | [_, _], _ => rfl⟩
theorem x_InvalidWord (Z : FX K mg) : ∃ fd, FnOk PP w K mg base (L2.CX PP w) 1 (He.ma K (He.ga K "InvalidWord") "__init__") fd ["self", "value"] (spI1 (He.ga K "InvalidWord") "value") ∧ Binds K fd ["self", "value"] [] := by
  obtain ⟨fd, F⟩ := Z.df 2 (d := d_InvalidWord___init__) rfl rfl
  exact ⟨fd, fn_init1 F ⟨rfl, rfl, rfl, by decide +kernel, rfl, by decide +kernel, by decide +kernel⟩ rfl rfl (by decide) (by decide) (z0 Z) ((z5 Z)).1 (z6 Z), F.bindsN (ps := ["self", "value"]) fun _ _ _ _ _ _ us hl => match us, hl with | [_, _], _ => rfl⟩
noncomputable def b_is_word : DS := seqS (ifS (orT (notT (truM (argM (isiD it0) (consA (vM 1) (consA (cM (.ty "str")) (nilA)))))) (blM (binM gtI (argM (lenD) (consA (vM 1) (nilA))) (vM 2)))) (retS (cM (.bl false))) (skipS)) (retS (argM (allD) (consA (lcM false (seqI (vM 1)) (nameG 3) (yesM) ((binM (inD false) (vM 3) (vM 0))) [3]) (nilA))))
noncomputable def m_is_word : DF := bodyM 3 [.int 160] 4 b_is_word
theorem c_is_word (Z : FX K mg) {f : Addr} : BodyD PP w K mg base ["letters", "value", "most", "letter"] "is_word" (defScope s_is_word) f 0 (defBody s_is_word) b_is_word := by
  intro cdv A outer s H E hr
  have nd : (["letters", "value", "most", "letter"] : List Str).Nodup := by decide +kernel
  have tk : Takes (cxOf (L2.CX PP w) PP w K mg base ["letters", "value", "most", "letter"] "is_word" (defScope s_is_word) f cdv A outer s H E) (fun c d _ H' => E c d H') := takes_of rfl rfl rfl rfl
  have hp := passes_of (X := cxOf (L2.CX PP w) PP w K mg base ["letters", "value", "most", "letter"] "is_word" (defScope s_is_word) f cdv A outer s H E) rfl
  have hu := hr.rm.units
  have hu1 : _ + 1 < cLine := Nat.lt_of_le_of_lt (Nat.add_le_add_left (by decide : 1 ≤ 64) _) hu
  exact (s_cons (s_if (PW.pt (w_or (t_not (t_truth (e_callB call_isi (v_isi (z_isi Z)) rfl (z8 Z) (by decide +kernel) (a_cons (ev 1) (a_cons (e_ty (n := "str") rfl (z7 Z) (by decide +kernel)) a_nil))))) (w_or1 (t_gt (e_callB call_len v_len rfl (z9 Z) (by decide +kernel) (a_cons (ev 1) a_nil)) (ev 2))))) (s_one (s_ret e_bl)) s_nil)
    (s_one (s_ret (e_callB (cr_all rfl) v_all rfl (z10 Z) (by decide +kernel) (a_cons (e_lc false rfl nd (i_seq (ev 1)) (own := ([("letter", 3)] : List (Str × Nat))) (show BlkOk ["letters", "value", "most", "letter"] (defScope s_is_word) _ _ from ⟨rfl, by decide +kernel, by decide +kernel, by decide +kernel, by decide +kernel⟩) (fun _ _ _ _ _ => (gw_name nd rfl (by first | exact .inl rfl | exact .inr rfl) (by decide))) (fun _ _ _ _ _ => ts_nil) (fun _ _ _ _ _ => (e_in hu1 (ev 3) (ev 0)))) a_nil)))))
theorem f_is_word (Z : FX K mg) : FnD PP w K mg base 1 ((fun K => He.ga K "is_word") K) m_is_word := by
  obtain ⟨fd, F⟩ := Z.df 3 (d := d_is_word) rfl rfl
  exact fn_ok (ps := ["letters", "value", "most"]) (dd := [.int 160]) F ⟨rfl, rfl, rfl, by decide +kernel, rfl, by decide +kernel, by decide +kernel⟩ (fun _ => .cons (.int 160) (.nil)) (fun j hj => match j, hj with
    | 0, _ => F.binds1 2 0 (fun h => nomatch h) rfl (fun _ _ _ _ _ _ _ us its h1 h2 => match us, h1, its, h2 with | [_, _], _, [_], _ => ⟨_, rfl, rfl⟩)
    | 1, _ => F.binds1 3 1 (fun h => nomatch h) rfl (fun _ _ _ _ _ _ _ us its h1 h2 => match us, h1, its, h2 with | [_, _, _], _, [_], _ => ⟨_, rfl, rfl⟩)
    | j + 2, h => absurd h (by show ¬ (j + 2 ≤ 1); omega)) (c_is_word Z)
theorem k_is_word (Z : FX K mg) : PySem.W.keepIn K (.ref ((fun K => He.ga K "is_word") K)) = true := Z.keep 3 (d := d_is_word) rfl
noncomputable def b_Order___contains__ : DS := retS (callM m_is_word (consA (attrM [("Order", .fld)] "own_letters" (vM 0)) (consA (vM 1) (nilA))))
noncomputable def m_Order___contains__ : DF := bodyM 2 [] 2 b_Order___contains__
theorem c_Order___contains__ (Z : FX K mg) {f : Addr} : BodyD PP w K mg base ["self", "value"] "Order.__contains__" (defScope s_Order___contains__) f 1 (defBody s_Order___contains__) b_Order___contains__ := by
  intro cdv A outer s H E hr
  have nd : (["self", "value"] : List Str).Nodup := by decide +kernel
  have tk : Takes (cxOf (L2.CX PP w) PP w K mg base ["self", "value"] "Order.__contains__" (defScope s_Order___contains__) f cdv A outer s H E) (fun c d _ H' => E c d H') := takes_of rfl rfl rfl rfl
  have hp := passes_of (X := cxOf (L2.CX PP w) PP w K mg base ["self", "value"] "Order.__contains__" (defScope s_Order___contains__) f cdv A outer s H E) rfl
  have hu := hr.rm.units
  have hu1 : _ + 1 < cLine := Nat.lt_of_le_of_lt (Nat.add_le_add_left (by decide : 1 ≤ 64) _) hu
  exact (s_one (s_ret (e_call tk (f_is_word Z) (hr.mono (Nat.le_of_ble_eq_true rfl) : Rm 1 _) rfl (z13 Z) (k_is_word Z) (a_cons (e_attr (.fld (z11 Z) (z12 Z) .nil) (ev 0)) (a_cons (ev 1) a_nil)))))
theorem f_Order___contains__ (Z : FX K mg) : FnD PP w K mg base 2 ((fun K => He.ma K (He.ga K "Order") "__contains__") K) m_Order___contains__ := by
  obtain ⟨fd, F0⟩ := Z.df 4 (d := d_Order___contains__) rfl rfl
  have F : FunD K "__contains__" "Order.__contains__" (defArgs s_Order___contains__) (defBody s_Order___contains__) (defScope s_Order___contains__) [] [] ((fun K => He.ma K (He.ga K "Order") "__contains__") K) fd := cast (by kernel_rfl) F0
  exact fn_ok0 (x := "__contains__") (qual := "Order.__contains__") (params := defArgs s_Order___contains__) (body := defBody s_Order___contains__) (scope := defScope s_Order___contains__) (kws := []) (N := ["self", "value"]) (ps := ["self", "value"]) (k := 1) (b := b_Order___contains__) F ⟨by kernel_rfl, by kernel_rfl, by kernel_rfl, by decide +kernel, by kernel_rfl, by decide +kernel, by decide +kernel⟩ (fun _ _ _ _ _ _ us hl => match us, hl with | [_, _], _ => by kernel_rfl) (c_Order___contains__ Z)
theorem f_Order___contains___at_Order (Z : FX K mg) : FnD PP w K mg base 2 (He.ma K (He.ga K "Order") "__contains__") m_Order___contains__ := f_Order___contains__ Z
noncomputable def b_are_letters : DS := seqS (ifS (orT (notT (truM (argM (isiD it0) (consA (vM 0) (consA (cM (.ty "str")) (nilA)))))) (notT (blM (chainM leI leI (cM (.int 1)) (argM (lenD) (consA (vM 0) (nilA))) (cM (.int 4)))))) (retS (cM (.bl false))) (skipS)) (seqS (ifS (notT (truM (argM (allD) (consA (lcM false (seqI (vM 0)) (nameG 2) (yesM) ((binM (inD false) (vM 2) (cM (.str "abcdefghijklmnopqrstuvwxyz")))) [2]) (nilA))))) (retS (cM (.bl false))) (skipS)) (retS (argM (allD) (consA (lcM false (argI rangeD1 (consA (binM subD (argM (lenD) (consA (vM 0) (nilA))) (cM (.int 1))) (nilA))) (nameG 1) (yesM) ((binM ltI (binM idxD (vM 0) (vM 1)) (binM idxD (vM 0) (binM addD (vM 1) (cM (.int 1)))))) [1]) (nilA)))))
noncomputable def m_are_letters : DF := bodyM 1 [] 3 b_are_letters
theorem c_are_letters (Z : FX K mg) {f : Addr} : BodyD PP w K mg base ["value", "place", "letter"] "are_letters" (defScope s_are_letters) f 0 (defBody s_are_letters) b_are_letters := by
  intro cdv A outer s H E hr
  have nd : (["value", "place", "letter"] : List Str).Nodup := by decide +kernel
  have tk : Takes (cxOf (L2.CX PP w) PP w K mg base ["value", "place", "letter"] "are_letters" (defScope s_are_letters) f cdv A outer s H E) (fun c d _ H' => E c d H') := takes_of rfl rfl rfl rfl
  have hp := passes_of (X := cxOf (L2.CX PP w) PP w K mg base ["value", "place", "letter"] "are_letters" (defScope s_are_letters) f cdv A outer s H E) rfl
  have hu := hr.rm.units
  have hu1 : _ + 1 < cLine := Nat.lt_of_le_of_lt (Nat.add_le_add_left (by decide : 1 ≤ 64) _) hu
  exact (s_cons (s_if (PW.pt (w_or (t_not (t_truth (e_callB call_isi (v_isi (z_isi Z)) rfl (z8 Z) (by decide +kernel) (a_cons (ev 0) (a_cons (e_ty (n := "str") rfl (z7 Z) (by decide +kernel)) a_nil))))) (w_or1 (t_not (t_chain o_le o_le v_ord v_ord e_int (e_callB call_len v_len rfl (z9 Z) (by decide +kernel) (a_cons (ev 0) a_nil)) (e_gint rfl (z14 Z))))))) (s_one (s_ret e_bl)) s_nil)
    (s_cons (s_if (t_not (t_truth (e_callB (cr_all rfl) v_all rfl (z10 Z) (by decide +kernel) (a_cons (e_lc false rfl nd (i_seq (ev 0)) (own := ([("letter", 2)] : List (Str × Nat))) (show BlkOk ["value", "place", "letter"] (defScope s_are_letters) _ _ from ⟨rfl, by decide +kernel, by decide +kernel, by decide +kernel, by decide +kernel⟩) (fun _ _ _ _ _ => (gw_name nd rfl (by first | exact .inl rfl | exact .inr rfl) (by decide))) (fun _ _ _ _ _ => ts_nil) (fun _ _ _ _ _ => (e_in hu1 (ev 2) (e_gstr rfl (z15 Z))))) a_nil)))) (s_one (s_ret e_bl)) s_nil)
    (s_one (s_ret (e_callB (cr_all rfl) v_all rfl (z10 Z) (by decide +kernel) (a_cons (e_lc false rfl nd (i_range1 rfl (z16 Z) (a_cons (e_sub (e_callB call_len v_len rfl (z9 Z) (by decide +kernel) (a_cons (ev 0) a_nil)) e_int) a_nil)) (own := ([("place", 1)] : List (Str × Nat))) (show BlkOk ["value", "place", "letter"] (defScope s_are_letters) _ _ from ⟨rfl, by decide +kernel, by decide +kernel, by decide +kernel, by decide +kernel⟩) (fun _ _ _ _ _ => (gw_name nd rfl (by first | exact .inl rfl | exact .inr rfl) (by decide))) (fun _ _ _ _ _ => ts_nil) (fun _ _ _ _ _ => (e_lt (e_idx hu1 (ev 0) (ev 1)) (e_idx hu1 (ev 0) (e_add (ev 1) e_int))))) a_nil))))))
theorem f_are_letters (Z : FX K mg) : FnD PP w K mg base 1 ((fun K => He.ga K "are_letters") K) m_are_letters := by
  obtain ⟨fd, F0⟩ := Z.df 5 (d := d_are_letters) rfl rfl
  have F : FunD K "are_letters" "are_letters" (defArgs s_are_letters) (defBody s_are_letters) (defScope s_are_letters) [] [] ((fun K => He.ga K "are_letters") K) fd := cast (by kernel_rfl) F0
  exact fn_ok0 (x := "are_letters") (qual := "are_letters") (params := defArgs s_are_letters) (body := defBody s_are_letters) (scope := defScope s_are_letters) (kws := []) (N := ["value", "place", "letter"]) (ps := ["value"]) (k := 0) (b := b_are_letters) F ⟨by kernel_rfl, by kernel_rfl, by kernel_rfl, by decide +kernel, by kernel_rfl, by decide +kernel, by decide +kernel⟩ (fun _ _ _ _ _ _ us hl => match us, hl with | [_], _ => by kernel_rfl) (c_are_letters Z)
theorem k_are_letters (Z : FX K mg) : PySem.W.keepIn K (.ref ((fun K => He.ga K "are_letters") K)) = true := Z.keep 5 (d := d_are_letters) rfl
noncomputable def b_is_integer : DS := retS (andV (argM (isiD it0) (consA (vM 0) (consA (cM (.ty "int")) (nilA)))) (notV (argM (isiD it0) (consA (vM 0) (consA (cM (.ty "bool")) (nilA))))))
noncomputable def m_is_integer : DF := bodyM 1 [] 1 b_is_integer
theorem c_is_integer (Z : FX K mg) {f : Addr} : BodyD PP w K mg base ["value"] "is_integer" (defScope s_is_integer) f 0 (defBody s_is_integer) b_is_integer := by
  intro cdv A outer s H E hr
  have nd : (["value"] : List Str).Nodup := by decide +kernel
  have tk : Takes (cxOf (L2.CX PP w) PP w K mg base ["value"] "is_integer" (defScope s_is_integer) f cdv A outer s H E) (fun c d _ H' => E c d H') := takes_of rfl rfl rfl rfl
  have hp := passes_of (X := cxOf (L2.CX PP w) PP w K mg base ["value"] "is_integer" (defScope s_is_integer) f cdv A outer s H E) rfl
  have hu := hr.rm.units
  have hu1 : _ + 1 < cLine := Nat.lt_of_le_of_lt (Nat.add_le_add_left (by decide : 1 ≤ 64) _) hu
  exact (s_one (s_ret (e_and (e_callB call_isi (v_isi (z_isi Z)) rfl (z8 Z) (by decide +kernel) (a_cons (ev 0) (a_cons (e_ty (n := "int") rfl (z17 Z) (by decide +kernel)) a_nil))) (e_one (e_not (e_callB call_isi (v_isi (z_isi Z)) rfl (z8 Z) (by decide +kernel) (a_cons (ev 0) (a_cons (e_ty (n := "bool") rfl (z18 Z) (by decide +kernel)) a_nil))))))))
theorem f_is_integer (Z : FX K mg) : FnD PP w K mg base 1 ((fun K => He.ga K "is_integer") K) m_is_integer := by
  obtain ⟨fd, F0⟩ := Z.df 6 (d := d_is_integer) rfl rfl
  have F : FunD K "is_integer" "is_integer" (defArgs s_is_integer) (defBody s_is_integer) (defScope s_is_integer) [] [] ((fun K => He.ga K "is_integer") K) fd := cast (by kernel_rfl) F0
  exact fn_ok0 (x := "is_integer") (qual := "is_integer") (params := defArgs s_is_integer) (body := defBody s_is_integer) (scope := defScope s_is_integer) (kws := []) (N := ["value"]) (ps := ["value"]) (k := 0) (b := b_is_integer) F ⟨by kernel_rfl, by kernel_rfl, by kernel_rfl, by decide +kernel, by kernel_rfl, by decide +kernel, by decide +kernel⟩ (fun _ _ _ _ _ _ us hl => match us, hl with | [_], _ => by kernel_rfl) (c_is_integer Z)
theorem k_is_integer (Z : FX K mg) : PySem.W.keepIn K (.ref ((fun K => He.ga K "is_integer") K)) = true := Z.keep 6 (d := d_is_integer) rfl
noncomputable def b_is_between : DS := retS (andV (callM m_is_integer (consA (vM 0) (nilA))) ((chainM leI leI (vM 1) (vM 0) (vM 2))))
noncomputable def m_is_between : DF := bodyM 3 [] 3 b_is_between
theorem c_is_between (Z : FX K mg) {f : Addr} : BodyD PP w K mg base ["value", "least", "most"] "is_between" (defScope s_is_between) f 1 (defBody s_is_between) b_is_between := by
  intro cdv A outer s H E hr
  have nd : (["value", "least", "most"] : List Str).Nodup := by decide +kernel
  have tk : Takes (cxOf (L2.CX PP w) PP w K mg base ["value", "least", "most"] "is_between" (defScope s_is_between) f cdv A outer s H E) (fun c d _ H' => E c d H') := takes_of rfl rfl rfl rfl
  have hp := passes_of (X := cxOf (L2.CX PP w) PP w K mg base ["value", "least", "most"] "is_between" (defScope s_is_between) f cdv A outer s H E) rfl
  have hu := hr.rm.units
  have hu1 : _ + 1 < cLine := Nat.lt_of_le_of_lt (Nat.add_le_add_left (by decide : 1 ≤ 64) _) hu
  exact (s_one (s_ret (e_and (e_call tk (f_is_integer Z) (hr.mono (Nat.le_of_ble_eq_true rfl) : Rm 1 _) rfl (z19 Z) (k_is_integer Z) (a_cons (ev 0) a_nil)) (e_one (e_chain o_le o_le v_ord v_ord (ev 1) (ev 0) (ev 2))))))
theorem f_is_between (Z : FX K mg) : FnD PP w K mg base 2 ((fun K => He.ga K "is_between") K) m_is_between := by
  obtain ⟨fd, F0⟩ := Z.df 7 (d := d_is_between) rfl rfl
  have F : FunD K "is_between" "is_between" (defArgs s_is_between) (defBody s_is_between) (defScope s_is_between) [] [] ((fun K => He.ga K "is_between") K) fd := cast (by kernel_rfl) F0
  exact fn_ok0 (x := "is_between") (qual := "is_between") (params := defArgs s_is_between) (body := defBody s_is_between) (scope := defScope s_is_between) (kws := []) (N := ["value", "least", "most"]) (ps := ["value", "least", "most"]) (k := 1) (b := b_is_between) F ⟨by kernel_rfl, by kernel_rfl, by kernel_rfl, by decide +kernel, by kernel_rfl, by decide +kernel, by decide +kernel⟩ (fun _ _ _ _ _ _ us hl => match us, hl with | [_, _, _], _ => by kernel_rfl) (c_is_between Z)
theorem k_is_between (Z : FX K mg) : PySem.W.keepIn K (.ref ((fun K => He.ga K "is_between") K)) = true := Z.keep 7 (d := d_is_between) rfl
noncomputable def b_is_letter : DS := retS (andV (argM (isiD it0) (consA (vM 0) (consA (cM (.ty "str")) (nilA)))) (andV ((binM eqD (argM (lenD) (consA (vM 0) (nilA))) (cM (.int 1)))) ((binM (inD false) (vM 0) (cM (.str "abcdefghijklmnopqrstuvwxyz"))))))
noncomputable def m_is_letter : DF := bodyM 1 [] 1 b_is_letter
theorem c_is_letter (Z : FX K mg) {f : Addr} : BodyD PP w K mg base ["value"] "is_letter" (defScope s_is_letter) f 0 (defBody s_is_letter) b_is_letter := by
  intro cdv A outer s H E hr
  have nd : (["value"] : List Str).Nodup := by decide +kernel
  have tk : Takes (cxOf (L2.CX PP w) PP w K mg base ["value"] "is_letter" (defScope s_is_letter) f cdv A outer s H E) (fun c d _ H' => E c d H') := takes_of rfl rfl rfl rfl
  have hp := passes_of (X := cxOf (L2.CX PP w) PP w K mg base ["value"] "is_letter" (defScope s_is_letter) f cdv A outer s H E) rfl
  have hu := hr.rm.units
  have hu1 : _ + 1 < cLine := Nat.lt_of_le_of_lt (Nat.add_le_add_left (by decide : 1 ≤ 64) _) hu
  exact (s_one (s_ret (e_and (e_callB call_isi (v_isi (z_isi Z)) rfl (z8 Z) (by decide +kernel) (a_cons (ev 0) (a_cons (e_ty (n := "str") rfl (z7 Z) (by decide +kernel)) a_nil))) (e_and (e_eq hu (e_callB call_len v_len rfl (z9 Z) (by decide +kernel) (a_cons (ev 0) a_nil)) e_int) (e_one (e_in hu1 (ev 0) (e_gstr rfl (z15 Z))))))))
theorem f_is_letter (Z : FX K mg) : FnD PP w K mg base 1 ((fun K => He.ga K "is_letter") K) m_is_letter := by
  obtain ⟨fd, F0⟩ := Z.df 8 (d := d_is_letter) rfl rfl
  have F : FunD K "is_letter" "is_letter" (defArgs s_is_letter) (defBody s_is_letter) (defScope s_is_letter) [] [] ((fun K => He.ga K "is_letter") K) fd := cast (by kernel_rfl) F0
  exact fn_ok0 (x := "is_letter") (qual := "is_letter") (params := defArgs s_is_letter) (body := defBody s_is_letter) (scope := defScope s_is_letter) (kws := []) (N := ["value"]) (ps := ["value"]) (k := 0) (b := b_is_letter) F ⟨by kernel_rfl, by kernel_rfl, by kernel_rfl, by decide +kernel, by kernel_rfl, by decide +kernel, by decide +kernel⟩ (fun _ _ _ _ _ _ us hl => match us, hl with | [_], _ => by kernel_rfl) (c_is_letter Z)
theorem k_is_letter (Z : FX K mg) : PySem.W.keepIn K (.ref ((fun K => He.ga K "is_letter") K)) = true := Z.keep 8 (d := d_is_letter) rfl
noncomputable def b_Order___init__ : DS := seqS (ifS (notT (truM (callM m_are_letters (consA (vM 1) (nilA))))) (raiseS "InvalidLetters" "value" (consA (vM 1) (nilA))) (skipS)) (seqS (forS (seqI (argM sortedD (consA (vM 2) (nilA)))) (nameG 3) (ifS (orT (notT (truM (callM m_is_letter (consA (vM 3) (nilA))))) (orT (blM (binM (inD true) (vM 3) (vM 1))) (notT (truM (callM m_is_between (consA (binM idxD (vM 2) (vM 3)) (consA (cM (.int 1)) (consA (cM (.int 9)) (nilA))))))))) (raiseS "InvalidCost" "letter" (consA (vM 3) (nilA))) (skipS))) (seqS (fldS ["Order"] "own_letters" (vM 0) (vM 1)) (fldS ["Order"] "own_costs" (vM 0) (dcM (seqI (vM 1)) (nameG 3) (yesM) (vM 3) (getM (vM 2) (vM 3) (cM (.int 1))) [3]))))
noncomputable def m_Order___init__ : DF := bodyK ["self", "letters"] 4 b_Order___init__
theorem c_Order___init__ (Z : FX K mg) {f : Addr} : BodyD PP w K mg base ["self", "letters", "costs", "letter"] "Order.__init__" (defScope s_Order___init__) f 2 (defBody s_Order___init__) b_Order___init__ := by
  intro cdv A outer s H E hr
  have nd : (["self", "letters", "costs", "letter"] : List Str).Nodup := by decide +kernel
  have tk : Takes (cxOf (L2.CX PP w) PP w K mg base ["self", "letters", "costs", "letter"] "Order.__init__" (defScope s_Order___init__) f cdv A outer s H E) (fun c d _ H' => E c d H') := takes_of rfl rfl rfl rfl
  have hp := passes_of (X := cxOf (L2.CX PP w) PP w K mg base ["self", "letters", "costs", "letter"] "Order.__init__" (defScope s_Order___init__) f cdv A outer s H E) rfl
  have hu := hr.rm.units
  have hu1 : _ + 1 < cLine := Nat.lt_of_le_of_lt (Nat.add_le_add_left (by decide : 1 ≤ 64) _) hu
  exact (s_cons (s_if (t_not (t_truth (e_call tk (f_are_letters Z) (hr.mono (Nat.le_of_ble_eq_true rfl) : Rm 1 _) rfl (z20 Z) (k_are_letters Z) (a_cons (ev 1) a_nil)))) (s_one (raise_row1 (x_InvalidLetters Z) fun fd h => s_raise1 rfl tk ⟨((z3 Z)).1, ((z3 Z)).2.1, ((z3 Z)).2.2⟩ h.1 ((hr.mono (Nat.le_of_ble_eq_true rfl) : Rm 2 _)).rm h.2 rfl (z21 Z) (a_cons (ev 1) a_nil))) s_nil)
    (s_cons (s_for hp rfl (i_seq (e_callB (cr_sortedAll rfl) v_sorted rfl (z22 Z) (by decide +kernel) (a_cons (ev 2) a_nil))) (g_name nd rfl (by first | exact .inl rfl | exact .inr rfl)) (s_one (s_if (PW.pt (w_or (t_not (t_truth (e_call tk (f_is_letter Z) (hr.mono (Nat.le_of_ble_eq_true rfl) : Rm 1 _) rfl (z23 Z) (k_is_letter Z) (a_cons (ev 3) a_nil)))) (w_or (t_notIn hu1 (ev 3) (ev 1)) (w_or1 (t_not (t_truth (e_call tk (f_is_between Z) (hr.mono (Nat.le_of_ble_eq_true rfl) : Rm 2 _) rfl (z25 Z) (k_is_between Z) (a_cons (e_idx hu1 (ev 2) (ev 3)) (a_cons e_int (a_cons (e_gint rfl (z24 Z)) a_nil)))))))))) (s_one (raise_row1 (x_InvalidCost Z) fun fd h => s_raise1 rfl tk ⟨((z1 Z)).1, ((z1 Z)).2.1, ((z1 Z)).2.2⟩ h.1 ((hr.mono (Nat.le_of_ble_eq_true rfl) : Rm 2 _)).rm h.2 rfl (z26 Z) (a_cons (ev 3) a_nil))) s_nil)))
    (s_cons (s_fld (List.forall_mem_cons.2 ⟨⟨(z11 Z), (z12 Z)⟩, (List.forall_mem_nil _)⟩) (ev 0) (ev 1))
    (s_one (s_fld (List.forall_mem_cons.2 ⟨⟨(z11 Z), (z27 Z)⟩, (List.forall_mem_nil _)⟩) (ev 0) (e_dc rfl nd (i_seq (ev 1)) (own := ([("letter", 3)] : List (Str × Nat))) (show BlkOk ["self", "letters", "costs", "letter"] (defScope s_Order___init__) _ _ from ⟨rfl, by decide +kernel, by decide +kernel, by decide +kernel, by decide +kernel⟩) (fun _ _ _ _ _ => (gw_name nd rfl (by first | exact .inl rfl | exact .inr rfl) (by decide))) (fun _ _ _ _ _ => ts_nil) (fun _ _ _ _ _ => (ev 3)) (fun _ _ _ _ _ => (e_get2 hu1 (ev 2) (ev 3) e_int ⟨rfl, rfl, rfl, rfl⟩))))))))
theorem f_Order___init__ (Z : FX K mg) : FnDK PP w K mg base 3 ((fun K => He.ma K (He.ga K "Order") "__init__") K) m_Order___init__ := by
  obtain ⟨fd, F⟩ := Z.df 9 (d := d_Order___init__) rfl rfl
  exact fn_okK (ps := ["self", "letters"]) (pk := "costs") F ⟨rfl, rfl, rfl, by decide +kernel, rfl, by decide +kernel, by decide +kernel⟩ rfl rfl rfl rfl rfl (by decide) (c_Order___init__ Z)
theorem f_Order___init___at_Order (Z : FX K mg) : FnDK PP w K mg base 3 (He.ma K (He.ga K "Order") "__init__") m_Order___init__ := f_Order___init__ Z
noncomputable def b_Order_cost_of : DS := retS (argM (sumD) (consA (lcM false (seqI (vM 1)) (nameG 2) (yesM) (binM idxD (attrM [("Order", .fld)] "own_costs" (vM 0)) (vM 2)) [2]) (nilA)))
noncomputable def m_Order_cost_of : DF := bodyM 2 [] 3 b_Order_cost_of
theorem c_Order_cost_of (Z : FX K mg) {f : Addr} : BodyD PP w K mg base ["self", "word", "letter"] "Order.cost_of" (defScope s_Order_cost_of) f 0 (defBody s_Order_cost_of) b_Order_cost_of := by
  intro cdv A outer s H E hr
  have nd : (["self", "word", "letter"] : List Str).Nodup := by decide +kernel
  have tk : Takes (cxOf (L2.CX PP w) PP w K mg base ["self", "word", "letter"] "Order.cost_of" (defScope s_Order_cost_of) f cdv A outer s H E) (fun c d _ H' => E c d H') := takes_of rfl rfl rfl rfl
  have hp := passes_of (X := cxOf (L2.CX PP w) PP w K mg base ["self", "word", "letter"] "Order.cost_of" (defScope s_Order_cost_of) f cdv A outer s H E) rfl
  have hu := hr.rm.units
  have hu1 : _ + 1 < cLine := Nat.lt_of_le_of_lt (Nat.add_le_add_left (by decide : 1 ≤ 64) _) hu
  exact (s_one (s_ret (e_callB (cr_sum rfl) v_sum rfl (z28 Z) (by decide +kernel) (a_cons (e_lc false rfl nd (i_seq (ev 1)) (own := ([("letter", 2)] : List (Str × Nat))) (show BlkOk ["self", "word", "letter"] (defScope s_Order_cost_of) _ _ from ⟨rfl, by decide +kernel, by decide +kernel, by decide +kernel, by decide +kernel⟩) (fun _ _ _ _ _ => (gw_name nd rfl (by first | exact .inl rfl | exact .inr rfl) (by decide))) (fun _ _ _ _ _ => ts_nil) (fun _ _ _ _ _ => (e_idx hu1 (e_attr (.fld (z11 Z) (z27 Z) .nil) (ev 0)) (ev 2)))) a_nil))))
theorem f_Order_cost_of (Z : FX K mg) : FnD PP w K mg base 1 ((fun K => He.ma K (He.ga K "Order") "cost_of") K) m_Order_cost_of := by
  obtain ⟨fd, F0⟩ := Z.df 10 (d := d_Order_cost_of) rfl rfl
  have F : FunD K "cost_of" "Order.cost_of" (defArgs s_Order_cost_of) (defBody s_Order_cost_of) (defScope s_Order_cost_of) [] [] ((fun K => He.ma K (He.ga K "Order") "cost_of") K) fd := cast (by kernel_rfl) F0
  exact fn_ok0 (x := "cost_of") (qual := "Order.cost_of") (params := defArgs s_Order_cost_of) (body := defBody s_Order_cost_of) (scope := defScope s_Order_cost_of) (kws := []) (N := ["self", "word", "letter"]) (ps := ["self", "word"]) (k := 0) (b := b_Order_cost_of) F ⟨by kernel_rfl, by kernel_rfl, by kernel_rfl, by decide +kernel, by kernel_rfl, by decide +kernel, by decide +kernel⟩ (fun _ _ _ _ _ _ us hl => match us, hl with | [_, _], _ => by kernel_rfl) (c_Order_cost_of Z)
theorem f_Order_cost_of_at_Order (Z : FX K mg) : FnD PP w K mg base 1 (He.ma K (He.ga K "Order") "cost_of") m_Order_cost_of := f_Order_cost_of Z
noncomputable def b_Order_key : DS := retS (argM tupD (consA (methM [("Order", m_Order_cost_of)] "cost_of" (vM 0) (consA (vM 1) (nilA))) (consA (vM 1) (nilA))))
noncomputable def m_Order_key : DF := bodyM 2 [] 2 b_Order_key
theorem c_Order_key (Z : FX K mg) {f : Addr} : BodyD PP w K mg base ["self", "word"] "Order.key" (defScope s_Order_key) f 1 (defBody s_Order_key) b_Order_key := by
  intro cdv A outer s H E hr
  have nd : (["self", "word"] : List Str).Nodup := by decide +kernel
  have tk : Takes (cxOf (L2.CX PP w) PP w K mg base ["self", "word"] "Order.key" (defScope s_Order_key) f cdv A outer s H E) (fun c d _ H' => E c d H') := takes_of rfl rfl rfl rfl
  have hp := passes_of (X := cxOf (L2.CX PP w) PP w K mg base ["self", "word"] "Order.key" (defScope s_Order_key) f cdv A outer s H E) rfl
  have hu := hr.rm.units
  have hu1 : _ + 1 < cLine := Nat.lt_of_le_of_lt (Nat.add_le_add_left (by decide : 1 ≤ 64) _) hu
  exact (s_one (s_ret (e_tup (a_cons (e_meth tk (.cons ⟨(z11 Z), _, 1, (z29 Z), f_Order_cost_of_at_Order Z, (hr.mono (Nat.le_of_ble_eq_true rfl) : Rm 1 _)⟩ .nil) (ev 0) (a_cons (ev 1) a_nil)) (a_cons (ev 1) a_nil)))))
theorem f_Order_key (Z : FX K mg) : FnD PP w K mg base 2 ((fun K => He.ma K (He.ga K "Order") "key") K) m_Order_key := by
  obtain ⟨fd, F0⟩ := Z.df 11 (d := d_Order_key) rfl rfl
  have F : FunD K "key" "Order.key" (defArgs s_Order_key) (defBody s_Order_key) (defScope s_Order_key) [] [] ((fun K => He.ma K (He.ga K "Order") "key") K) fd := cast (by kernel_rfl) F0
  exact fn_ok0 (x := "key") (qual := "Order.key") (params := defArgs s_Order_key) (body := defBody s_Order_key) (scope := defScope s_Order_key) (kws := []) (N := ["self", "word"]) (ps := ["self", "word"]) (k := 1) (b := b_Order_key) F ⟨by kernel_rfl, by kernel_rfl, by kernel_rfl, by decide +kernel, by kernel_rfl, by decide +kernel, by decide +kernel⟩ (fun _ _ _ _ _ _ us hl => match us, hl with | [_, _], _ => by kernel_rfl) (c_Order_key Z)
theorem f_Order_key_at_Order (Z : FX K mg) : FnD PP w K mg base 2 (He.ma K (He.ga K "Order") "key") m_Order_key := f_Order_key Z
noncomputable def b_Order_below : DS := retS ((binM ltKD (methM [("Order", m_Order_key)] "key" (vM 0) (consA (vM 1) (nilA))) (methM [("Order", m_Order_key)] "key" (vM 0) (consA (vM 2) (nilA)))))
noncomputable def m_Order_below : DF := bodyM 3 [] 3 b_Order_below
theorem c_Order_below (Z : FX K mg) {f : Addr} : BodyD PP w K mg base ["self", "one", "other"] "Order.below" (defScope s_Order_below) f 2 (defBody s_Order_below) b_Order_below := by
  intro cdv A outer s H E hr
  have nd : (["self", "one", "other"] : List Str).Nodup := by decide +kernel
  have tk : Takes (cxOf (L2.CX PP w) PP w K mg base ["self", "one", "other"] "Order.below" (defScope s_Order_below) f cdv A outer s H E) (fun c d _ H' => E c d H') := takes_of rfl rfl rfl rfl
  have hp := passes_of (X := cxOf (L2.CX PP w) PP w K mg base ["self", "one", "other"] "Order.below" (defScope s_Order_below) f cdv A outer s H E) rfl
  have hu := hr.rm.units
  have hu1 : _ + 1 < cLine := Nat.lt_of_le_of_lt (Nat.add_le_add_left (by decide : 1 ≤ 64) _) hu
  exact (s_one (s_ret (e_ltK hu (e_meth tk (.cons ⟨(z11 Z), _, 2, (z30 Z), f_Order_key_at_Order Z, (hr.mono (Nat.le_of_ble_eq_true rfl) : Rm 2 _)⟩ .nil) (ev 0) (a_cons (ev 1) a_nil)) (e_meth tk (.cons ⟨(z11 Z), _, 2, (z30 Z), f_Order_key_at_Order Z, (hr.mono (Nat.le_of_ble_eq_true rfl) : Rm 2 _)⟩ .nil) (ev 0) (a_cons (ev 2) a_nil)))))
theorem f_Order_below (Z : FX K mg) : FnD PP w K mg base 3 ((fun K => He.ma K (He.ga K "Order") "below") K) m_Order_below := by
  obtain ⟨fd, F0⟩ := Z.df 12 (d := d_Order_below) rfl rfl
  have F : FunD K "below" "Order.below" (defArgs s_Order_below) (defBody s_Order_below) (defScope s_Order_below) [] [] ((fun K => He.ma K (He.ga K "Order") "below") K) fd := cast (by kernel_rfl) F0
  exact fn_ok0 (x := "below") (qual := "Order.below") (params := defArgs s_Order_below) (body := defBody s_Order_below) (scope := defScope s_Order_below) (kws := []) (N := ["self", "one", "other"]) (ps := ["self", "one", "other"]) (k := 2) (b := b_Order_below) F ⟨by kernel_rfl, by kernel_rfl, by kernel_rfl, by decide +kernel, by kernel_rfl, by decide +kernel, by decide +kernel⟩ (fun _ _ _ _ _ _ us hl => match us, hl with | [_, _, _], _ => by kernel_rfl) (c_Order_below Z)
theorem f_Order_below_at_Order (Z : FX K mg) : FnD PP w K mg base 3 (He.ma K (He.ga K "Order") "below") m_Order_below := f_Order_below Z
noncomputable def b_need_word : DS := ifS (notT (truM (callM m_is_word (consA (vM 0) (consA (vM 1) (consA (vM 2) (nilA))))))) (raiseS "InvalidWord" "value" (consA (vM 1) (nilA))) (skipS)
noncomputable def m_need_word : DF := bodyM 3 [.int 160] 3 b_need_word
theorem c_need_word (Z : FX K mg) {f : Addr} : BodyD PP w K mg base ["letters", "value", "most"] "need_word" (defScope s_need_word) f 2 (defBody s_need_word) b_need_word := by
  intro cdv A outer s H E hr
  have nd : (["letters", "value", "most"] : List Str).Nodup := by decide +kernel
  have tk : Takes (cxOf (L2.CX PP w) PP w K mg base ["letters", "value", "most"] "need_word" (defScope s_need_word) f cdv A outer s H E) (fun c d _ H' => E c d H') := takes_of rfl rfl rfl rfl
  have hp := passes_of (X := cxOf (L2.CX PP w) PP w K mg base ["letters", "value", "most"] "need_word" (defScope s_need_word) f cdv A outer s H E) rfl
  have hu := hr.rm.units
  have hu1 : _ + 1 < cLine := Nat.lt_of_le_of_lt (Nat.add_le_add_left (by decide : 1 ≤ 64) _) hu
  exact (s_one (s_if (t_not (t_truth (e_call tk (f_is_word Z) (hr.mono (Nat.le_of_ble_eq_true rfl) : Rm 1 _) rfl (z13 Z) (k_is_word Z) (a_cons (ev 0) (a_cons (ev 1) (a_cons (ev 2) a_nil)))))) (s_one (raise_row1 (x_InvalidWord Z) fun fd h => s_raise1 rfl tk ⟨((z5 Z)).1, ((z5 Z)).2.1, ((z5 Z)).2.2⟩ h.1 ((hr.mono (Nat.le_of_ble_eq_true rfl) : Rm 2 _)).rm h.2 rfl (z31 Z) (a_cons (ev 1) a_nil))) s_nil))
theorem f_need_word (Z : FX K mg) : FnD PP w K mg base 3 ((fun K => He.ga K "need_word") K) m_need_word := by
  obtain ⟨fd, F⟩ := Z.df 13 (d := d_need_word) rfl rfl
  exact fn_ok (ps := ["letters", "value", "most"]) (dd := [.int 160]) F ⟨rfl, rfl, rfl, by decide +kernel, rfl, by decide +kernel, by decide +kernel⟩ (fun _ => .cons (.int 160) (.nil)) (fun j hj => match j, hj with
    | 0, _ => F.binds1 2 0 (fun h => nomatch h) rfl (fun _ _ _ _ _ _ _ us its h1 h2 => match us, h1, its, h2 with | [_, _], _, [_], _ => ⟨_, rfl, rfl⟩)
    | 1, _ => F.binds1 3 1 (fun h => nomatch h) rfl (fun _ _ _ _ _ _ _ us its h1 h2 => match us, h1, its, h2 with | [_, _, _], _, [_], _ => ⟨_, rfl, rfl⟩)
    | j + 2, h => absurd h (by show ¬ (j + 2 ≤ 1); omega)) (c_need_word Z)
theorem k_need_word (Z : FX K mg) : PySem.W.keepIn K (.ref ((fun K => He.ga K "need_word") K)) = true := Z.keep 13 (d := d_need_word) rfl
noncomputable def b_Order_cost : DS := seqS (exprS (callM m_need_word (consA (attrM [("Order", .fld)] "own_letters" (vM 0)) (consA (vM 1) (nilA))))) (retS (methM [("Order", m_Order_cost_of)] "cost_of" (vM 0) (consA (vM 1) (nilA))))
noncomputable def m_Order_cost : DF := bodyM 2 [] 2 b_Order_cost
theorem c_Order_cost (Z : FX K mg) {f : Addr} : BodyD PP w K mg base ["self", "word"] "Order.cost" (defScope s_Order_cost) f 3 (defBody s_Order_cost) b_Order_cost := by
  intro cdv A outer s H E hr
  have nd : (["self", "word"] : List Str).Nodup := by decide +kernel
  have tk : Takes (cxOf (L2.CX PP w) PP w K mg base ["self", "word"] "Order.cost" (defScope s_Order_cost) f cdv A outer s H E) (fun c d _ H' => E c d H') := takes_of rfl rfl rfl rfl
  have hp := passes_of (X := cxOf (L2.CX PP w) PP w K mg base ["self", "word"] "Order.cost" (defScope s_Order_cost) f cdv A outer s H E) rfl
  have hu := hr.rm.units
  have hu1 : _ + 1 < cLine := Nat.lt_of_le_of_lt (Nat.add_le_add_left (by decide : 1 ≤ 64) _) hu
  exact (s_cons (s_expr (e_call tk (f_need_word Z) (hr.mono (Nat.le_of_ble_eq_true rfl) : Rm 3 _) rfl (z32 Z) (k_need_word Z) (a_cons (e_attr (.fld (z11 Z) (z12 Z) .nil) (ev 0)) (a_cons (ev 1) a_nil))))
    (s_one (s_ret (e_meth tk (.cons ⟨(z11 Z), _, 1, (z29 Z), f_Order_cost_of_at_Order Z, (hr.mono (Nat.le_of_ble_eq_true rfl) : Rm 1 _)⟩ .nil) (ev 0) (a_cons (ev 1) a_nil)))))
theorem f_Order_cost (Z : FX K mg) : FnD PP w K mg base 4 ((fun K => He.ma K (He.ga K "Order") "cost") K) m_Order_cost := by
  obtain ⟨fd, F0⟩ := Z.df 14 (d := d_Order_cost) rfl rfl
  have F : FunD K "cost" "Order.cost" (defArgs s_Order_cost) (defBody s_Order_cost) (defScope s_Order_cost) [] [] ((fun K => He.ma K (He.ga K "Order") "cost") K) fd := cast (by kernel_rfl) F0
  exact fn_ok0 (x := "cost") (qual := "Order.cost") (params := defArgs s_Order_cost) (body := defBody s_Order_cost) (scope := defScope s_Order_cost) (kws := []) (N := ["self", "word"]) (ps := ["self", "word"]) (k := 3) (b := b_Order_cost) F ⟨by kernel_rfl, by kernel_rfl, by kernel_rfl, by decide +kernel, by kernel_rfl, by decide +kernel, by decide +kernel⟩ (fun _ _ _ _ _ _ us hl => match us, hl with | [_, _], _ => by kernel_rfl) (c_Order_cost Z)
theorem f_Order_cost_at_Order (Z : FX K mg) : FnD PP w K mg base 4 (He.ma K (He.ga K "Order") "cost") m_Order_cost := f_Order_cost Z
noncomputable def b_Order_is_before : DS := seqS (exprS (callM m_need_word (consA (attrM [("Order", .fld)] "own_letters" (vM 0)) (consA (vM 1) (nilA))))) (seqS (exprS (callM m_need_word (consA (attrM [("Order", .fld)] "own_letters" (vM 0)) (consA (vM 2) (nilA))))) (retS (methM [("Order", m_Order_below)] "below" (vM 0) (consA (vM 1) (consA (vM 2) (nilA))))))
noncomputable def m_Order_is_before : DF := bodyM 3 [] 3 b_Order_is_before
theorem c_Order_is_before (Z : FX K mg) {f : Addr} : BodyD PP w K mg base ["self", "word", "other"] "Order.is_before" (defScope s_Order_is_before) f 3 (defBody s_Order_is_before) b_Order_is_before := by
  intro cdv A outer s H E hr
  have nd : (["self", "word", "other"] : List Str).Nodup := by decide +kernel
  have tk : Takes (cxOf (L2.CX PP w) PP w K mg base ["self", "word", "other"] "Order.is_before" (defScope s_Order_is_before) f cdv A outer s H E) (fun c d _ H' => E c d H') := takes_of rfl rfl rfl rfl
  have hp := passes_of (X := cxOf (L2.CX PP w) PP w K mg base ["self", "word", "other"] "Order.is_before" (defScope s_Order_is_before) f cdv A outer s H E) rfl
  have hu := hr.rm.units
  have hu1 : _ + 1 < cLine := Nat.lt_of_le_of_lt (Nat.add_le_add_left (by decide : 1 ≤ 64) _) hu
  exact (s_cons (s_expr (e_call tk (f_need_word Z) (hr.mono (Nat.le_of_ble_eq_true rfl) : Rm 3 _) rfl (z32 Z) (k_need_word Z) (a_cons (e_attr (.fld (z11 Z) (z12 Z) .nil) (ev 0)) (a_cons (ev 1) a_nil))))
    (s_cons (s_expr (e_call tk (f_need_word Z) (hr.mono (Nat.le_of_ble_eq_true rfl) : Rm 3 _) rfl (z32 Z) (k_need_word Z) (a_cons (e_attr (.fld (z11 Z) (z12 Z) .nil) (ev 0)) (a_cons (ev 2) a_nil))))
    (s_one (s_ret (e_meth tk (.cons ⟨(z11 Z), _, 3, (z33 Z), f_Order_below_at_Order Z, (hr.mono (Nat.le_of_ble_eq_true rfl) : Rm 3 _)⟩ .nil) (ev 0) (a_cons (ev 1) (a_cons (ev 2) a_nil)))))))
theorem f_Order_is_before (Z : FX K mg) : FnD PP w K mg base 4 ((fun K => He.ma K (He.ga K "Order") "is_before") K) m_Order_is_before := by
  obtain ⟨fd, F0⟩ := Z.df 15 (d := d_Order_is_before) rfl rfl
  have F : FunD K "is_before" "Order.is_before" (defArgs s_Order_is_before) (defBody s_Order_is_before) (defScope s_Order_is_before) [] [] ((fun K => He.ma K (He.ga K "Order") "is_before") K) fd := cast (by kernel_rfl) F0
  exact fn_ok0 (x := "is_before") (qual := "Order.is_before") (params := defArgs s_Order_is_before) (body := defBody s_Order_is_before) (scope := defScope s_Order_is_before) (kws := []) (N := ["self", "word", "other"]) (ps := ["self", "word", "other"]) (k := 3) (b := b_Order_is_before) F ⟨by kernel_rfl, by kernel_rfl, by kernel_rfl, by decide +kernel, by kernel_rfl, by decide +kernel, by decide +kernel⟩ (fun _ _ _ _ _ _ us hl => match us, hl with | [_, _, _], _ => by kernel_rfl) (c_Order_is_before Z)
theorem f_Order_is_before_at_Order (Z : FX K mg) : FnD PP w K mg base 4 (He.ma K (He.ga K "Order") "is_before") m_Order_is_before := f_Order_is_before Z
noncomputable def b_Order_of_costs : DS := seqS (ifS (orT (notT (truM (argM (isiD it0) (consA (vM 1) (consA (cM (.ty "dict")) (nilA)))))) (notT (truM (argM (allD) (consA (lcM false (seqI (vM 1)) (nameG 3) (yesM) (callM m_is_letter (consA (vM 3) (nilA))) [3]) (nilA)))))) (raiseS "InvalidLetters" "value" (consA (vM 1) (nilA))) (skipS)) (seqS (setS 2 (bmD isStrD joinD (cM (.str "")) (consA (argM sortedD (consA (vM 1) (nilA))) (nilA)))) (seqS (ifS (notT (truM (callM m_are_letters (consA (vM 2) (nilA))))) (raiseS "InvalidLetters" "value" (consA (vM 1) (nilA))) (skipS)) (retS (makeLM false "Order" m_Order___init__ (vM 0) (kwA (consA (vM 2) (nilA)) (sprK (vM 1)))))))
noncomputable def m_Order_of_costs : DF := bodyM 2 [] 4 b_Order_of_costs
theorem c_Order_of_costs (Z : FX K mg) {f : Addr} : BodyD PP w K mg base ["cls", "costs", "letters", "letter"] "Order.of_costs" (defScope s_Order_of_costs) f 4 (defBody s_Order_of_costs) b_Order_of_costs := by
  intro cdv A outer s H E hr
  have nd : (["cls", "costs", "letters", "letter"] : List Str).Nodup := by decide +kernel
  have tk : Takes (cxOf (L2.CX PP w) PP w K mg base ["cls", "costs", "letters", "letter"] "Order.of_costs" (defScope s_Order_of_costs) f cdv A outer s H E) (fun c d _ H' => E c d H') := takes_of rfl rfl rfl rfl
  have hp := passes_of (X := cxOf (L2.CX PP w) PP w K mg base ["cls", "costs", "letters", "letter"] "Order.of_costs" (defScope s_Order_of_costs) f cdv A outer s H E) rfl
  have hu := hr.rm.units
  have hu1 : _ + 1 < cLine := Nat.lt_of_le_of_lt (Nat.add_le_add_left (by decide : 1 ≤ 64) _) hu
  exact (s_cons (s_if (PW.pt (w_or (t_not (t_truth (e_callB call_isi (v_isi (z_isi Z)) rfl (z8 Z) (by decide +kernel) (a_cons (ev 1) (a_cons (e_ty (n := "dict") rfl (z34 Z) (by decide +kernel)) a_nil))))) (w_or1 (t_not (t_truth (e_callB (cr_all rfl) v_all rfl (z10 Z) (by decide +kernel) (a_cons (e_lc false rfl nd (i_seq (ev 1)) (own := ([("letter", 3)] : List (Str × Nat))) (show BlkOk ["cls", "costs", "letters", "letter"] (defScope s_Order_of_costs) _ _ from ⟨rfl, by decide +kernel, by decide +kernel, by decide +kernel, by decide +kernel⟩) (fun _ _ _ _ _ => (gw_name nd rfl (by first | exact .inl rfl | exact .inr rfl) (by decide))) (fun _ _ _ _ _ => ts_nil) (fun _ _ _ _ _ => (e_call takes_blk (f_is_letter Z) (hr.mono (Nat.le_of_ble_eq_true rfl) : Rm 1 _) rfl (z23 Z) (k_is_letter Z) (a_cons (ev 3) a_nil)))) a_nil))))))) (s_one (raise_row1 (x_InvalidLetters Z) fun fd h => s_raise1 rfl tk ⟨((z3 Z)).1, ((z3 Z)).2.1, ((z3 Z)).2.2⟩ h.1 ((hr.mono (Nat.le_of_ble_eq_true rfl) : Rm 2 _)).rm h.2 rfl (z21 Z) (a_cons (ev 1) a_nil))) s_nil)
    (s_cons (s_set nd rfl (by first | exact .inl rfl | exact .inr rfl) (e_bm PySem.F.plainAttrs_str PySem.F.slot_str_join PySem.F.type_str_join mt_join ty_str v_join e_str (a_cons (e_callB (cr_sortedAll rfl) v_sorted rfl (z22 Z) (by decide +kernel) (a_cons (ev 1) a_nil)) a_nil)))
    (s_cons (s_if (t_not (t_truth (e_call tk (f_are_letters Z) (hr.mono (Nat.le_of_ble_eq_true rfl) : Rm 1 _) rfl (z20 Z) (k_are_letters Z) (a_cons (ev 2) a_nil)))) (s_one (raise_row1 (x_InvalidLetters Z) fun fd h => s_raise1 rfl tk ⟨((z3 Z)).1, ((z3 Z)).2.1, ((z3 Z)).2.2⟩ h.1 ((hr.mono (Nat.le_of_ble_eq_true rfl) : Rm 2 _)).rm h.2 rfl (z21 Z) (a_cons (ev 1) a_nil))) s_nil)
    (s_one (s_ret (e_makeLK false tk (z35 Z) (f_Order___init___at_Order Z) (hr.mono (Nat.le_of_ble_eq_true rfl) : Rm 4 _) (ev 0) (a_cons (ev 2) a_nil) (ev 1)))))))
theorem f_Order_of_costs (Z : FX K mg) : FnD PP w K mg base 5 ((fun K => He5.wf K (He.ga K "Order") "classmethod" "of_costs") K) m_Order_of_costs := by
  obtain ⟨fd, F0⟩ := Z.df 16 (d := d_Order_of_costs) rfl rfl
  have F : FunD K "of_costs" "Order.of_costs" (defArgs s_Order_of_costs) (defBody s_Order_of_costs) (defScope s_Order_of_costs) [] [] ((fun K => He5.wf K (He.ga K "Order") "classmethod" "of_costs") K) fd := cast (by kernel_rfl) F0
  exact fn_ok0 (x := "of_costs") (qual := "Order.of_costs") (params := defArgs s_Order_of_costs) (body := defBody s_Order_of_costs) (scope := defScope s_Order_of_costs) (kws := []) (N := ["cls", "costs", "letters", "letter"]) (ps := ["cls", "costs"]) (k := 4) (b := b_Order_of_costs) F ⟨by kernel_rfl, by kernel_rfl, by kernel_rfl, by decide +kernel, by kernel_rfl, by decide +kernel, by decide +kernel⟩ (fun _ _ _ _ _ _ us hl => match us, hl with | [_, _], _ => by kernel_rfl) (c_Order_of_costs Z)
noncomputable def b_Order_sorted_words : DS := seqS (forS (seqI (vM 1)) (nameG 2) (exprS (callM m_need_word (consA (attrM [("Order", .fld)] "own_letters" (vM 0)) (consA (vM 2) (nilA)))))) (retS (sortKMc [("Order", m_Order_key)] "key" (argM (listKD false) (consA (dcM (seqI (vM 1)) (nameG 2) (yesM) (vM 2) (cM (.bl true)) [2]) (nilA))) (vM 0)))
noncomputable def m_Order_sorted_words : DF := bodyV 1 3 b_Order_sorted_words
theorem c_Order_sorted_words (Z : FX K mg) {f : Addr} : BodyD PP w K mg base ["self", "words", "word"] "Order.sorted_words" (defScope s_Order_sorted_words) f 4 (defBody s_Order_sorted_words) b_Order_sorted_words := by
  intro cdv A outer s H E hr
  have nd : (["self", "words", "word"] : List Str).Nodup := by decide +kernel
  have tk : Takes (cxOf (L2.CX PP w) PP w K mg base ["self", "words", "word"] "Order.sorted_words" (defScope s_Order_sorted_words) f cdv A outer s H E) (fun c d _ H' => E c d H') := takes_of rfl rfl rfl rfl
  have hp := passes_of (X := cxOf (L2.CX PP w) PP w K mg base ["self", "words", "word"] "Order.sorted_words" (defScope s_Order_sorted_words) f cdv A outer s H E) rfl
  have hu := hr.rm.units
  have hu1 : _ + 1 < cLine := Nat.lt_of_le_of_lt (Nat.add_le_add_left (by decide : 1 ≤ 64) _) hu
  exact (s_cons (s_for hp rfl (i_seq (ev 1)) (g_name nd rfl (by first | exact .inl rfl | exact .inr rfl)) (s_one (s_expr (e_call tk (f_need_word Z) (hr.mono (Nat.le_of_ble_eq_true rfl) : Rm 3 _) rfl (z32 Z) (k_need_word Z) (a_cons (e_attr (.fld (z11 Z) (z12 Z) .nil) (ev 0)) (a_cons (ev 2) a_nil))))))
    (s_one (s_ret (e_sortedKc tk (.cons ⟨(z11 Z), _, 2, (z37 Z), f_Order_key_at_Order Z, (hr.mono (Nat.le_of_ble_eq_true rfl) : Rm 4 _)⟩ .nil) rfl (z22 Z) (a_cons (e_callTy (call_listK rfl) v_listK rfl (z36 Z) (by decide +kernel) (a_cons (e_dc rfl nd (i_seq (ev 1)) (own := ([("word", 2)] : List (Str × Nat))) (show BlkOk ["self", "words", "word"] (defScope s_Order_sorted_words) _ _ from ⟨rfl, by decide +kernel, by decide +kernel, by decide +kernel, by decide +kernel⟩) (fun _ _ _ _ _ => (gw_name nd rfl (by first | exact .inl rfl | exact .inr rfl) (by decide))) (fun _ _ _ _ _ => ts_nil) (fun _ _ _ _ _ => (ev 2)) (fun _ _ _ _ _ => e_bl)) a_nil)) a_nil) (ev 0)))))
theorem f_Order_sorted_words (Z : FX K mg) : FnD PP w K mg base 5 ((fun K => He.ma K (He.ga K "Order") "sorted_words") K) m_Order_sorted_words := by
  obtain ⟨fd, F⟩ := Z.df 17 (d := d_Order_sorted_words) rfl rfl
  exact fn_okV (ps := ["self"]) (pv := "words") F ⟨rfl, rfl, rfl, by decide +kernel, rfl, by decide +kernel, by decide +kernel⟩ (fun b1 b2 b3 b4 b5 b6 => StX.bind_star1 (B := fun l => bindArgs (PySem.W.fnOf _ _ _ _ _ .none b1 b2 b3 b4 b5 b6) ⟨l, []⟩) (fun a0 => rfl) (fun a0 r rs => rfl)) (c_Order_sorted_words Z)
theorem f_Order_sorted_words_at_Order (Z : FX K mg) : FnD PP w K mg base 5 (He.ma K (He.ga K "Order") "sorted_words") m_Order_sorted_words := f_Order_sorted_words Z
noncomputable def b__law_draw : DS := seqS (ifS (blM (binM gtI (binM idxD (vM 0) (cM (.str "left"))) (cM (.int 0)))) (seqS (setS 6 (binM modD (argM (intD) (consA (binM idxD (vM 0) (cM (.str "left"))) (nilA))) (vM 1))) (seqS (subS (vM 0) (cM (.str "left")) (binM divD (binM idxD (vM 0) (cM (.str "left"))) (vM 1))) (retS (vM 6)))) (skipS)) (seqS (setS 2 (binM idxD (vM 0) (cM (.str "begun")))) (seqS (subS (vM 0) (cM (.str "begun")) (binM addD (vM 2) (cM (.int 1)))) (seqS (setS 3 (binM addD (binM mulD (cM (.int 53)) (vM 2)) (cM (.int 17)))) (seqS (ifS (blM (binM neD (binM idxD (vM 0) (cM (.str "cells"))) (argM (lstD false) (nilA)))) (setS 3 (binM idxD (binM idxD (vM 0) (cM (.str "cells"))) (binM modD (argM (intD) (consA (vM 2) (nilA))) (argM (lenD) (consA (binM idxD (vM 0) (cM (.str "cells"))) (nilA)))))) (skipS)) (seqS (ifS (andT (blM (binM ltI (vM 2) (argM (lenD) (consA (binM idxD (vM 0) (cM (.str "cells"))) (nilA))))) (blM (binM geI (argM (absD) (consA (vM 3) (nilA))) (binM powD (cM (.int 10)) (cM (.int 18)))))) (seqS (subS (vM 0) (cM (.str "left")) (binM divD (binM subD (argM (absD) (consA (vM 3) (nilA))) (binM powD (cM (.int 10)) (cM (.int 18)))) (vM 1))) (retS (binM modD (argM (intD) (consA (binM subD (argM (absD) (consA (vM 3) (nilA))) (binM powD (cM (.int 10)) (cM (.int 18)))) (nilA))) (vM 1)))) (skipS)) (seqS (setS 4 (binM mulD (binM modD (argM (intD) (consA (vM 3) (nilA))) (cM (.int 4294967197))) (cM (.int 48673)))) (seqS (setS 5 (binM modD (argM (intD) (consA (binM addD (binM addD (vM 4) (binM mulD (vM 2) (binM addD (binM mulD (cM (.int 40009)) (vM 2)) (cM (.int 1511))))) (cM (.int 331))) (nilA))) (cM (.int 4294967189)))) (seqS (setS 5 (binM modD (argM (intD) (consA (binM addD (binM addD (binM addD (binM mulD (vM 5) (vM 5)) (binM mulD (cM (.int 75629)) (vM 5))) (binM mulD (cM (.int 19)) (vM 2))) (cM (.int 7))) (nilA))) (cM (.int 4294967161)))) (retS (binM modD (argM (intD) (consA (binM divD (binM modD (argM (intD) (consA (binM mulD (vM 5) (binM addD (vM 5) (cM (.int 52361)))) (nilA))) (cM (.int 4294967143))) (cM (.int 64))) (nilA))) (vM 1)))))))))))
noncomputable def m__law_draw : DF := bodyM 2 [] 7 b__law_draw
theorem c__law_draw (Z : FX K mg) {f : Addr} : BodyD PP w K mg base ["_law_pen_here", "_law_many", "_law_place", "_law_cell", "_law_mixed", "_law_drawn", "_law_digit"] "_law_draw" (defScope s__law_draw) f 0 (defBody s__law_draw) b__law_draw := by
  intro cdv A outer s H E hr
  have nd : (["_law_pen_here", "_law_many", "_law_place", "_law_cell", "_law_mixed", "_law_drawn", "_law_digit"] : List Str).Nodup := by decide +kernel
  have tk : Takes (cxOf (L2.CX PP w) PP w K mg base ["_law_pen_here", "_law_many", "_law_place", "_law_cell", "_law_mixed", "_law_drawn", "_law_digit"] "_law_draw" (defScope s__law_draw) f cdv A outer s H E) (fun c d _ H' => E c d H') := takes_of rfl rfl rfl rfl
  have hp := passes_of (X := cxOf (L2.CX PP w) PP w K mg base ["_law_pen_here", "_law_many", "_law_place", "_law_cell", "_law_mixed", "_law_drawn", "_law_digit"] "_law_draw" (defScope s__law_draw) f cdv A outer s H E) rfl
  have hu := hr.rm.units
  have hu1 : _ + 1 < cLine := Nat.lt_of_le_of_lt (Nat.add_le_add_left (by decide : 1 ≤ 64) _) hu
  exact (s_cons (s_if (t_gt (e_idx hu1 (ev 0) e_str) e_int) (s_cons (s_set nd rfl (by first | exact .inl rfl | exact .inr rfl) (e_mod (e_callTy call_int1 v_int rfl (z17 Z) (by decide +kernel) (a_cons (e_idx hu1 (ev 0) e_str) a_nil)) (ev 1)))
    (s_cons (s_sub hu1 (ev 0) e_str (e_div (e_idx hu1 (ev 0) e_str) (ev 1)))
    (s_one (s_ret (ev 6))))) s_nil)
    (s_cons (s_set nd rfl (by first | exact .inl rfl | exact .inr rfl) (e_idx hu1 (ev 0) e_str))
    (s_cons (s_sub hu1 (ev 0) e_str (e_add (ev 2) e_int))
    (s_cons (s_set nd rfl (by first | exact .inl rfl | exact .inr rfl) (e_add (e_mul e_int (ev 2)) e_int))
    (s_cons (s_if (t_ne hu (e_idx hu1 (ev 0) e_str) (e_lst false a_nil)) (s_one (s_set nd rfl (by first | exact .inl rfl | exact .inr rfl) (e_idx hu1 (e_idx hu1 (ev 0) e_str) (e_mod (e_callTy call_int1 v_int rfl (z17 Z) (by decide +kernel) (a_cons (ev 2) a_nil)) (e_callB call_len v_len rfl (z9 Z) (by decide +kernel) (a_cons (e_idx hu1 (ev 0) e_str) a_nil)))))) s_nil)
    (s_cons (s_if (PW.pt (w_and (t_lt (ev 2) (e_callB call_len v_len rfl (z9 Z) (by decide +kernel) (a_cons (e_idx hu1 (ev 0) e_str) a_nil))) (w_and1 (t_ge (e_callB call_abs v_abs rfl (z38 Z) (by decide +kernel) (a_cons (ev 3) a_nil)) (e_pow e_int e_int))))) (s_cons (s_sub hu1 (ev 0) e_str (e_div (e_sub (e_callB call_abs v_abs rfl (z38 Z) (by decide +kernel) (a_cons (ev 3) a_nil)) (e_pow e_int e_int)) (ev 1)))
    (s_one (s_ret (e_mod (e_callTy call_int1 v_int rfl (z17 Z) (by decide +kernel) (a_cons (e_sub (e_callB call_abs v_abs rfl (z38 Z) (by decide +kernel) (a_cons (ev 3) a_nil)) (e_pow e_int e_int)) a_nil)) (ev 1))))) s_nil)
    (s_cons (s_set nd rfl (by first | exact .inl rfl | exact .inr rfl) (e_mul (e_mod (e_callTy call_int1 v_int rfl (z17 Z) (by decide +kernel) (a_cons (ev 3) a_nil)) e_int) e_int))
    (s_cons (s_set nd rfl (by first | exact .inl rfl | exact .inr rfl) (e_mod (e_callTy call_int1 v_int rfl (z17 Z) (by decide +kernel) (a_cons (e_add (e_add (ev 4) (e_mul (ev 2) (e_add (e_mul e_int (ev 2)) e_int))) e_int) a_nil)) e_int))
    (s_cons (s_set nd rfl (by first | exact .inl rfl | exact .inr rfl) (e_mod (e_callTy call_int1 v_int rfl (z17 Z) (by decide +kernel) (a_cons (e_add (e_add (e_add (e_mul (ev 5) (ev 5)) (e_mul e_int (ev 5))) (e_mul e_int (ev 2))) e_int) a_nil)) e_int))
    (s_one (s_ret (e_mod (e_callTy call_int1 v_int rfl (z17 Z) (by decide +kernel) (a_cons (e_div (e_mod (e_callTy call_int1 v_int rfl (z17 Z) (by decide +kernel) (a_cons (e_mul (ev 5) (e_add (ev 5) e_int)) a_nil)) e_int) e_int) a_nil)) (ev 1)))))))))))))
theorem f__law_draw (Z : FX K mg) : FnD PP w K mg base 1 ((fun K => He.ga K "_law_draw") K) m__law_draw := by
  obtain ⟨fd, F0⟩ := Z.df 18 (d := d__law_draw) rfl rfl
  have F : FunD K "_law_draw" "_law_draw" (defArgs s__law_draw) (defBody s__law_draw) (defScope s__law_draw) [] [] ((fun K => He.ga K "_law_draw") K) fd := cast (by kernel_rfl) F0
  exact fn_ok0 (x := "_law_draw") (qual := "_law_draw") (params := defArgs s__law_draw) (body := defBody s__law_draw) (scope := defScope s__law_draw) (kws := []) (N := ["_law_pen_here", "_law_many", "_law_place", "_law_cell", "_law_mixed", "_law_drawn", "_law_digit"]) (ps := ["_law_pen_here", "_law_many"]) (k := 0) (b := b__law_draw) F ⟨by kernel_rfl, by kernel_rfl, by kernel_rfl, by decide +kernel, by kernel_rfl, by decide +kernel, by decide +kernel⟩ (fun _ _ _ _ _ _ us hl => match us, hl with | [_, _], _ => by kernel_rfl) (c__law_draw Z)
theorem k__law_draw (Z : FX K mg) : PySem.W.keepIn K (.ref ((fun K => He.ga K "_law_draw") K)) = true := Z.keep 18 (d := d__law_draw) rfl
noncomputable def b__law_pick : DS := retS (binM idxD (vM 1) (callM m__law_draw (consA (vM 0) (consA (argM (lenD) (consA (vM 1) (nilA))) (nilA)))))
noncomputable def m__law_pick : DF := bodyM 2 [] 2 b__law_pick
theorem c__law_pick (Z : FX K mg) {f : Addr} : BodyD PP w K mg base ["_law_pen_here", "_law_options"] "_law_pick" (defScope s__law_pick) f 1 (defBody s__law_pick) b__law_pick := by
  intro cdv A outer s H E hr
  have nd : (["_law_pen_here", "_law_options"] : List Str).Nodup := by decide +kernel
  have tk : Takes (cxOf (L2.CX PP w) PP w K mg base ["_law_pen_here", "_law_options"] "_law_pick" (defScope s__law_pick) f cdv A outer s H E) (fun c d _ H' => E c d H') := takes_of rfl rfl rfl rfl
  have hp := passes_of (X := cxOf (L2.CX PP w) PP w K mg base ["_law_pen_here", "_law_options"] "_law_pick" (defScope s__law_pick) f cdv A outer s H E) rfl
  have hu := hr.rm.units
  have hu1 : _ + 1 < cLine := Nat.lt_of_le_of_lt (Nat.add_le_add_left (by decide : 1 ≤ 64) _) hu
  exact (s_one (s_ret (e_idx hu1 (ev 1) (e_call tk (f__law_draw Z) (hr.mono (Nat.le_of_ble_eq_true rfl) : Rm 1 _) rfl (z39 Z) (k__law_draw Z) (a_cons (ev 0) (a_cons (e_callB call_len v_len rfl (z9 Z) (by decide +kernel) (a_cons (ev 1) a_nil)) a_nil))))))
theorem f__law_pick (Z : FX K mg) : FnD PP w K mg base 2 ((fun K => He.ga K "_law_pick") K) m__law_pick := by
  obtain ⟨fd, F0⟩ := Z.df 19 (d := d__law_pick) rfl rfl
  have F : FunD K "_law_pick" "_law_pick" (defArgs s__law_pick) (defBody s__law_pick) (defScope s__law_pick) [] [] ((fun K => He.ga K "_law_pick") K) fd := cast (by kernel_rfl) F0
  exact fn_ok0 (x := "_law_pick") (qual := "_law_pick") (params := defArgs s__law_pick) (body := defBody s__law_pick) (scope := defScope s__law_pick) (kws := []) (N := ["_law_pen_here", "_law_options"]) (ps := ["_law_pen_here", "_law_options"]) (k := 1) (b := b__law_pick) F ⟨by kernel_rfl, by kernel_rfl, by kernel_rfl, by decide +kernel, by kernel_rfl, by decide +kernel, by decide +kernel⟩ (fun _ _ _ _ _ _ us hl => match us, hl with | [_, _], _ => by kernel_rfl) (c__law_pick Z)
theorem k__law_pick (Z : FX K mg) : PySem.W.keepIn K (.ref ((fun K => He.ga K "_law_pick") K)) = true := Z.keep 19 (d := d__law_pick) rfl
noncomputable def b__law_word : DS := retS (bmD isStrD joinD (cM (.str "")) (consA (lcM false (argI rangeD1 (consA (callM m__law_draw (consA (vM 0) (consA (binM addD (vM 2) (cM (.int 1))) (nilA)))) (nilA))) (nameG 3) (yesM) (callM m__law_pick (consA (vM 0) (consA (vM 1) (nilA)))) [3]) (nilA)))
noncomputable def m__law_word : DF := bodyM 3 [] 4 b__law_word
theorem c__law_word (Z : FX K mg) {f : Addr} : BodyD PP w K mg base ["_law_pen_here", "_law_letters_here", "_law_most", "_law_k"] "_law_word" (defScope s__law_word) f 2 (defBody s__law_word) b__law_word := by
  intro cdv A outer s H E hr
  have nd : (["_law_pen_here", "_law_letters_here", "_law_most", "_law_k"] : List Str).Nodup := by decide +kernel
  have tk : Takes (cxOf (L2.CX PP w) PP w K mg base ["_law_pen_here", "_law_letters_here", "_law_most", "_law_k"] "_law_word" (defScope s__law_word) f cdv A outer s H E) (fun c d _ H' => E c d H') := takes_of rfl rfl rfl rfl
  have hp := passes_of (X := cxOf (L2.CX PP w) PP w K mg base ["_law_pen_here", "_law_letters_here", "_law_most", "_law_k"] "_law_word" (defScope s__law_word) f cdv A outer s H E) rfl
  have hu := hr.rm.units
  have hu1 : _ + 1 < cLine := Nat.lt_of_le_of_lt (Nat.add_le_add_left (by decide : 1 ≤ 64) _) hu
  exact (s_one (s_ret (e_bm PySem.F.plainAttrs_str PySem.F.slot_str_join PySem.F.type_str_join mt_join ty_str v_join e_str (a_cons (e_lc false rfl nd (i_range1 rfl (z16 Z) (a_cons (e_call tk (f__law_draw Z) (hr.mono (Nat.le_of_ble_eq_true rfl) : Rm 1 _) rfl (z39 Z) (k__law_draw Z) (a_cons (ev 0) (a_cons (e_add (ev 2) e_int) a_nil))) a_nil)) (own := ([("_law_k", 3)] : List (Str × Nat))) (show BlkOk ["_law_pen_here", "_law_letters_here", "_law_most", "_law_k"] (defScope s__law_word) _ _ from ⟨rfl, by decide +kernel, by decide +kernel, by decide +kernel, by decide +kernel⟩) (fun _ _ _ _ _ => (gw_name nd rfl (by first | exact .inl rfl | exact .inr rfl) (by decide))) (fun _ _ _ _ _ => ts_nil) (fun _ _ _ _ _ => (e_call takes_blk (f__law_pick Z) (hr.mono (Nat.le_of_ble_eq_true rfl) : Rm 2 _) rfl (z40 Z) (k__law_pick Z) (a_cons (ev 0) (a_cons (ev 1) a_nil))))) a_nil))))
theorem f__law_word (Z : FX K mg) : FnD PP w K mg base 3 ((fun K => He.ga K "_law_word") K) m__law_word := by
  obtain ⟨fd, F0⟩ := Z.df 20 (d := d__law_word) rfl rfl
  have F : FunD K "_law_word" "_law_word" (defArgs s__law_word) (defBody s__law_word) (defScope s__law_word) [] [] ((fun K => He.ga K "_law_word") K) fd := cast (by kernel_rfl) F0
  exact fn_ok0 (x := "_law_word") (qual := "_law_word") (params := defArgs s__law_word) (body := defBody s__law_word) (scope := defScope s__law_word) (kws := []) (N := ["_law_pen_here", "_law_letters_here", "_law_most", "_law_k"]) (ps := ["_law_pen_here", "_law_letters_here", "_law_most"]) (k := 2) (b := b__law_word) F ⟨by kernel_rfl, by kernel_rfl, by kernel_rfl, by decide +kernel, by kernel_rfl, by decide +kernel, by decide +kernel⟩ (fun _ _ _ _ _ _ us hl => match us, hl with | [_, _, _], _ => by kernel_rfl) (c__law_word Z)
theorem k__law_word (Z : FX K mg) : PySem.W.keepIn K (.ref ((fun K => He.ga K "_law_word") K)) = true := Z.keep 20 (d := d__law_word) rfl
noncomputable def b__law_long_word : DS := seqS (setS 2 (bmD isStrD joinD (cM (.str "")) (consA (argM (listKD false) (consA (vM 1) (nilA))) (nilA)))) (seqS (setS 3 (callM m__law_pick (consA (vM 0) (consA (argM (lstD false) (consA (cM (.int 6)) (consA (cM (.int 6)) (consA (cM (.int 12)) (consA (cM (.int 40)) (nilA)))))) (nilA))))) (seqS (setS 4 (callM m__law_word (consA (vM 0) (consA (vM 2) (consA (vM 3) (nilA)))))) (seqS (ifS (blM (binM eqD (callM m__law_draw (consA (vM 0) (consA (cM (.int 6)) (nilA)))) (cM (.int 0)))) (setS 4 (sliM false (binM addD (vM 4) (binM mulX (callM m__law_pick (consA (vM 0) (consA (vM 2) (nilA)))) (cM (.int 160)))) (pureM none) (optM (binM subD (cM (.int 160)) (callM m__law_draw (consA (vM 0) (consA (cM (.int 2)) (nilA)))))))) (skipS)) (retS (vM 4)))))
noncomputable def m__law_long_word : DF := bodyM 2 [] 5 b__law_long_word
theorem c__law_long_word (Z : FX K mg) {f : Addr} : BodyD PP w K mg base ["_law_pen_here", "_law_costs_here", "_law_letters_here", "_law_many", "_law_found"] "_law_long_word" (defScope s__law_long_word) f 3 (defBody s__law_long_word) b__law_long_word := by
  intro cdv A outer s H E hr
  have nd : (["_law_pen_here", "_law_costs_here", "_law_letters_here", "_law_many", "_law_found"] : List Str).Nodup := by decide +kernel
  have tk : Takes (cxOf (L2.CX PP w) PP w K mg base ["_law_pen_here", "_law_costs_here", "_law_letters_here", "_law_many", "_law_found"] "_law_long_word" (defScope s__law_long_word) f cdv A outer s H E) (fun c d _ H' => E c d H') := takes_of rfl rfl rfl rfl
  have hp := passes_of (X := cxOf (L2.CX PP w) PP w K mg base ["_law_pen_here", "_law_costs_here", "_law_letters_here", "_law_many", "_law_found"] "_law_long_word" (defScope s__law_long_word) f cdv A outer s H E) rfl
  have hu := hr.rm.units
  have hu1 : _ + 1 < cLine := Nat.lt_of_le_of_lt (Nat.add_le_add_left (by decide : 1 ≤ 64) _) hu
  exact (s_cons (s_set nd rfl (by first | exact .inl rfl | exact .inr rfl) (e_bm PySem.F.plainAttrs_str PySem.F.slot_str_join PySem.F.type_str_join mt_join ty_str v_join e_str (a_cons (e_callTy (call_listK rfl) v_listK rfl (z36 Z) (by decide +kernel) (a_cons (ev 1) a_nil)) a_nil)))
    (s_cons (s_set nd rfl (by first | exact .inl rfl | exact .inr rfl) (e_call tk (f__law_pick Z) (hr.mono (Nat.le_of_ble_eq_true rfl) : Rm 2 _) rfl (z40 Z) (k__law_pick Z) (a_cons (ev 0) (a_cons (e_lst false (a_cons e_int (a_cons e_int (a_cons e_int (a_cons e_int a_nil))))) a_nil))))
    (s_cons (s_set nd rfl (by first | exact .inl rfl | exact .inr rfl) (e_call tk (f__law_word Z) (hr.mono (Nat.le_of_ble_eq_true rfl) : Rm 3 _) rfl (z41 Z) (k__law_word Z) (a_cons (ev 0) (a_cons (ev 2) (a_cons (ev 3) a_nil)))))
    (s_cons (s_if (t_eq hu (e_call tk (f__law_draw Z) (hr.mono (Nat.le_of_ble_eq_true rfl) : Rm 1 _) rfl (z39 Z) (k__law_draw Z) (a_cons (ev 0) (a_cons e_int a_nil))) e_int) (s_one (s_set nd rfl (by first | exact .inl rfl | exact .inr rfl) (e_sli false (e_add (ev 4) (e_mulX (e_call tk (f__law_pick Z) (hr.mono (Nat.le_of_ble_eq_true rfl) : Rm 2 _) rfl (z40 Z) (k__law_pick Z) (a_cons (ev 0) (a_cons (ev 2) a_nil))) e_int)) o_none (o_some (e_sub e_int (e_call tk (f__law_draw Z) (hr.mono (Nat.le_of_ble_eq_true rfl) : Rm 1 _) rfl (z39 Z) (k__law_draw Z) (a_cons (ev 0) (a_cons e_int a_nil)))))))) s_nil)
    (s_one (s_ret (ev 4)))))))
theorem f__law_long_word (Z : FX K mg) : FnD PP w K mg base 4 ((fun K => He.ga K "_law_long_word") K) m__law_long_word := by
  obtain ⟨fd, F0⟩ := Z.df 21 (d := d__law_long_word) rfl rfl
  have F : FunD K "_law_long_word" "_law_long_word" (defArgs s__law_long_word) (defBody s__law_long_word) (defScope s__law_long_word) [] [] ((fun K => He.ga K "_law_long_word") K) fd := cast (by kernel_rfl) F0
  exact fn_ok0 (x := "_law_long_word") (qual := "_law_long_word") (params := defArgs s__law_long_word) (body := defBody s__law_long_word) (scope := defScope s__law_long_word) (kws := []) (N := ["_law_pen_here", "_law_costs_here", "_law_letters_here", "_law_many", "_law_found"]) (ps := ["_law_pen_here", "_law_costs_here"]) (k := 3) (b := b__law_long_word) F ⟨by kernel_rfl, by kernel_rfl, by kernel_rfl, by decide +kernel, by kernel_rfl, by decide +kernel, by decide +kernel⟩ (fun _ _ _ _ _ _ us hl => match us, hl with | [_, _], _ => by kernel_rfl) (c__law_long_word Z)
theorem k__law_long_word (Z : FX K mg) : PySem.W.keepIn K (.ref ((fun K => He.ga K "_law_long_word") K)) = true := Z.keep 21 (d := d__law_long_word) rfl
noncomputable def b__law_shuffled : DS := seqS (par2S 2 3 (consA (argM (listD true) (consA (vM 1) (nilA))) (consA (argM (lstD true) (nilA)) (nilA)))) (seqS (whileS (blM (binM neD (vM 2) (argM (lstD false) (nilA)))) (exprS (bmD isLstD appD (vM 3) (consA (bmD isLstD popD (vM 2) (consA (callM m__law_draw (consA (vM 0) (consA (argM (lenD) (consA (vM 2) (nilA))) (nilA)))) (nilA))) (nilA))))) (retS (vM 3)))
noncomputable def m__law_shuffled : DF := bodyM 2 [] 4 b__law_shuffled
theorem c__law_shuffled (Z : FX K mg) {f : Addr} : BodyD PP w K mg base ["_law_pen_here", "_law_items", "_law_rest", "_law_found"] "_law_shuffled" (defScope s__law_shuffled) f 1 (defBody s__law_shuffled) b__law_shuffled := by
  intro cdv A outer s H E hr
  have nd : (["_law_pen_here", "_law_items", "_law_rest", "_law_found"] : List Str).Nodup := by decide +kernel
  have tk : Takes (cxOf (L2.CX PP w) PP w K mg base ["_law_pen_here", "_law_items", "_law_rest", "_law_found"] "_law_shuffled" (defScope s__law_shuffled) f cdv A outer s H E) (fun c d _ H' => E c d H') := takes_of rfl rfl rfl rfl
  have hp := passes_of (X := cxOf (L2.CX PP w) PP w K mg base ["_law_pen_here", "_law_items", "_law_rest", "_law_found"] "_law_shuffled" (defScope s__law_shuffled) f cdv A outer s H E) rfl
  have hu := hr.rm.units
  have hu1 : _ + 1 < cLine := Nat.lt_of_le_of_lt (Nat.add_le_add_left (by decide : 1 ≤ 64) _) hu
  exact (s_cons (s_par2 rfl nd rfl rfl (by decide) rfl rfl (a_cons (e_callTy call_list_of v_list rfl (z36 Z) (by decide +kernel) (a_cons (ev 1) a_nil)) (a_cons (e_lst true a_nil) a_nil)))
    (s_cons (s_while hp (t_ne hu (ev 2) (e_lst false a_nil)) (s_one (s_expr (e_bm PySem.F.plainAttrs_list PySem.F.slot_list_append PySem.F.type_list_append mt_append ty_lst v_app (ev 3) (a_cons (e_bm PySem.F.plainAttrs_list PySem.F.slot_list_pop PySem.F.type_list_pop mt_popAt ty_lst v_pop (ev 2) (a_cons (e_call tk (f__law_draw Z) (hr.mono (Nat.le_of_ble_eq_true rfl) : Rm 1 _) rfl (z39 Z) (k__law_draw Z) (a_cons (ev 0) (a_cons (e_callB call_len v_len rfl (z9 Z) (by decide +kernel) (a_cons (ev 2) a_nil)) a_nil))) a_nil)) a_nil)))))
    (s_one (s_ret (ev 3)))))
theorem f__law_shuffled (Z : FX K mg) : FnD PP w K mg base 2 ((fun K => He.ga K "_law_shuffled") K) m__law_shuffled := by
  obtain ⟨fd, F0⟩ := Z.df 22 (d := d__law_shuffled) rfl rfl
  have F : FunD K "_law_shuffled" "_law_shuffled" (defArgs s__law_shuffled) (defBody s__law_shuffled) (defScope s__law_shuffled) [] [] ((fun K => He.ga K "_law_shuffled") K) fd := cast (by kernel_rfl) F0
  exact fn_ok0 (x := "_law_shuffled") (qual := "_law_shuffled") (params := defArgs s__law_shuffled) (body := defBody s__law_shuffled) (scope := defScope s__law_shuffled) (kws := []) (N := ["_law_pen_here", "_law_items", "_law_rest", "_law_found"]) (ps := ["_law_pen_here", "_law_items"]) (k := 1) (b := b__law_shuffled) F ⟨by kernel_rfl, by kernel_rfl, by kernel_rfl, by decide +kernel, by kernel_rfl, by decide +kernel, by decide +kernel⟩ (fun _ _ _ _ _ _ us hl => match us, hl with | [_, _], _ => by kernel_rfl) (c__law_shuffled Z)
theorem k__law_shuffled (Z : FX K mg) : PySem.W.keepIn K (.ref ((fun K => He.ga K "_law_shuffled") K)) = true := Z.keep 22 (d := d__law_shuffled) rfl
noncomputable def b__law_beside : DS := seqS (setS 3 (bmD isStrD joinD (cM (.str "")) (consA (argM (listXD false) (consA (vM 1) (nilA))) (nilA)))) (seqS (setS 4 (argM (lstD true) (consA (vM 2) (consA (sliM false (vM 2) (pureM none) (optM (unM negD (cM (.int 1))))) (consA (sliM false (vM 2) (optM (cM (.int 1))) (pureM none)) (consA (unM revD (vM 2)) (consA (binM addD (vM 2) (callM m__law_pick (consA (vM 0) (consA (vM 3) (nilA))))) (consA (callM m__law_long_word (consA (vM 0) (consA (vM 1) (nilA)))) (nilA))))))))) (seqS (exprS (bmD isLstD appD (vM 4) (consA (binM addD (bmD isStrD joinD (cM (.str "")) (consA (callM m__law_shuffled (consA (vM 0) (consA (argM (listXD false) (consA (sliM false (vM 2) (pureM none) (optM (cM (.int 12)))) (nilA))) (nilA)))) (nilA))) (sliM false (vM 2) (optM (cM (.int 12))) (pureM none))) (nilA)))) (retS (sliM false (callM m__law_pick (consA (vM 0) (consA (vM 4) (nilA)))) (pureM none) (optM (cM (.int 160)))))))
noncomputable def m__law_beside : DF := bodyM 3 [] 5 b__law_beside
theorem c__law_beside (Z : FX K mg) {f : Addr} : BodyD PP w K mg base ["_law_pen_here", "_law_costs_here", "_law_word_here", "_law_letters_here", "_law_some"] "_law_beside" (defScope s__law_beside) f 4 (defBody s__law_beside) b__law_beside := by
  intro cdv A outer s H E hr
  have nd : (["_law_pen_here", "_law_costs_here", "_law_word_here", "_law_letters_here", "_law_some"] : List Str).Nodup := by decide +kernel
  have tk : Takes (cxOf (L2.CX PP w) PP w K mg base ["_law_pen_here", "_law_costs_here", "_law_word_here", "_law_letters_here", "_law_some"] "_law_beside" (defScope s__law_beside) f cdv A outer s H E) (fun c d _ H' => E c d H') := takes_of rfl rfl rfl rfl
  have hp := passes_of (X := cxOf (L2.CX PP w) PP w K mg base ["_law_pen_here", "_law_costs_here", "_law_word_here", "_law_letters_here", "_law_some"] "_law_beside" (defScope s__law_beside) f cdv A outer s H E) rfl
  have hu := hr.rm.units
  have hu1 : _ + 1 < cLine := Nat.lt_of_le_of_lt (Nat.add_le_add_left (by decide : 1 ≤ 64) _) hu
  exact (s_cons (s_set nd rfl (by first | exact .inl rfl | exact .inr rfl) (e_bm PySem.F.plainAttrs_str PySem.F.slot_str_join PySem.F.type_str_join mt_join ty_str v_join e_str (a_cons (e_callTy (call_listX rfl) v_listX rfl (z36 Z) (by decide +kernel) (a_cons (ev 1) a_nil)) a_nil)))
    (s_cons (s_set nd rfl (by first | exact .inl rfl | exact .inr rfl) (e_lst true (a_cons (ev 2) (a_cons (e_sli false (ev 2) o_none (o_some (e_neg e_int))) (a_cons (e_sli false (ev 2) (o_some e_int) o_none) (a_cons (e_rev (ev 2)) (a_cons (e_add (ev 2) (e_call tk (f__law_pick Z) (hr.mono (Nat.le_of_ble_eq_true rfl) : Rm 2 _) rfl (z40 Z) (k__law_pick Z) (a_cons (ev 0) (a_cons (ev 3) a_nil)))) (a_cons (e_call tk (f__law_long_word Z) (hr.mono (Nat.le_of_ble_eq_true rfl) : Rm 4 _) rfl (z42 Z) (k__law_long_word Z) (a_cons (ev 0) (a_cons (ev 1) a_nil))) a_nil))))))))
    (s_cons (s_expr (e_bm PySem.F.plainAttrs_list PySem.F.slot_list_append PySem.F.type_list_append mt_append ty_lst v_app (ev 4) (a_cons (e_add (e_bm PySem.F.plainAttrs_str PySem.F.slot_str_join PySem.F.type_str_join mt_join ty_str v_join e_str (a_cons (e_call tk (f__law_shuffled Z) (hr.mono (Nat.le_of_ble_eq_true rfl) : Rm 2 _) rfl (z43 Z) (k__law_shuffled Z) (a_cons (ev 0) (a_cons (e_callTy (call_listX rfl) v_listX rfl (z36 Z) (by decide +kernel) (a_cons (e_sli false (ev 2) o_none (o_some e_int)) a_nil)) a_nil))) a_nil)) (e_sli false (ev 2) (o_some e_int) o_none)) a_nil)))
    (s_one (s_ret (e_sli false (e_call tk (f__law_pick Z) (hr.mono (Nat.le_of_ble_eq_true rfl) : Rm 2 _) rfl (z40 Z) (k__law_pick Z) (a_cons (ev 0) (a_cons (ev 4) a_nil))) o_none (o_some e_int)))))))
theorem f__law_beside (Z : FX K mg) : FnD PP w K mg base 5 ((fun K => He.ga K "_law_beside") K) m__law_beside := by
  obtain ⟨fd, F0⟩ := Z.df 23 (d := d__law_beside) rfl rfl
  have F : FunD K "_law_beside" "_law_beside" (defArgs s__law_beside) (defBody s__law_beside) (defScope s__law_beside) [] [] ((fun K => He.ga K "_law_beside") K) fd := cast (by kernel_rfl) F0
  exact fn_ok0 (x := "_law_beside") (qual := "_law_beside") (params := defArgs s__law_beside) (body := defBody s__law_beside) (scope := defScope s__law_beside) (kws := []) (N := ["_law_pen_here", "_law_costs_here", "_law_word_here", "_law_letters_here", "_law_some"]) (ps := ["_law_pen_here", "_law_costs_here", "_law_word_here"]) (k := 4) (b := b__law_beside) F ⟨by kernel_rfl, by kernel_rfl, by kernel_rfl, by decide +kernel, by kernel_rfl, by decide +kernel, by decide +kernel⟩ (fun _ _ _ _ _ _ us hl => match us, hl with | [_, _, _], _ => by kernel_rfl) (c__law_beside Z)
theorem k__law_beside (Z : FX K mg) : PySem.W.keepIn K (.ref ((fun K => He.ga K "_law_beside") K)) = true := Z.keep 23 (d := d__law_beside) rfl
noncomputable def b__law_cost_of : DS := retS (argM (sumD) (consA (lcM false (seqI (vM 1)) (nameG 2) (yesM) (binM idxD (vM 0) (vM 2)) [2]) (nilA)))
noncomputable def m__law_cost_of : DF := bodyM 2 [] 3 b__law_cost_of
theorem c__law_cost_of (Z : FX K mg) {f : Addr} : BodyD PP w K mg base ["_law_costs_here", "_law_word_here", "_law_letter"] "_law_cost_of" (defScope s__law_cost_of) f 0 (defBody s__law_cost_of) b__law_cost_of := by
  intro cdv A outer s H E hr
  have nd : (["_law_costs_here", "_law_word_here", "_law_letter"] : List Str).Nodup := by decide +kernel
  have tk : Takes (cxOf (L2.CX PP w) PP w K mg base ["_law_costs_here", "_law_word_here", "_law_letter"] "_law_cost_of" (defScope s__law_cost_of) f cdv A outer s H E) (fun c d _ H' => E c d H') := takes_of rfl rfl rfl rfl
  have hp := passes_of (X := cxOf (L2.CX PP w) PP w K mg base ["_law_costs_here", "_law_word_here", "_law_letter"] "_law_cost_of" (defScope s__law_cost_of) f cdv A outer s H E) rfl
  have hu := hr.rm.units
  have hu1 : _ + 1 < cLine := Nat.lt_of_le_of_lt (Nat.add_le_add_left (by decide : 1 ≤ 64) _) hu
  exact (s_one (s_ret (e_callB (cr_sum rfl) v_sum rfl (z28 Z) (by decide +kernel) (a_cons (e_lc false rfl nd (i_seq (ev 1)) (own := ([("_law_letter", 2)] : List (Str × Nat))) (show BlkOk ["_law_costs_here", "_law_word_here", "_law_letter"] (defScope s__law_cost_of) _ _ from ⟨rfl, by decide +kernel, by decide +kernel, by decide +kernel, by decide +kernel⟩) (fun _ _ _ _ _ => (gw_name nd rfl (by first | exact .inl rfl | exact .inr rfl) (by decide))) (fun _ _ _ _ _ => ts_nil) (fun _ _ _ _ _ => (e_idx hu1 (ev 0) (ev 2)))) a_nil))))
theorem f__law_cost_of (Z : FX K mg) : FnD PP w K mg base 1 ((fun K => He.ga K "_law_cost_of") K) m__law_cost_of := by
  obtain ⟨fd, F0⟩ := Z.df 24 (d := d__law_cost_of) rfl rfl
  have F : FunD K "_law_cost_of" "_law_cost_of" (defArgs s__law_cost_of) (defBody s__law_cost_of) (defScope s__law_cost_of) [] [] ((fun K => He.ga K "_law_cost_of") K) fd := cast (by kernel_rfl) F0
  exact fn_ok0 (x := "_law_cost_of") (qual := "_law_cost_of") (params := defArgs s__law_cost_of) (body := defBody s__law_cost_of) (scope := defScope s__law_cost_of) (kws := []) (N := ["_law_costs_here", "_law_word_here", "_law_letter"]) (ps := ["_law_costs_here", "_law_word_here"]) (k := 0) (b := b__law_cost_of) F ⟨by kernel_rfl, by kernel_rfl, by kernel_rfl, by decide +kernel, by kernel_rfl, by decide +kernel, by decide +kernel⟩ (fun _ _ _ _ _ _ us hl => match us, hl with | [_, _], _ => by kernel_rfl) (c__law_cost_of Z)
theorem k__law_cost_of (Z : FX K mg) : PySem.W.keepIn K (.ref ((fun K => He.ga K "_law_cost_of") K)) = true := Z.keep 24 (d := d__law_cost_of) rfl
noncomputable def b__law_costs : DS := retS (argM (dictPD false) (consA (lcM false (seqI (vM 1)) (nameG 2) (yesM) (argM tupD (consA (vM 2) (consA (callM m__law_pick (consA (vM 0) (consA (argM (lstD false) (consA (cM (.int 1)) (consA (cM (.int 1)) (consA (cM (.int 1)) (consA (cM (.int 2)) (consA (cM (.int 2)) (consA (cM (.int 3)) (consA (cM (.int 9)) (nilA))))))))) (nilA)))) (nilA)))) [2]) (nilA)))
noncomputable def m__law_costs : DF := bodyM 2 [] 3 b__law_costs
theorem c__law_costs (Z : FX K mg) {f : Addr} : BodyD PP w K mg base ["_law_pen_here", "_law_letters_here", "_law_letter"] "_law_costs" (defScope s__law_costs) f 2 (defBody s__law_costs) b__law_costs := by
  intro cdv A outer s H E hr
  have nd : (["_law_pen_here", "_law_letters_here", "_law_letter"] : List Str).Nodup := by decide +kernel
  have tk : Takes (cxOf (L2.CX PP w) PP w K mg base ["_law_pen_here", "_law_letters_here", "_law_letter"] "_law_costs" (defScope s__law_costs) f cdv A outer s H E) (fun c d _ H' => E c d H') := takes_of rfl rfl rfl rfl
  have hp := passes_of (X := cxOf (L2.CX PP w) PP w K mg base ["_law_pen_here", "_law_letters_here", "_law_letter"] "_law_costs" (defScope s__law_costs) f cdv A outer s H E) rfl
  have hu := hr.rm.units
  have hu1 : _ + 1 < cLine := Nat.lt_of_le_of_lt (Nat.add_le_add_left (by decide : 1 ≤ 64) _) hu
  exact (s_one (s_ret (e_dict false rfl rfl (z34 Z) (a_cons (e_lc false rfl nd (i_seq (ev 1)) (own := ([("_law_letter", 2)] : List (Str × Nat))) (show BlkOk ["_law_pen_here", "_law_letters_here", "_law_letter"] (defScope s__law_costs) _ _ from ⟨rfl, by decide +kernel, by decide +kernel, by decide +kernel, by decide +kernel⟩) (fun _ _ _ _ _ => (gw_name nd rfl (by first | exact .inl rfl | exact .inr rfl) (by decide))) (fun _ _ _ _ _ => ts_nil) (fun _ _ _ _ _ => (e_tup (a_cons (ev 2) (a_cons (e_call takes_blk (f__law_pick Z) (hr.mono (Nat.le_of_ble_eq_true rfl) : Rm 2 _) rfl (z40 Z) (k__law_pick Z) (a_cons (ev 0) (a_cons (e_lst false (a_cons e_int (a_cons e_int (a_cons e_int (a_cons e_int (a_cons e_int (a_cons e_int (a_cons e_int a_nil)))))))) a_nil))) a_nil))))) a_nil))))
theorem f__law_costs (Z : FX K mg) : FnD PP w K mg base 3 ((fun K => He.ga K "_law_costs") K) m__law_costs := by
  obtain ⟨fd, F0⟩ := Z.df 25 (d := d__law_costs) rfl rfl
  have F : FunD K "_law_costs" "_law_costs" (defArgs s__law_costs) (defBody s__law_costs) (defScope s__law_costs) [] [] ((fun K => He.ga K "_law_costs") K) fd := cast (by kernel_rfl) F0
  exact fn_ok0 (x := "_law_costs") (qual := "_law_costs") (params := defArgs s__law_costs) (body := defBody s__law_costs) (scope := defScope s__law_costs) (kws := []) (N := ["_law_pen_here", "_law_letters_here", "_law_letter"]) (ps := ["_law_pen_here", "_law_letters_here"]) (k := 2) (b := b__law_costs) F ⟨by kernel_rfl, by kernel_rfl, by kernel_rfl, by decide +kernel, by kernel_rfl, by decide +kernel, by decide +kernel⟩ (fun _ _ _ _ _ _ us hl => match us, hl with | [_, _], _ => by kernel_rfl) (c__law_costs Z)
theorem k__law_costs (Z : FX K mg) : PySem.W.keepIn K (.ref ((fun K => He.ga K "_law_costs") K)) = true := Z.keep 25 (d := d__law_costs) rfl
noncomputable def b__law_is_word : DS := seqS (ifS (orT (notT (truM (argM (isiD it0) (consA (vM 1) (consA (cM (.ty "str")) (nilA)))))) (blM (binM gtI (argM (lenD) (consA (vM 1) (nilA))) (cM (.int 160))))) (retS (cM (.bl false))) (skipS)) (retS ((binM eqD (lcM false (seqI (vM 1)) (nameG 2) (blM (binM (inD true) (vM 2) (vM 0))) (vM 2) [2]) (argM (lstD false) (nilA)))))
noncomputable def m__law_is_word : DF := bodyM 2 [] 3 b__law_is_word
theorem c__law_is_word (Z : FX K mg) {f : Addr} : BodyD PP w K mg base ["_law_letters_here", "_law_thing", "_law_letter"] "_law_is_word" (defScope s__law_is_word) f 0 (defBody s__law_is_word) b__law_is_word := by
  intro cdv A outer s H E hr
  have nd : (["_law_letters_here", "_law_thing", "_law_letter"] : List Str).Nodup := by decide +kernel
  have tk : Takes (cxOf (L2.CX PP w) PP w K mg base ["_law_letters_here", "_law_thing", "_law_letter"] "_law_is_word" (defScope s__law_is_word) f cdv A outer s H E) (fun c d _ H' => E c d H') := takes_of rfl rfl rfl rfl
  have hp := passes_of (X := cxOf (L2.CX PP w) PP w K mg base ["_law_letters_here", "_law_thing", "_law_letter"] "_law_is_word" (defScope s__law_is_word) f cdv A outer s H E) rfl
  have hu := hr.rm.units
  have hu1 : _ + 1 < cLine := Nat.lt_of_le_of_lt (Nat.add_le_add_left (by decide : 1 ≤ 64) _) hu
  exact (s_cons (s_if (PW.pt (w_or (t_not (t_truth (e_callB call_isi (v_isi (z_isi Z)) rfl (z8 Z) (by decide +kernel) (a_cons (ev 1) (a_cons (e_ty (n := "str") rfl (z7 Z) (by decide +kernel)) a_nil))))) (w_or1 (t_gt (e_callB call_len v_len rfl (z9 Z) (by decide +kernel) (a_cons (ev 1) a_nil)) e_int)))) (s_one (s_ret e_bl)) s_nil)
    (s_one (s_ret (e_eq hu (e_lc false rfl nd (i_seq (ev 1)) (own := ([("_law_letter", 2)] : List (Str × Nat))) (show BlkOk ["_law_letters_here", "_law_thing", "_law_letter"] (defScope s__law_is_word) _ _ from ⟨rfl, by decide +kernel, by decide +kernel, by decide +kernel, by decide +kernel⟩) (fun _ _ _ _ _ => (gw_name nd rfl (by first | exact .inl rfl | exact .inr rfl) (by decide))) (fun _ _ _ _ _ => (ts_one (t_notIn hu1 (ev 2) (ev 0)))) (fun _ _ _ _ _ => (ev 2))) (e_lst false a_nil)))))
theorem f__law_is_word (Z : FX K mg) : FnD PP w K mg base 1 ((fun K => He.ga K "_law_is_word") K) m__law_is_word := by
  obtain ⟨fd, F0⟩ := Z.df 26 (d := d__law_is_word) rfl rfl
  have F : FunD K "_law_is_word" "_law_is_word" (defArgs s__law_is_word) (defBody s__law_is_word) (defScope s__law_is_word) [] [] ((fun K => He.ga K "_law_is_word") K) fd := cast (by kernel_rfl) F0
  exact fn_ok0 (x := "_law_is_word") (qual := "_law_is_word") (params := defArgs s__law_is_word) (body := defBody s__law_is_word) (scope := defScope s__law_is_word) (kws := []) (N := ["_law_letters_here", "_law_thing", "_law_letter"]) (ps := ["_law_letters_here", "_law_thing"]) (k := 0) (b := b__law_is_word) F ⟨by kernel_rfl, by kernel_rfl, by kernel_rfl, by decide +kernel, by kernel_rfl, by decide +kernel, by decide +kernel⟩ (fun _ _ _ _ _ _ us hl => match us, hl with | [_, _], _ => by kernel_rfl) (c__law_is_word Z)
theorem k__law_is_word (Z : FX K mg) : PySem.W.keepIn K (.ref ((fun K => He.ga K "_law_is_word") K)) = true := Z.keep 26 (d := d__law_is_word) rfl
noncomputable def b__law_letters : DS := seqS (setS 2 (argM sortedD (consA (sliM false (callM m__law_shuffled (consA (vM 0) (consA (listRgM false (cM (.int 26))) (nilA)))) (pureM none) (optM (binM addD (cM (.int 1)) (callM m__law_draw (consA (vM 0) (consA (vM 1) (nilA))))))) (nilA)))) (retS (bmD isStrD joinD (cM (.str "")) (consA (lcM false (seqI (vM 2)) (nameG 3) (yesM) (binM idxD (cM (.str "abcdefghijklmnopqrstuvwxyz")) (vM 3)) [3]) (nilA))))
noncomputable def m__law_letters : DF := bodyM 2 [] 4 b__law_letters
theorem c__law_letters (Z : FX K mg) {f : Addr} : BodyD PP w K mg base ["_law_pen_here", "_law_most", "_law_places", "_law_place"] "_law_letters" (defScope s__law_letters) f 2 (defBody s__law_letters) b__law_letters := by
  intro cdv A outer s H E hr
  have nd : (["_law_pen_here", "_law_most", "_law_places", "_law_place"] : List Str).Nodup := by decide +kernel
  have tk : Takes (cxOf (L2.CX PP w) PP w K mg base ["_law_pen_here", "_law_most", "_law_places", "_law_place"] "_law_letters" (defScope s__law_letters) f cdv A outer s H E) (fun c d _ H' => E c d H') := takes_of rfl rfl rfl rfl
  have hp := passes_of (X := cxOf (L2.CX PP w) PP w K mg base ["_law_pen_here", "_law_most", "_law_places", "_law_place"] "_law_letters" (defScope s__law_letters) f cdv A outer s H E) rfl
  have hu := hr.rm.units
  have hu1 : _ + 1 < cLine := Nat.lt_of_le_of_lt (Nat.add_le_add_left (by decide : 1 ≤ 64) _) hu
  exact (s_cons (s_set nd rfl (by first | exact .inl rfl | exact .inr rfl) (e_callB (cr_sortedAll rfl) v_sorted rfl (z22 Z) (by decide +kernel) (a_cons (e_sli false (e_call tk (f__law_shuffled Z) (hr.mono (Nat.le_of_ble_eq_true rfl) : Rm 2 _) rfl (z43 Z) (k__law_shuffled Z) (a_cons (ev 0) (a_cons (e_listRg false rfl rfl (z36 Z) rfl (z16 Z) e_int) a_nil))) o_none (o_some (e_add e_int (e_call tk (f__law_draw Z) (hr.mono (Nat.le_of_ble_eq_true rfl) : Rm 1 _) rfl (z39 Z) (k__law_draw Z) (a_cons (ev 0) (a_cons (ev 1) a_nil)))))) a_nil)))
    (s_one (s_ret (e_bm PySem.F.plainAttrs_str PySem.F.slot_str_join PySem.F.type_str_join mt_join ty_str v_join e_str (a_cons (e_lc false rfl nd (i_seq (ev 2)) (own := ([("_law_place", 3)] : List (Str × Nat))) (show BlkOk ["_law_pen_here", "_law_most", "_law_places", "_law_place"] (defScope s__law_letters) _ _ from ⟨rfl, by decide +kernel, by decide +kernel, by decide +kernel, by decide +kernel⟩) (fun _ _ _ _ _ => (gw_name nd rfl (by first | exact .inl rfl | exact .inr rfl) (by decide))) (fun _ _ _ _ _ => ts_nil) (fun _ _ _ _ _ => (e_idx hu1 e_str (ev 3)))) a_nil)))))
theorem f__law_letters (Z : FX K mg) : FnD PP w K mg base 3 ((fun K => He.ga K "_law_letters") K) m__law_letters := by
  obtain ⟨fd, F0⟩ := Z.df 27 (d := d__law_letters) rfl rfl
  have F : FunD K "_law_letters" "_law_letters" (defArgs s__law_letters) (defBody s__law_letters) (defScope s__law_letters) [] [] ((fun K => He.ga K "_law_letters") K) fd := cast (by kernel_rfl) F0
  exact fn_ok0 (x := "_law_letters") (qual := "_law_letters") (params := defArgs s__law_letters) (body := defBody s__law_letters) (scope := defScope s__law_letters) (kws := []) (N := ["_law_pen_here", "_law_most", "_law_places", "_law_place"]) (ps := ["_law_pen_here", "_law_most"]) (k := 2) (b := b__law_letters) F ⟨by kernel_rfl, by kernel_rfl, by kernel_rfl, by decide +kernel, by kernel_rfl, by decide +kernel, by decide +kernel⟩ (fun _ _ _ _ _ _ us hl => match us, hl with | [_, _], _ => by kernel_rfl) (c__law_letters Z)
theorem k__law_letters (Z : FX K mg) : PySem.W.keepIn K (.ref ((fun K => He.ga K "_law_letters") K)) = true := Z.keep 27 (d := d__law_letters) rfl
noncomputable def b__law_lettered : DS := retS (callM m__law_costs (consA (vM 0) (consA (callM m__law_letters (consA (vM 0) (consA (vM 1) (nilA)))) (nilA))))
noncomputable def m__law_lettered : DF := bodyM 2 [] 2 b__law_lettered
theorem c__law_lettered (Z : FX K mg) {f : Addr} : BodyD PP w K mg base ["_law_pen_here", "_law_most"] "_law_lettered" (defScope s__law_lettered) f 3 (defBody s__law_lettered) b__law_lettered := by
  intro cdv A outer s H E hr
  have nd : (["_law_pen_here", "_law_most"] : List Str).Nodup := by decide +kernel
  have tk : Takes (cxOf (L2.CX PP w) PP w K mg base ["_law_pen_here", "_law_most"] "_law_lettered" (defScope s__law_lettered) f cdv A outer s H E) (fun c d _ H' => E c d H') := takes_of rfl rfl rfl rfl
  have hp := passes_of (X := cxOf (L2.CX PP w) PP w K mg base ["_law_pen_here", "_law_most"] "_law_lettered" (defScope s__law_lettered) f cdv A outer s H E) rfl
  have hu := hr.rm.units
  have hu1 : _ + 1 < cLine := Nat.lt_of_le_of_lt (Nat.add_le_add_left (by decide : 1 ≤ 64) _) hu
  exact (s_one (s_ret (e_call tk (f__law_costs Z) (hr.mono (Nat.le_of_ble_eq_true rfl) : Rm 3 _) rfl (z45 Z) (k__law_costs Z) (a_cons (ev 0) (a_cons (e_call tk (f__law_letters Z) (hr.mono (Nat.le_of_ble_eq_true rfl) : Rm 3 _) rfl (z44 Z) (k__law_letters Z) (a_cons (ev 0) (a_cons (ev 1) a_nil))) a_nil)))))
theorem f__law_lettered (Z : FX K mg) : FnD PP w K mg base 4 ((fun K => He.ga K "_law_lettered") K) m__law_lettered := by
  obtain ⟨fd, F0⟩ := Z.df 28 (d := d__law_lettered) rfl rfl
  have F : FunD K "_law_lettered" "_law_lettered" (defArgs s__law_lettered) (defBody s__law_lettered) (defScope s__law_lettered) [] [] ((fun K => He.ga K "_law_lettered") K) fd := cast (by kernel_rfl) F0
  exact fn_ok0 (x := "_law_lettered") (qual := "_law_lettered") (params := defArgs s__law_lettered) (body := defBody s__law_lettered) (scope := defScope s__law_lettered) (kws := []) (N := ["_law_pen_here", "_law_most"]) (ps := ["_law_pen_here", "_law_most"]) (k := 3) (b := b__law_lettered) F ⟨by kernel_rfl, by kernel_rfl, by kernel_rfl, by decide +kernel, by kernel_rfl, by decide +kernel, by decide +kernel⟩ (fun _ _ _ _ _ _ us hl => match us, hl with | [_, _], _ => by kernel_rfl) (c__law_lettered Z)
theorem k__law_lettered (Z : FX K mg) : PySem.W.keepIn K (.ref ((fun K => He.ga K "_law_lettered") K)) = true := Z.keep 28 (d := d__law_lettered) rfl
noncomputable def b__law_made_order : DS := retS (callM m_Order_of_costs (consA (cM (.glo "Order")) (consA (argM (dictPD false) (consA (lcM false (seqI (callM m__law_shuffled (consA (vM 0) (consA (argM (listKD false) (consA (vM 1) (nilA))) (nilA))))) (nameG 2) (yesM) (argM tupD (consA (vM 2) (consA (binM idxD (vM 1) (vM 2)) (nilA)))) [2]) (nilA))) (nilA))))
noncomputable def m__law_made_order : DF := bodyM 2 [] 3 b__law_made_order
theorem c__law_made_order (Z : FX K mg) {f : Addr} : BodyD PP w K mg base ["_law_pen_here", "_law_costs_here", "_law_letter"] "_law_made_order" (defScope s__law_made_order) f 5 (defBody s__law_made_order) b__law_made_order := by
  intro cdv A outer s H E hr
  have nd : (["_law_pen_here", "_law_costs_here", "_law_letter"] : List Str).Nodup := by decide +kernel
  have tk : Takes (cxOf (L2.CX PP w) PP w K mg base ["_law_pen_here", "_law_costs_here", "_law_letter"] "_law_made_order" (defScope s__law_made_order) f cdv A outer s H E) (fun c d _ H' => E c d H') := takes_of rfl rfl rfl rfl
  have hp := passes_of (X := cxOf (L2.CX PP w) PP w K mg base ["_law_pen_here", "_law_costs_here", "_law_letter"] "_law_made_order" (defScope s__law_made_order) f cdv A outer s H E) rfl
  have hu := hr.rm.units
  have hu1 : _ + 1 < cLine := Nat.lt_of_le_of_lt (Nat.add_le_add_left (by decide : 1 ≤ 64) _) hu
  exact (s_one (s_ret (e_cmeth tk (z46 Z) (z47 Z) (f_Order_of_costs Z) (hr.mono (Nat.le_of_ble_eq_true rfl) : Rm 5 _) rfl (z48 Z) (a_cons (e_dict false rfl rfl (z34 Z) (a_cons (e_lc false rfl nd (i_seq (e_call tk (f__law_shuffled Z) (hr.mono (Nat.le_of_ble_eq_true rfl) : Rm 2 _) rfl (z43 Z) (k__law_shuffled Z) (a_cons (ev 0) (a_cons (e_callTy (call_listK rfl) v_listK rfl (z36 Z) (by decide +kernel) (a_cons (ev 1) a_nil)) a_nil)))) (own := ([("_law_letter", 2)] : List (Str × Nat))) (show BlkOk ["_law_pen_here", "_law_costs_here", "_law_letter"] (defScope s__law_made_order) _ _ from ⟨rfl, by decide +kernel, by decide +kernel, by decide +kernel, by decide +kernel⟩) (fun _ _ _ _ _ => (gw_name nd rfl (by first | exact .inl rfl | exact .inr rfl) (by decide))) (fun _ _ _ _ _ => ts_nil) (fun _ _ _ _ _ => (e_tup (a_cons (ev 2) (a_cons (e_idx hu1 (ev 1) (ev 2)) a_nil))))) a_nil)) a_nil))))
theorem f__law_made_order (Z : FX K mg) : FnD PP w K mg base 6 ((fun K => He.ga K "_law_made_order") K) m__law_made_order := by
  obtain ⟨fd, F0⟩ := Z.df 29 (d := d__law_made_order) rfl rfl
  have F : FunD K "_law_made_order" "_law_made_order" (defArgs s__law_made_order) (defBody s__law_made_order) (defScope s__law_made_order) [] [] ((fun K => He.ga K "_law_made_order") K) fd := cast (by kernel_rfl) F0
  exact fn_ok0 (x := "_law_made_order") (qual := "_law_made_order") (params := defArgs s__law_made_order) (body := defBody s__law_made_order) (scope := defScope s__law_made_order) (kws := []) (N := ["_law_pen_here", "_law_costs_here", "_law_letter"]) (ps := ["_law_pen_here", "_law_costs_here"]) (k := 5) (b := b__law_made_order) F ⟨by kernel_rfl, by kernel_rfl, by kernel_rfl, by decide +kernel, by kernel_rfl, by decide +kernel, by decide +kernel⟩ (fun _ _ _ _ _ _ us hl => match us, hl with | [_, _], _ => by kernel_rfl) (c__law_made_order Z)
theorem k__law_made_order (Z : FX K mg) : PySem.W.keepIn K (.ref ((fun K => He.ga K "_law_made_order") K)) = true := Z.keep 29 (d := d__law_made_order) rfl
noncomputable def b__law_odd : DS := seqS (setS 1 (argM (lstD false) (consA (cM .non) (consA (cM (.bl true)) (consA (cM (.bl false)) (consA (cM (.int 0)) (consA (cM (.int 1)) (consA (unM negD (cM (.int 1))) (consA (cM (.int 2)) (consA (cM (.int 7)) (consA (cM (.int 160)) (consA (cM (.int 161)) (consA (binM powD (cM (.int 10)) (cM (.int 30))) (consA (cM (.str "")) (consA (cM (.str "a")) (consA (cM (.str "b")) (consA (cM (.str "ab")) (consA (cM (.str "ba")) (nilA))))))))))))))))))) (seqS (setS 1 (binM addD (vM 1) (argM (lstD false) (consA (binM mulD (binM mulD (binM powD (cM (.int 10)) (cM (.int 50))) (binM powD (cM (.int 10)) (cM (.int 50)))) (binM powD (cM (.int 10)) (cM (.int 9)))) (consA (binM subD (cM (.int 0)) (binM mulD (binM mulD (binM powD (cM (.int 10)) (cM (.int 50))) (binM powD (cM (.int 10)) (cM (.int 50)))) (binM powD (cM (.int 10)) (cM (.int 9))))) (nilA)))))) (seqS (setS 1 (binM addD (vM 1) (argM (lstD false) (consA (cM (.str "A")) (consA (cM (.str "0")) (consA (cM (.str "1")) (consA (cM (.str "1/2")) (consA (cM (.str "fractions")) (consA (cM (.str "modulo 7")) (consA (cM (.str "a b")) (consA (cM (.str " ")) (consA (cM (.str "aa")) (consA (cM (.str "abcde")) (consA (argM tupD (nilA)) (consA (argM (lstD false) (nilA)) (consA (disp0M) (consA (argM tupD (consA (cM (.str "a")) (nilA))) (consA (argM (lstD false) (consA (cM (.str "a")) (nilA))) (nilA))))))))))))))))))) (seqS (setS 1 (binM addD (vM 1) (argM (lstD false) (consA (argM (lstD false) (consA (cM (.int 1)) (nilA))) (consA (argM tupD (consA (cM (.int 1)) (consA (cM (.int 2)) (nilA)))) (consA (argM tupD (consA (cM (.int 2)) (consA (cM (.int 4)) (nilA)))) (consA (argM tupD (consA (cM (.int 0)) (consA (cM (.int 2)) (nilA)))) (consA (argM tupD (consA (cM (.int 1)) (consA (cM (.int 1)) (nilA)))) (consA (argM tupD (consA (cM (.int 1)) (consA (cM (.int 0)) (nilA)))) (consA (argM tupD (consA (cM (.int 1)) (consA (unM negD (cM (.int 2))) (nilA)))) (consA (argM tupD (consA (cM (.bl true)) (consA (cM (.int 2)) (nilA)))) (consA (argM (lstD false) (consA (cM (.int 1)) (consA (cM (.int 2)) (nilA)))) (consA (argM tupD (consA (cM (.int 1)) (consA (cM (.int 2)) (consA (cM (.int 3)) (nilA))))) (consA (dispM [(cM (.str "a"), cM (.int 1))]) (nilA))))))))))))))) (retS (callM m__law_pick (consA (vM 0) (consA (vM 1) (nilA))))))))
noncomputable def m__law_odd : DF := bodyM 1 [] 2 b__law_odd
theorem c__law_odd (Z : FX K mg) {f : Addr} : BodyD PP w K mg base ["_law_pen_here", "_law_some"] "_law_odd" (defScope s__law_odd) f 2 (defBody s__law_odd) b__law_odd := by
  intro cdv A outer s H E hr
  have nd : (["_law_pen_here", "_law_some"] : List Str).Nodup := by decide +kernel
  have tk : Takes (cxOf (L2.CX PP w) PP w K mg base ["_law_pen_here", "_law_some"] "_law_odd" (defScope s__law_odd) f cdv A outer s H E) (fun c d _ H' => E c d H') := takes_of rfl rfl rfl rfl
  have hp := passes_of (X := cxOf (L2.CX PP w) PP w K mg base ["_law_pen_here", "_law_some"] "_law_odd" (defScope s__law_odd) f cdv A outer s H E) rfl
  have hu := hr.rm.units
  have hu1 : _ + 1 < cLine := Nat.lt_of_le_of_lt (Nat.add_le_add_left (by decide : 1 ≤ 64) _) hu
  exact (s_cons (s_set nd rfl (by first | exact .inl rfl | exact .inr rfl) (e_lst false (a_cons e_non (a_cons e_bl (a_cons e_bl (a_cons e_int (a_cons e_int (a_cons (e_neg e_int) (a_cons e_int (a_cons e_int (a_cons e_int (a_cons e_int (a_cons (e_pow e_int e_int) (a_cons e_str (a_cons e_str (a_cons e_str (a_cons e_str (a_cons e_str a_nil))))))))))))))))))
    (s_cons (s_set nd rfl (by first | exact .inl rfl | exact .inr rfl) (e_add (ev 1) (e_lst false (a_cons (e_mul (e_mul (e_pow e_int e_int) (e_pow e_int e_int)) (e_pow e_int e_int)) (a_cons (e_sub e_int (e_mul (e_mul (e_pow e_int e_int) (e_pow e_int e_int)) (e_pow e_int e_int))) a_nil)))))
    (s_cons (s_set nd rfl (by first | exact .inl rfl | exact .inr rfl) (e_add (ev 1) (e_lst false (a_cons e_str (a_cons e_str (a_cons e_str (a_cons e_str (a_cons e_str (a_cons e_str (a_cons e_str (a_cons e_str (a_cons e_str (a_cons e_str (a_cons (e_tup a_nil) (a_cons (e_lst false a_nil) (a_cons e_disp0 (a_cons (e_tup (a_cons e_str a_nil)) (a_cons (e_lst false (a_cons e_str a_nil)) a_nil))))))))))))))))))
    (s_cons (s_set nd rfl (by first | exact .inl rfl | exact .inr rfl) (e_add (ev 1) (e_lst false (a_cons (e_lst false (a_cons e_int a_nil)) (a_cons (e_tup (a_cons e_int (a_cons e_int a_nil))) (a_cons (e_tup (a_cons e_int (a_cons e_int a_nil))) (a_cons (e_tup (a_cons e_int (a_cons e_int a_nil))) (a_cons (e_tup (a_cons e_int (a_cons e_int a_nil))) (a_cons (e_tup (a_cons e_int (a_cons e_int a_nil))) (a_cons (e_tup (a_cons e_int (a_cons (e_neg e_int) a_nil))) (a_cons (e_tup (a_cons e_bl (a_cons e_int a_nil))) (a_cons (e_lst false (a_cons e_int (a_cons e_int a_nil))) (a_cons (e_tup (a_cons e_int (a_cons e_int (a_cons e_int a_nil)))) (a_cons (e_disp (pp_cons e_str e_int pp_nil)) a_nil))))))))))))))
    (s_one (s_ret (e_call tk (f__law_pick Z) (hr.mono (Nat.le_of_ble_eq_true rfl) : Rm 2 _) rfl (z40 Z) (k__law_pick Z) (a_cons (ev 0) (a_cons (ev 1) a_nil)))))))))
theorem f__law_odd (Z : FX K mg) : FnD PP w K mg base 3 ((fun K => He.ga K "_law_odd") K) m__law_odd := by
  obtain ⟨fd, F0⟩ := Z.df 30 (d := d__law_odd) rfl rfl
  have F : FunD K "_law_odd" "_law_odd" (defArgs s__law_odd) (defBody s__law_odd) (defScope s__law_odd) [] [] ((fun K => He.ga K "_law_odd") K) fd := cast (by kernel_rfl) F0
  exact fn_ok0 (x := "_law_odd") (qual := "_law_odd") (params := defArgs s__law_odd) (body := defBody s__law_odd) (scope := defScope s__law_odd) (kws := []) (N := ["_law_pen_here", "_law_some"]) (ps := ["_law_pen_here"]) (k := 2) (b := b__law_odd) F ⟨by kernel_rfl, by kernel_rfl, by kernel_rfl, by decide +kernel, by kernel_rfl, by decide +kernel, by decide +kernel⟩ (fun _ _ _ _ _ _ us hl => match us, hl with | [_], _ => by kernel_rfl) (c__law_odd Z)
theorem k__law_odd (Z : FX K mg) : PySem.W.keepIn K (.ref ((fun K => He.ga K "_law_odd") K)) = true := Z.keep 30 (d := d__law_odd) rfl
noncomputable def b__law_pen : DS := retS (dispM [(cM (.str "cells"), argM (listD false) (consA (sliM false (vM 0) (pureM none) (optM (cM (.int 63)))) (nilA))), (cM (.str "begun"), cM (.int 0)), (cM (.str "left"), cM (.int 0))])
noncomputable def m__law_pen : DF := bodyM 1 [] 1 b__law_pen
theorem c__law_pen (Z : FX K mg) {f : Addr} : BodyD PP w K mg base ["_law_script"] "_law_pen" (defScope s__law_pen) f 0 (defBody s__law_pen) b__law_pen := by
  intro cdv A outer s H E hr
  have nd : (["_law_script"] : List Str).Nodup := by decide +kernel
  have tk : Takes (cxOf (L2.CX PP w) PP w K mg base ["_law_script"] "_law_pen" (defScope s__law_pen) f cdv A outer s H E) (fun c d _ H' => E c d H') := takes_of rfl rfl rfl rfl
  have hp := passes_of (X := cxOf (L2.CX PP w) PP w K mg base ["_law_script"] "_law_pen" (defScope s__law_pen) f cdv A outer s H E) rfl
  have hu := hr.rm.units
  have hu1 : _ + 1 < cLine := Nat.lt_of_le_of_lt (Nat.add_le_add_left (by decide : 1 ≤ 64) _) hu
  exact (s_one (s_ret (e_disp (pp_cons e_str (e_callTy call_list_of v_list rfl (z36 Z) (by decide +kernel) (a_cons (e_sli false (ev 0) o_none (o_some e_int)) a_nil)) (pp_cons e_str e_int (pp_cons e_str e_int pp_nil))))))
theorem f__law_pen (Z : FX K mg) : FnD PP w K mg base 1 ((fun K => He.ga K "_law_pen") K) m__law_pen := by
  obtain ⟨fd, F0⟩ := Z.df 31 (d := d__law_pen) rfl rfl
  have F : FunD K "_law_pen" "_law_pen" (defArgs s__law_pen) (defBody s__law_pen) (defScope s__law_pen) [] [] ((fun K => He.ga K "_law_pen") K) fd := cast (by kernel_rfl) F0
  exact fn_ok0 (x := "_law_pen") (qual := "_law_pen") (params := defArgs s__law_pen) (body := defBody s__law_pen) (scope := defScope s__law_pen) (kws := []) (N := ["_law_script"]) (ps := ["_law_script"]) (k := 0) (b := b__law_pen) F ⟨by kernel_rfl, by kernel_rfl, by kernel_rfl, by decide +kernel, by kernel_rfl, by decide +kernel, by decide +kernel⟩ (fun _ _ _ _ _ _ us hl => match us, hl with | [_], _ => by kernel_rfl) (c__law_pen Z)
theorem k__law_pen (Z : FX K mg) : PySem.W.keepIn K (.ref ((fun K => He.ga K "_law_pen") K)) = true := Z.keep 31 (d := d__law_pen) rfl
noncomputable def b__law_rank : DS := retS (argM tupD (consA (callM m__law_cost_of (consA (vM 0) (consA (vM 1) (nilA)))) (consA (vM 1) (nilA))))
noncomputable def m__law_rank : DF := bodyM 2 [] 2 b__law_rank
theorem c__law_rank (Z : FX K mg) {f : Addr} : BodyD PP w K mg base ["_law_costs_here", "_law_word_here"] "_law_rank" (defScope s__law_rank) f 1 (defBody s__law_rank) b__law_rank := by
  intro cdv A outer s H E hr
  have nd : (["_law_costs_here", "_law_word_here"] : List Str).Nodup := by decide +kernel
  have tk : Takes (cxOf (L2.CX PP w) PP w K mg base ["_law_costs_here", "_law_word_here"] "_law_rank" (defScope s__law_rank) f cdv A outer s H E) (fun c d _ H' => E c d H') := takes_of rfl rfl rfl rfl
  have hp := passes_of (X := cxOf (L2.CX PP w) PP w K mg base ["_law_costs_here", "_law_word_here"] "_law_rank" (defScope s__law_rank) f cdv A outer s H E) rfl
  have hu := hr.rm.units
  have hu1 : _ + 1 < cLine := Nat.lt_of_le_of_lt (Nat.add_le_add_left (by decide : 1 ≤ 64) _) hu
  exact (s_one (s_ret (e_tup (a_cons (e_call tk (f__law_cost_of Z) (hr.mono (Nat.le_of_ble_eq_true rfl) : Rm 1 _) rfl (z49 Z) (k__law_cost_of Z) (a_cons (ev 0) (a_cons (ev 1) a_nil))) (a_cons (ev 1) a_nil)))))
theorem f__law_rank (Z : FX K mg) : FnD PP w K mg base 2 ((fun K => He.ga K "_law_rank") K) m__law_rank := by
  obtain ⟨fd, F0⟩ := Z.df 32 (d := d__law_rank) rfl rfl
  have F : FunD K "_law_rank" "_law_rank" (defArgs s__law_rank) (defBody s__law_rank) (defScope s__law_rank) [] [] ((fun K => He.ga K "_law_rank") K) fd := cast (by kernel_rfl) F0
  exact fn_ok0 (x := "_law_rank") (qual := "_law_rank") (params := defArgs s__law_rank) (body := defBody s__law_rank) (scope := defScope s__law_rank) (kws := []) (N := ["_law_costs_here", "_law_word_here"]) (ps := ["_law_costs_here", "_law_word_here"]) (k := 1) (b := b__law_rank) F ⟨by kernel_rfl, by kernel_rfl, by kernel_rfl, by decide +kernel, by kernel_rfl, by decide +kernel, by decide +kernel⟩ (fun _ _ _ _ _ _ us hl => match us, hl with | [_, _], _ => by kernel_rfl) (c__law_rank Z)
theorem k__law_rank (Z : FX K mg) : PySem.W.keepIn K (.ref ((fun K => He.ga K "_law_rank") K)) = true := Z.keep 32 (d := d__law_rank) rfl
noncomputable def b_law : DS := seqS (setS 1 (callM m__law_pen (consA (vM 0) (nilA)))) (seqS (forS (argI rangeD1 (consA (cM (.int 12)) (nilA))) (nameG 2) (seqS (setS 3 (callM m__law_lettered (consA (vM 1) (consA (cM (.int 4)) (nilA))))) (seqS (asgS (argM tupD (consA (callM m__law_made_order (consA (vM 1) (consA (vM 3) (nilA)))) (consA (callM m__law_long_word (consA (vM 1) (consA (vM 3) (nilA)))) (nilA)))) (tupG 2 (consG (nameG 10) (consG (nameG 11) (nilG))))) (seqS (setS 4 (binM addD (argM (lstD false) (consA (vM 11) (nilA))) (lcM false (argI rangeD1 (consA (cM (.int 4)) (nilA))) (nameG 13) (yesM) (callM m__law_beside (consA (vM 1) (consA (vM 3) (consA (vM 11) (nilA))))) [13]))) (seqS (forS (seqI (vM 4)) (nameG 5) (seqS (ifS (orT (blM (binM neD (argM (reprX) (consA (methM [("Order", m_Order_cost)] "cost" (vM 10) (consA (vM 5) (nilA))) (nilA))) (argM (reprX) (consA (callM m__law_cost_of (consA (vM 3) (consA (vM 5) (nilA)))) (nilA))))) (blM (binM neD (argM (reprX) (consA ((binM (inO [("Order", m_Order___contains__)]) (vM 5) (vM 10))) (nilA))) (cM (.str "True"))))) (retS (cM (.bl false))) (skipS)) (forS (seqI (vM 4)) (nameG 12) (ifS (blM (binM neD (argM (reprX) (consA (methM [("Order", m_Order_is_before)] "is_before" (vM 10) (consA (vM 5) (consA (vM 12) (nilA)))) (nilA))) (argM (reprX) (consA ((binM ltKD (callM m__law_rank (consA (vM 3) (consA (vM 5) (nilA)))) (callM m__law_rank (consA (vM 3) (consA (vM 12) (nilA)))))) (nilA))))) (retS (cM (.bl false))) (skipS))))) (seqS (setS 6 (lcM false (argI rangeD1 (consA (cM (.int 5)) (nilA))) (nameG 13) (blM (binM (inD true) (binM idxD (vM 4) (vM 13)) (sliM false (vM 4) (pureM none) (optM (vM 13))))) (binM idxD (vM 4) (vM 13)) [13])) (seqS (setS 7 (sortLM 0 "law" 5 (callM m__law_rank (consA (vM 3) (consA (vM 5) (nilA)))) (vM 6))) (seqS (setS 8 (methM [("Order", m_Order_sorted_words)] "sorted_words" (vM 10) (consA (binM idxD (vM 4) (cM (.int 0))) (consA (binM idxD (vM 4) (cM (.int 1))) (consA (binM idxD (vM 4) (cM (.int 2))) (consA (binM idxD (vM 4) (cM (.int 3))) (consA (binM idxD (vM 4) (cM (.int 4))) (nilA)))))))) (seqS (ifS (orT (blM (binM neD (argM (reprX) (consA (vM 8) (nilA))) (argM (reprX) (consA (vM 7) (nilA))))) (orT (blM (binM neD (methM [("Order", m_Order_sorted_words)] "sorted_words" (vM 10) (nilA)) (argM (lstD false) (nilA)))) (blM (binM neD (methM [("Order", m_Order_sorted_words)] "sorted_words" (vM 10) (consA (vM 11) (consA (vM 11) (nilA)))) (argM (lstD false) (consA (vM 11) (nilA))))))) (retS (cM (.bl false))) (skipS)) (seqS (exprS (bmD isLstD appD (vM 8) (consA (cM (.str "")) (nilA)))) (seqS (ifS (blM (binM neD (methM [("Order", m_Order_sorted_words)] "sorted_words" (vM 10) (consA (binM idxD (vM 4) (cM (.int 0))) (consA (binM idxD (vM 4) (cM (.int 1))) (consA (binM idxD (vM 4) (cM (.int 2))) (consA (binM idxD (vM 4) (cM (.int 3))) (consA (binM idxD (vM 4) (cM (.int 4))) (nilA))))))) (vM 7))) (retS (cM (.bl false))) (skipS)) (seqS (ifS (blM (binM neD (methM [("Order", m_Order_sorted_words)] "sorted_words" (vM 10) (consA (binM idxD (vM 4) (cM (.int 4))) (consA (binM idxD (vM 4) (cM (.int 3))) (consA (binM idxD (vM 4) (cM (.int 2))) (consA (binM idxD (vM 4) (cM (.int 1))) (consA (binM idxD (vM 4) (cM (.int 0))) (nilA))))))) (vM 7))) (retS (cM (.bl false))) (skipS)) (forS (seqI (argM (lstD false) (consA (callM m__law_odd (consA (vM 1) (nilA))) (consA (binM addD (vM 11) (cM (.str "A"))) (consA (binM addD (sliM false (vM 11) (pureM none) (optM (cM (.int 159)))) (cM (.str "!!"))) (consA (sliM false (binM addD (vM 11) (binM mulX (binM idxD (argM (listXD false) (consA (vM 3) (nilA))) (cM (.int 0))) (cM (.int 161)))) (pureM none) (optM (cM (.int 161)))) (consA (argM (listXD false) (consA (vM 11) (nilA))) (nilA)))))))) (nameG 9) (ifS (blM (binM neD (argM (reprX) (consA ((binM (inO [("Order", m_Order___contains__)]) (vM 9) (vM 10))) (nilA))) (argM (reprX) (consA (callM m__law_is_word (consA (bmD isStrD joinD (cM (.str "")) (consA (argM (listXD false) (consA (vM 3) (nilA))) (nilA))) (consA (vM 9) (nilA)))) (nilA))))) (retS (cM (.bl false))) (skipS))))))))))))))) (retS (cM (.bl true))))
noncomputable def m_law : DF := bodyM 1 [] 14 b_law
theorem c_law (Z : FX K mg) (TB : Tbs K mg base tl0) : BodyC PP w K mg base ["_law_script", "_law_pen_here", "_law_turn", "_law_costs_here", "_law_words", "_law_one", "_law_unlike", "_law_due", "_law_told", "_law_thing", "_law_order", "_law_word_here", "_law_other", "_law_k"] "law" (defScope s_law) (He.ga K "law") 6 (defBody s_law) b_law (codeV K "law") := by
  intro A outer s H E hr
  have nd : (["_law_script", "_law_pen_here", "_law_turn", "_law_costs_here", "_law_words", "_law_one", "_law_unlike", "_law_due", "_law_told", "_law_thing", "_law_order", "_law_word_here", "_law_other", "_law_k"] : List Str).Nodup := by decide +kernel
  have tk : Takes (cxOf (L2.CX PP w) PP w K mg base ["_law_script", "_law_pen_here", "_law_turn", "_law_costs_here", "_law_words", "_law_one", "_law_unlike", "_law_due", "_law_told", "_law_thing", "_law_order", "_law_word_here", "_law_other", "_law_k"] "law" (defScope s_law) (He.ga K "law") (codeV K "law") A outer s H E) (fun c d _ H' => E c d H') := takes_of rfl rfl rfl rfl
  have hp := passes_of (X := cxOf (L2.CX PP w) PP w K mg base ["_law_script", "_law_pen_here", "_law_turn", "_law_costs_here", "_law_words", "_law_one", "_law_unlike", "_law_due", "_law_told", "_law_thing", "_law_order", "_law_word_here", "_law_other", "_law_k"] "law" (defScope s_law) (He.ga K "law") (codeV K "law") A outer s H E) rfl
  have hu := hr.rm.units
  have hu1 : _ + 1 < cLine := Nat.lt_of_le_of_lt (Nat.add_le_add_left (by decide : 1 ≤ 64) _) hu
  exact (s_cons (s_set nd rfl (by first | exact .inl rfl | exact .inr rfl) (e_call tk (f__law_pen Z) (hr.mono (Nat.le_of_ble_eq_true rfl) : Rm 1 _) rfl (z50 Z) (k__law_pen Z) (a_cons (ev 0) a_nil)))
    (s_cons (s_for hp rfl (i_range1 rfl (z16 Z) (a_cons e_int a_nil)) (g_name nd rfl (by first | exact .inl rfl | exact .inr rfl)) (s_cons (s_set nd rfl (by first | exact .inl rfl | exact .inr rfl) (e_call tk (f__law_lettered Z) (hr.mono (Nat.le_of_ble_eq_true rfl) : Rm 4 _) rfl (z51 Z) (k__law_lettered Z) (a_cons (ev 1) (a_cons e_int a_nil))))
    (s_cons (s_asg (e_tup (a_cons (e_call tk (f__law_made_order Z) (hr.mono (Nat.le_of_ble_eq_true rfl) : Rm 6 _) rfl (z52 Z) (k__law_made_order Z) (a_cons (ev 1) (a_cons (ev 3) a_nil))) (a_cons (e_call tk (f__law_long_word Z) (hr.mono (Nat.le_of_ble_eq_true rfl) : Rm 4 _) rfl (z42 Z) (k__law_long_word Z) (a_cons (ev 1) (a_cons (ev 3) a_nil))) a_nil))) (g_tup rfl (gs_cons (g_name nd rfl (by first | exact .inl rfl | exact .inr rfl)) (gs_cons (g_name nd rfl (by first | exact .inl rfl | exact .inr rfl)) gs_nil))))
    (s_cons (s_set nd rfl (by first | exact .inl rfl | exact .inr rfl) (e_add (e_lst false (a_cons (ev 11) a_nil)) (e_lc false rfl nd (i_range1 rfl (z16 Z) (a_cons e_int a_nil)) (own := ([("_law_k", 13)] : List (Str × Nat))) (show BlkOk ["_law_script", "_law_pen_here", "_law_turn", "_law_costs_here", "_law_words", "_law_one", "_law_unlike", "_law_due", "_law_told", "_law_thing", "_law_order", "_law_word_here", "_law_other", "_law_k"] (defScope s_law) _ _ from ⟨rfl, by decide +kernel, by decide +kernel, by decide +kernel, by decide +kernel⟩) (fun _ _ _ _ _ => (gw_name nd rfl (by first | exact .inl rfl | exact .inr rfl) (by decide))) (fun _ _ _ _ _ => ts_nil) (fun _ _ _ _ _ => (e_call takes_blk (f__law_beside Z) (hr.mono (Nat.le_of_ble_eq_true rfl) : Rm 5 _) rfl (z53 Z) (k__law_beside Z) (a_cons (ev 1) (a_cons (ev 3) (a_cons (ev 11) a_nil))))))))
    (s_cons (s_for hp rfl (i_seq (ev 4)) (g_name nd rfl (by first | exact .inl rfl | exact .inr rfl)) (s_cons (s_if (PW.pt (w_or (t_ne hu (e_callB (call_reprX (z55 Z) hr.gd hu) v_reprX rfl (z56 Z) (by decide +kernel) (a_cons (e_meth tk (.cons ⟨(z11 Z), _, 4, (z54 Z), f_Order_cost_at_Order Z, (hr.mono (Nat.le_of_ble_eq_true rfl) : Rm 4 _)⟩ .nil) (ev 10) (a_cons (ev 5) a_nil)) a_nil)) (e_callB (call_reprX (z55 Z) hr.gd hu) v_reprX rfl (z56 Z) (by decide +kernel) (a_cons (e_call tk (f__law_cost_of Z) (hr.mono (Nat.le_of_ble_eq_true rfl) : Rm 1 _) rfl (z49 Z) (k__law_cost_of Z) (a_cons (ev 3) (a_cons (ev 5) a_nil))) a_nil))) (w_or1 (t_ne hu (e_callB (call_reprX (z55 Z) hr.gd hu) v_reprX rfl (z56 Z) (by decide +kernel) (a_cons (e_inO tk (.cons ⟨(z11 Z), _, 2, (z57 Z), f_Order___contains___at_Order Z, (hr.mono (Nat.le_of_ble_eq_true rfl) : Rm 2 _)⟩ .nil) (ev 5) (ev 10)) a_nil)) e_str)))) (s_one (s_ret e_bl)) s_nil)
    (s_one (s_for hp rfl (i_seq (ev 4)) (g_name nd rfl (by first | exact .inl rfl | exact .inr rfl)) (s_one (s_if (t_ne hu (e_callB (call_reprX (z55 Z) hr.gd hu) v_reprX rfl (z56 Z) (by decide +kernel) (a_cons (e_meth tk (.cons ⟨(z11 Z), _, 4, (z58 Z), f_Order_is_before_at_Order Z, (hr.mono (Nat.le_of_ble_eq_true rfl) : Rm 4 _)⟩ .nil) (ev 10) (a_cons (ev 5) (a_cons (ev 12) a_nil))) a_nil)) (e_callB (call_reprX (z55 Z) hr.gd hu) v_reprX rfl (z56 Z) (by decide +kernel) (a_cons (e_ltK hu (e_call tk (f__law_rank Z) (hr.mono (Nat.le_of_ble_eq_true rfl) : Rm 2 _) rfl (z59 Z) (k__law_rank Z) (a_cons (ev 3) (a_cons (ev 5) a_nil))) (e_call tk (f__law_rank Z) (hr.mono (Nat.le_of_ble_eq_true rfl) : Rm 2 _) rfl (z59 Z) (k__law_rank Z) (a_cons (ev 3) (a_cons (ev 12) a_nil)))) a_nil))) (s_one (s_ret e_bl)) s_nil))))))
    (s_cons (s_setLc false rfl nd rfl rfl rfl (i_range1 rfl (z16 Z) (a_cons e_int a_nil)) (own := ([("_law_k", 13)] : List (Str × Nat))) (show BlkOk ["_law_script", "_law_pen_here", "_law_turn", "_law_costs_here", "_law_words", "_law_one", "_law_unlike", "_law_due", "_law_told", "_law_thing", "_law_order", "_law_word_here", "_law_other", "_law_k"] (defScope s_law) _ _ from ⟨rfl, by decide +kernel, by decide +kernel, by decide +kernel, by decide +kernel⟩) (fun _ _ _ _ _ => (gw_name nd rfl (by first | exact .inl rfl | exact .inr rfl) (by decide))) (fun _ _ _ _ _ => (ts_one (t_notIn hu1 (e_idx hu1 (ev 4) (ev 13)) (e_sli false (ev 4) o_none (o_some (ev 13)))))) (fun _ _ _ _ _ => (e_idx hu1 (ev 4) (ev 13))))
    (s_cons (s_set nd rfl (by first | exact .inl rfl | exact .inr rfl) (e_sortedL (k := 2) (i := 0) (i0 := 5) (x := "_law_one") (y := "law") rfl (z22 Z) (a_cons (ev 6) a_nil) (TB "law" (by decide)).1 (TB "law" (by decide)).2 rfl (hr.mono (Nat.le_of_ble_eq_true rfl)) (lamP_by (show lamPB (defScope s_law) _ _ = true by decide +kernel)) rfl (fun _ _ _ _ _ _ => rfl) rfl (uniq_of (N := ["_law_script", "_law_pen_here", "_law_turn", "_law_costs_here", "_law_words", "_law_one", "_law_unlike", "_law_due", "_law_told", "_law_thing", "_law_order", "_law_word_here", "_law_other", "_law_k"]) (by decide +kernel)) (fun f c A outer s H E hr => have hu := hr.rm.units; have hu1 := Nat.lt_of_le_of_lt (Nat.add_le_add_left (by decide : 1 ≤ 64) _) hu; (e_call (takes_of rfl rfl rfl rfl) (f__law_rank Z) (hr.mono (Nat.le_of_ble_eq_true rfl) : Rm 2 _) rfl (z59 Z) (k__law_rank Z) (a_cons (ev 3) (a_cons (ev 5) a_nil))))))
    (s_cons (s_set nd rfl (by first | exact .inl rfl | exact .inr rfl) (e_meth tk (.cons ⟨(z11 Z), _, 5, (z60 Z), f_Order_sorted_words_at_Order Z, (hr.mono (Nat.le_of_ble_eq_true rfl) : Rm 5 _)⟩ .nil) (ev 10) (a_cons (e_idx hu1 (ev 4) e_int) (a_cons (e_idx hu1 (ev 4) e_int) (a_cons (e_idx hu1 (ev 4) e_int) (a_cons (e_idx hu1 (ev 4) e_int) (a_cons (e_idx hu1 (ev 4) e_int) a_nil)))))))
    (s_cons (s_if (PW.pt (w_or (t_ne hu (e_callB (call_reprX (z55 Z) hr.gd hu) v_reprX rfl (z56 Z) (by decide +kernel) (a_cons (ev 8) a_nil)) (e_callB (call_reprX (z55 Z) hr.gd hu) v_reprX rfl (z56 Z) (by decide +kernel) (a_cons (ev 7) a_nil))) (w_or (t_ne hu (e_meth0 tk (.cons ⟨(z11 Z), _, 5, (z60 Z), f_Order_sorted_words_at_Order Z, (hr.mono (Nat.le_of_ble_eq_true rfl) : Rm 5 _)⟩ .nil) (ev 10)) (e_lst false a_nil)) (w_or1 (t_ne hu (e_meth tk (.cons ⟨(z11 Z), _, 5, (z60 Z), f_Order_sorted_words_at_Order Z, (hr.mono (Nat.le_of_ble_eq_true rfl) : Rm 5 _)⟩ .nil) (ev 10) (a_cons (ev 11) (a_cons (ev 11) a_nil))) (e_lst false (a_cons (ev 11) a_nil))))))) (s_one (s_ret e_bl)) s_nil)
    (s_cons (s_expr (e_bm PySem.F.plainAttrs_list PySem.F.slot_list_append PySem.F.type_list_append mt_append ty_lst v_app (ev 8) (a_cons e_str a_nil)))
    (s_cons (s_if (t_ne hu (e_meth tk (.cons ⟨(z11 Z), _, 5, (z60 Z), f_Order_sorted_words_at_Order Z, (hr.mono (Nat.le_of_ble_eq_true rfl) : Rm 5 _)⟩ .nil) (ev 10) (a_cons (e_idx hu1 (ev 4) e_int) (a_cons (e_idx hu1 (ev 4) e_int) (a_cons (e_idx hu1 (ev 4) e_int) (a_cons (e_idx hu1 (ev 4) e_int) (a_cons (e_idx hu1 (ev 4) e_int) a_nil)))))) (ev 7)) (s_one (s_ret e_bl)) s_nil)
    (s_cons (s_if (t_ne hu (e_meth tk (.cons ⟨(z11 Z), _, 5, (z60 Z), f_Order_sorted_words_at_Order Z, (hr.mono (Nat.le_of_ble_eq_true rfl) : Rm 5 _)⟩ .nil) (ev 10) (a_cons (e_idx hu1 (ev 4) e_int) (a_cons (e_idx hu1 (ev 4) e_int) (a_cons (e_idx hu1 (ev 4) e_int) (a_cons (e_idx hu1 (ev 4) e_int) (a_cons (e_idx hu1 (ev 4) e_int) a_nil)))))) (ev 7)) (s_one (s_ret e_bl)) s_nil)
    (s_one (s_for hp rfl (i_seq (e_lst false (a_cons (e_call tk (f__law_odd Z) (hr.mono (Nat.le_of_ble_eq_true rfl) : Rm 3 _) rfl (z61 Z) (k__law_odd Z) (a_cons (ev 1) a_nil)) (a_cons (e_add (ev 11) e_str) (a_cons (e_add (e_sli false (ev 11) o_none (o_some e_int)) e_str) (a_cons (e_sli false (e_add (ev 11) (e_mulX (e_idx hu1 (e_callTy (call_listX rfl) v_listX rfl (z36 Z) (by decide +kernel) (a_cons (ev 3) a_nil)) e_int) e_int)) o_none (o_some e_int)) (a_cons (e_callTy (call_listX rfl) v_listX rfl (z36 Z) (by decide +kernel) (a_cons (ev 11) a_nil)) a_nil))))))) (g_name nd rfl (by first | exact .inl rfl | exact .inr rfl)) (s_one (s_if (t_ne hu (e_callB (call_reprX (z55 Z) hr.gd hu) v_reprX rfl (z56 Z) (by decide +kernel) (a_cons (e_inO tk (.cons ⟨(z11 Z), _, 2, (z57 Z), f_Order___contains___at_Order Z, (hr.mono (Nat.le_of_ble_eq_true rfl) : Rm 2 _)⟩ .nil) (ev 9) (ev 10)) a_nil)) (e_callB (call_reprX (z55 Z) hr.gd hu) v_reprX rfl (z56 Z) (by decide +kernel) (a_cons (e_call tk (f__law_is_word Z) (hr.mono (Nat.le_of_ble_eq_true rfl) : Rm 1 _) rfl (z62 Z) (k__law_is_word Z) (a_cons (e_bm PySem.F.plainAttrs_str PySem.F.slot_str_join PySem.F.type_str_join mt_join ty_str v_join e_str (a_cons (e_callTy (call_listX rfl) v_listX rfl (z36 Z) (by decide +kernel) (a_cons (ev 3) a_nil)) a_nil)) (a_cons (ev 9) a_nil))) a_nil))) (s_one (s_ret e_bl)) s_nil))))))))))))))))
    (s_one (s_ret e_bl))))
theorem f_law (Z : FX K mg) (TB : Tbs K mg base tl0) : FnD PP w K mg base 7 ((fun K => He.ga K "law") K) m_law := by
  obtain ⟨fd, F⟩ := Z.df 33 (d := d_law) rfl rfl
  exact fn_okC (y := "law") (ps := ["_law_script"]) F ⟨rfl, rfl, rfl, by decide +kernel, rfl, by decide +kernel, by decide +kernel⟩ (fun _ _ _ _ _ _ us hl => match us, hl with | [_], _ => rfl) (c_law Z TB)
end
end G
set_option Elab.async false
set_option linter.all false
set_option maxRecDepth 100000
set_option maxHeartbeats 4000000
namespace G
open Mp Pl
open PySem (Str sizeLine)
local macro_rules | `(tactic| wtm_at "e") => `(tactic| first
  | with_reducible refine w_set ?_
  | with_reducible refine w_bin ?_
  | ((with_reducible refine w_v (d := ?dv) ?hv ?_); (case hv => exact rfl))
  | with_reducible refine w_c ?_
  | with_reducible refine w_cons ?_
  | with_reducible refine w_nil ?_
  | with_reducible refine w_arg ?_
  | with_reducible refine w_call ?_
  | with_reducible refine w_if ?_
  | with_reducible refine w_ret ?_
  | with_reducible refine w_skip ?_
  | with_reducible refine w_bl ?_
  | with_reducible refine w_tru ?_
  | with_reducible refine w_attr ?_
  | with_reducible refine w_meth ?_
  | with_reducible refine w_chain ?_
  | with_reducible refine w_and ?_
  | with_reducible refine w_or ?_
  | with_reducible refine w_not ?_
  | with_reducible refine w_notT ?_
  | with_reducible refine w_andT ?_
  | with_reducible refine w_orT ?_
  | with_reducible refine w_ifM ?_
  | with_reducible refine w_expr ?_
  | with_reducible refine w_un ?_
  | with_reducible refine w_par2 ?_
  | with_reducible refine w_par3 ?_
  | with_reducible refine w_asg ?_
  | with_reducible refine w_aug ?_
  | with_reducible refine w_sub ?_
  | with_reducible refine w_fld ?_
  | with_reducible refine w_raise ?_
  | with_reducible refine w_raise0 ?_
  | with_reducible refine w_try ?_
  | with_reducible refine w_make ?_
  | with_reducible refine w_tryAs ?_
  | with_reducible refine w_exn ?_
  | ((with_reducible refine o_isx (b := ?bv) ?h1 ?_); (case h1 => exact rfl))
  | with_reducible refine w_superS ?_
  | with_reducible refine w_super ?_
  | with_reducible refine w_star ?_
  | with_reducible refine w_for0 ?_
  | with_reducible refine w_lc0 ?_
  | with_reducible refine w_lc20 ?_
  | with_reducible refine w_seqJ ?_
  | with_reducible refine w_starC ?_
  | with_reducible refine w_spr ?_
  | with_reducible refine w_kwA ?_
  | with_reducible refine w_kwM ?_
  | with_reducible refine w_sprK ?_
  | with_reducible refine w_get ?_
  | with_reducible refine w_makeL ?_
  | with_reducible refine w_tryN ?_
  | ((with_reducible refine o_own0 ?hv ?_); (case hv => exact rfl))
  | ((with_reducible refine o_eqO0 ?hv ?_); (case hv => exact rfl))
  | with_reducible refine w_seqI ?_
  | with_reducible refine w_argI ?_
  | with_reducible refine w_opt ?_
  | with_reducible refine w_sli ?_
  | with_reducible refine w_pure ?_
  | with_reducible refine w_disp ?_
  | with_reducible refine w_pairs1 ?_
  | with_reducible refine w_pairs0 ?_
  | with_reducible refine w_retN ?_
  | with_reducible refine w_cnt ?_
  | with_reducible refine w_brk ?_
  | with_reducible refine o_addI ?_
  | with_reducible refine o_addI' ?_
  | with_reducible refine o_sub ?_
  | with_reducible refine o_lt ?_
  | with_reducible refine o_le ?_
  | with_reducible refine o_gt ?_
  | with_reducible refine o_ge ?_
  | with_reducible refine o_eqI ?_
  | with_reducible refine o_neI ?_
  | with_reducible refine o_eqS ?_
  | with_reducible refine o_neS ?_
  | with_reducible refine o_int ?_
  | with_reducible refine o_intB ?_
  | with_reducible refine o_neg ?_
  | with_reducible refine o_abs ?_
  | with_reducible refine o_newL ?_
  | with_reducible refine o_max2 ?_
  | with_reducible refine o_min2 ?_
  | with_reducible refine o_lenL ?_
  | with_reducible refine o_lenT ?_
  | ((with_reducible refine o_tup ?hv ?_); (case hv => first | exact Nat.le_of_ble_eq_true rfl | assumption))
  | ((with_reducible refine o_lst ?hv ?_); (case hv => first | exact Nat.le_of_ble_eq_true rfl | assumption))
  | ((with_reducible refine o_isi (t := ?tv) (b := ?bv) ?h1 ?h2 ?_); (case h1 => exact rfl); (case h2 => exact rfl))
  | ((with_reducible refine o_fld (C := ?cv) (fs := ?fv) (d := ?dv) ?h1 ?h2 ?h3 ?_); (case h1 => exact rfl); (case h2 => exact rfl); (case h3 => exact rfl))
  | ((with_reducible refine Exists.intro ?kv (And.intro ?ha ?_)); (case ha => exact rfl)))
local macro_rules | `(tactic| wtm_at "body") => `(tactic| (refine w_body rfl rfl ?_; dsimp only [List.length_cons, List.length_nil, List.drop, List.append_nil, List.map_cons, List.map_nil, List.map, List.cons_append, List.nil_append, Nat.reduceAdd, Nat.reduceSub, List.replicate]))
local macro_rules | `(tactic| wtm_at "meth") => `(tactic| refine ⟨_, _, _, rfl, rfl, rfl, ?_⟩)
local macro_rules | `(tactic| wtm_at "w") => `(tactic| first | with_reducible refine w_seq ?_ | wtm_at "e")
local macro_rules | `(tactic| wtm_at "s") => `(tactic| ((repeat wtm_at "e"); (with_reducible refine w_seq ?_)))
local macro_rules | `(tactic| wtm_at "f") => `(tactic| ((repeat wtm_at "e"); (with_reducible show FP _ _)))
/-! checks -/
/-! digits -/
end G
set_option Elab.async false
set_option linter.all false
set_option maxRecDepth 100000
set_option maxHeartbeats 4000000
namespace G
open Mp Pl
open PySem (Str sizeLine)
local macro_rules | `(tactic| wtm_at "e") => `(tactic| first
  | with_reducible refine w_set ?_
  | with_reducible refine w_bin ?_
  | ((with_reducible refine w_v (d := ?dv) ?hv ?_); (case hv => exact rfl))
  | with_reducible refine w_c ?_
  | with_reducible refine w_cons ?_
  | with_reducible refine w_nil ?_
  | with_reducible refine w_arg ?_
  | with_reducible refine w_call ?_
  | with_reducible refine w_if ?_
  | with_reducible refine w_ret ?_
  | with_reducible refine w_skip ?_
  | with_reducible refine w_bl ?_
  | with_reducible refine w_tru ?_
  | with_reducible refine w_attr ?_
  | with_reducible refine w_meth ?_
  | with_reducible refine w_chain ?_
  | with_reducible refine w_and ?_
  | with_reducible refine w_or ?_
  | with_reducible refine w_not ?_
  | with_reducible refine w_notT ?_
  | with_reducible refine w_andT ?_
  | with_reducible refine w_orT ?_
  | with_reducible refine w_ifM ?_
  | with_reducible refine w_expr ?_
  | with_reducible refine w_un ?_
  | with_reducible refine w_par2 ?_
  | with_reducible refine w_par3 ?_
  | with_reducible refine w_asg ?_
  | with_reducible refine w_aug ?_
  | with_reducible refine w_sub ?_
  | with_reducible refine w_fld ?_
  | with_reducible refine w_raise ?_
  | with_reducible refine w_raise0 ?_
  | with_reducible refine w_try ?_
  | with_reducible refine w_make ?_
  | with_reducible refine w_tryAs ?_
  | with_reducible refine w_exn ?_
  | ((with_reducible refine o_isx (b := ?bv) ?h1 ?_); (case h1 => exact rfl))
  | with_reducible refine w_superS ?_
  | with_reducible refine w_super ?_
  | with_reducible refine w_star ?_
  | with_reducible refine w_for0 ?_
  | with_reducible refine w_lc0 ?_
  | with_reducible refine w_lc20 ?_
  | with_reducible refine w_seqJ ?_
  | with_reducible refine w_starC ?_
  | with_reducible refine w_spr ?_
  | with_reducible refine w_kwA ?_
  | with_reducible refine w_kwM ?_
  | with_reducible refine w_sprK ?_
  | with_reducible refine w_get ?_
  | with_reducible refine w_makeL ?_
  | with_reducible refine w_tryN ?_
  | ((with_reducible refine o_own0 ?hv ?_); (case hv => exact rfl))
  | ((with_reducible refine o_eqO0 ?hv ?_); (case hv => exact rfl))
  | with_reducible refine w_seqI ?_
  | with_reducible refine w_argI ?_
  | with_reducible refine w_opt ?_
  | with_reducible refine w_sli ?_
  | with_reducible refine w_pure ?_
  | with_reducible refine w_disp ?_
  | with_reducible refine w_pairs1 ?_
  | with_reducible refine w_pairs0 ?_
  | with_reducible refine w_retN ?_
  | with_reducible refine w_cnt ?_
  | with_reducible refine w_brk ?_
  | with_reducible refine o_addI ?_
  | with_reducible refine o_addI' ?_
  | with_reducible refine o_sub ?_
  | with_reducible refine o_lt ?_
  | with_reducible refine o_le ?_
  | with_reducible refine o_gt ?_
  | with_reducible refine o_ge ?_
  | with_reducible refine o_eqI ?_
  | with_reducible refine o_neI ?_
  | with_reducible refine o_eqS ?_
  | with_reducible refine o_neS ?_
  | with_reducible refine o_int ?_
  | with_reducible refine o_intB ?_
  | with_reducible refine o_neg ?_
  | with_reducible refine o_abs ?_
  | with_reducible refine o_newL ?_
  | with_reducible refine o_max2 ?_
  | with_reducible refine o_min2 ?_
  | with_reducible refine o_lenL ?_
  | with_reducible refine o_lenT ?_
  | ((with_reducible refine o_tup ?hv ?_); (case hv => first | exact Nat.le_of_ble_eq_true rfl | assumption))
  | ((with_reducible refine o_lst ?hv ?_); (case hv => first | exact Nat.le_of_ble_eq_true rfl | assumption))
  | ((with_reducible refine o_isi (t := ?tv) (b := ?bv) ?h1 ?h2 ?_); (case h1 => exact rfl); (case h2 => exact rfl))
  | ((with_reducible refine o_fld (C := ?cv) (fs := ?fv) (d := ?dv) ?h1 ?h2 ?h3 ?_); (case h1 => exact rfl); (case h2 => exact rfl); (case h3 => exact rfl))
  | ((with_reducible refine Exists.intro ?kv (And.intro ?ha ?_)); (case ha => exact rfl)))
local macro_rules | `(tactic| wtm_at "body") => `(tactic| (refine w_body rfl rfl ?_; dsimp only [List.length_cons, List.length_nil, List.drop, List.append_nil, List.map_cons, List.map_nil, List.map, List.cons_append, List.nil_append, Nat.reduceAdd, Nat.reduceSub, List.replicate]))
local macro_rules | `(tactic| wtm_at "meth") => `(tactic| refine ⟨_, _, _, rfl, rfl, rfl, ?_⟩)
local macro_rules | `(tactic| wtm_at "w") => `(tactic| first | with_reducible refine w_seq ?_ | wtm_at "e")
local macro_rules | `(tactic| wtm_at "s") => `(tactic| ((repeat wtm_at "e"); (with_reducible refine w_seq ?_)))
local macro_rules | `(tactic| wtm_at "f") => `(tactic| ((repeat wtm_at "e"); (with_reducible show FP _ _)))
/-! the pen -/
theorem q_draw {n : Nat} {many b : Int} {s : Sto} {Q : D → Sto → Prop} {E : XT} (p : Pen s n b) (hb : b ≤ 1000000000) (h0 : 0 < many) (h1 : many < 18446744073709551616) (h : ∀ k s', 0 ≤ k → k < many → Pen s' n (b + 1) → Fr n s s' → s'.length = s.length → Q (.int k) s') : RP Q E (m__law_draw [.cel n, .int many] s) := by
  obtain ⟨cells, g, l, hs, hc, hg, hgb, hl⟩ := p
  have hm : ∀ x : Int, 0 ≤ x % many ∧ x % many < many := fun x => ⟨Int.emod_nonneg _ (by omega), Int.emod_lt_of_pos _ (by omega)⟩
  wtm_at "body"
  unfold b__law_draw
  repeat wtm_at "w"
  refine pen_left hs ?_
  repeat wtm_at "w"
  refine ⟨fun hk => ?_, fun hk => ?_⟩
  · have hk := of_decide_eq_true hk
    repeat wtm_at "w"
    refine pen_left hs ?_
    repeat wtm_at "w"
    refine o_mod h0 ?_
    repeat wtm_at "w"
    refine pen_left hs ?_
    repeat wtm_at "w"
    refine o_div64 h0 h1 ?_
    repeat wtm_at "w"
    refine ⟨_, pen_putL hs, ?_⟩
    repeat wtm_at "w"
    exact h _ _ (hm l).1 (hm l).2 ⟨cells, g, _, pen_at hs, hc, hg, by omega, Int.ediv_nonneg hl (by omega)⟩ Fr.set (List.length_set ..)
  · have hk := of_decide_eq_false hk
    wtm_at "s"
    repeat wtm_at "e"
    refine pen_begun hs ?_
    wtm_at "s"
    repeat wtm_at "e"
    refine ⟨_, pen_putB hs, ?_⟩
    have hs1 : (s.set n (some (penC cells (g + 1) l)))[n]? = some (some (penC cells (g + 1) l)) := pen_at hs
    have fr1 : Fr n s (s.set n (some (penC cells (g + 1) l))) := Fr.set
    have ln1 : (s.set n (some (penC cells (g + 1) l))).length = s.length := List.length_set ..
    generalize s.set n (some (penC cells (g + 1) l)) = s1 at hs1 fr1 ln1 ⊢
    wtm_at "s"
    repeat wtm_at "e"
    refine o_mul64 (by omega) (by omega) ?_
    repeat wtm_at "e"
    wtm_at "f"
    with_reducible refine w_mid (fun r' s' => s' = s1 ∧ ∃ cell : Int, r' = [some (.cel n), some (.int many), some (.int g), some (.int cell), none, none, none]) ?_ ?_
    · repeat wtm_at "e"
      refine pen_cells hs1 ?_
      repeat wtm_at "e"
      refine o_neNil ?_
      repeat wtm_at "e"
      refine ⟨fun hk => ?_, fun hk => ?_⟩
      · have hc0 : 0 < cells.length := by
          cases cells with
          | nil => cases hk
          | cons a c => simp
        repeat wtm_at "e"
        refine pen_cells hs1 ?_
        repeat wtm_at "e"
        refine pen_cells hs1 ?_
        repeat wtm_at "e"
        rw [List.length_map]
        refine o_mod (by omega) ?_
        have hk0 : 0 ≤ g % (cells.length : Int) := Int.emod_nonneg _ (by omega)
        have hk1 : g % (cells.length : Int) < cells.length := Int.emod_lt_of_pos _ (by omega)
        have hlt : (g % (cells.length : Int)).toNat < cells.length := by omega
        refine o_idxL (k := (g % (cells.length : Int)).toNat) (d := .int (cells[(g % (cells.length : Int)).toNat])) (by omega) (by rw [List.getElem?_map, List.getElem?_eq_getElem hlt]; rfl) ?_
        exact ⟨rfl, _, rfl⟩
      · repeat wtm_at "e"
        exact ⟨rfl, _, rfl⟩
    · rintro r' s' ⟨rfl, cell, rfl⟩
      have pen1 : Pen s' n (b + 1) := ⟨cells, g + 1, l, hs1, hc, by omega, by omega, hl⟩
      wtm_at "f"
      with_reducible refine w_mid (fun r2 s2 => s2 = s' ∧ r2 = [some (.cel n), some (.int many), some (.int g), some (.int cell), none, none, none]) ?_ ?_
      · repeat wtm_at "e"
        refine pen_cells hs1 ?_
        repeat wtm_at "e"
        refine ⟨fun hk => ?_, fun hk => ?_⟩
        · repeat wtm_at "e"
          refine o_pow (by decide) (by decide) (by decide) ?_
          repeat wtm_at "e"
          refine ⟨fun hk2 => ?_, fun hk2 => ?_⟩
          · have hk2 := of_decide_eq_true hk2
            repeat wtm_at "w"
            refine o_pow (by decide) (by decide) (by decide) ?_
            repeat wtm_at "w"
            refine o_div64 h0 h1 ?_
            repeat wtm_at "w"
            refine ⟨_, pen_putL hs1, ?_⟩
            repeat wtm_at "w"
            refine o_pow (by decide) (by decide) (by decide) ?_
            repeat wtm_at "w"
            refine o_mod h0 ?_
            refine h _ _ (hm _).1 (hm _).2 ⟨cells, g + 1, _, pen_at hs1, hc, by omega, by omega, Int.ediv_nonneg ?_ (by omega)⟩ (fr1.trans Fr.set) (by rw [List.length_set]; exact ln1)
            exact Int.sub_nonneg_of_le hk2
          · repeat wtm_at "e"
            exact ⟨rfl, rfl⟩
        · repeat wtm_at "e"
          refine ⟨fun z => (by cases z), fun _ => ?_⟩
          repeat wtm_at "e"
          exact ⟨rfl, rfl⟩
      · rintro r2 s2 ⟨rfl, rfl⟩
        have b1 : 0 ≤ cell % 4294967197 ∧ cell % 4294967197 < 4294967197 := ⟨Int.emod_nonneg _ (by decide), Int.emod_lt_of_pos _ (by decide)⟩
        repeat wtm_at "w"
        refine o_mod (by decide) ?_
        repeat wtm_at "w"
        refine o_mul64 (by omega) (by decide) ?_
        repeat wtm_at "w"
        refine o_mul64 (by decide) (by omega) ?_
        repeat wtm_at "w"
        refine o_mul64 (by omega) (by omega) ?_
        repeat wtm_at "w"
        refine o_mod (by decide) ?_
        generalize hx : (cell % 4294967197 * 48673 + g * (40009 * g + 1511) + 331) % 4294967189 = x
        have b2 : 0 ≤ x ∧ x < 4294967189 := by
          subst hx
          exact ⟨Int.emod_nonneg _ (by decide), Int.emod_lt_of_pos _ (by decide)⟩
        repeat wtm_at "w"
        refine o_mul64 (by omega) (by omega) ?_
        repeat wtm_at "w"
        refine o_mul64 (by decide) (by omega) ?_
        repeat wtm_at "w"
        refine o_mul64 (by decide) (by omega) ?_
        repeat wtm_at "w"
        refine o_mod (by decide) ?_
        generalize hy : (x * x + 75629 * x + 19 * g + 7) % 4294967161 = y
        have b3 : 0 ≤ y ∧ y < 4294967161 := by
          subst hy
          exact ⟨Int.emod_nonneg _ (by decide), Int.emod_lt_of_pos _ (by decide)⟩
        repeat wtm_at "w"
        refine o_mul64 (by omega) (by omega) ?_
        repeat wtm_at "w"
        refine o_mod (by decide) ?_
        repeat wtm_at "w"
        refine o_div64 (by decide) (by decide) ?_
        repeat wtm_at "w"
        refine o_mod h0 ?_
        exact h _ _ (hm _).1 (hm _).2 pen1 fr1 ln1
/-- a pick of a written list -/
theorem q_pick {n : Nat} {b : Int} {l : List D} {s : Sto} {Q : D → Sto → Prop} {E : XT} (p : Pen s n b) (hb : b ≤ 1000000000) (h0 : 0 < l.length) (h1 : l.length < 1000000) (h : ∀ d s', d ∈ l → Pen s' n (b + 1) → Fr n s s' → s'.length = s.length → Q d s') : RP Q E (m__law_pick [.cel n, .lst l] s) := by
  wtm_at "body"
  unfold b__law_pick
  repeat wtm_at "w"
  refine q_draw p hb (by omega) (by omega) fun k s' hk hk1 p' f' e' => ?_
  have hlt : k.toNat < l.length := by omega
  refine o_idxL (k := k.toNat) (d := l[k.toNat]) (by omega) (List.getElem?_eq_getElem hlt) ?_
  exact h _ _ (List.getElem_mem hlt) p' f' e'
theorem q_pen {ns : List Int} {s : Sto} {Q : D → Sto → Prop} {E : XT} (h : ∀ c s', Pen s' s.length 0 → s' = s ++ [some c] → Q (.cel s.length) s') : RP Q E (m__law_pen [.rol (ns.map .int)] s) := by
  wtm_at "body"
  unfold b__law_pen
  repeat wtm_at "w"
  refine w_ok ?_
  repeat wtm_at "w"
  refine o_list rfl ?_
  repeat wtm_at "w"
  refine ⟨by show 3 ≤ 15; decide, ?_⟩
  refine h _ _ ⟨ns.take 63, 0, 0, ?_, by rw [List.length_take]; omega, by decide, by decide, by decide⟩ rfl
  rw [List.getElem?_append_right (Nat.le_refl _), Nat.sub_self]
  show some (some (Ct.dct [(.inr "cells", .lst (cutD (ns.map .int) none (some 63))), (.inr "begun", .int 0), (.inr "left", .int 0)])) = _
  rw [cut_take (by decide), ← List.map_take]
  rfl
end G
set_option Elab.async false
set_option linter.all false
set_option maxRecDepth 100000
set_option maxHeartbeats 4000000
namespace G
open Mp Pl
open PySem (Str sizeLine)
local macro_rules | `(tactic| wtm_at "e") => `(tactic| first
  | with_reducible refine w_set ?_
  | with_reducible refine w_bin ?_
  | ((with_reducible refine w_v (d := ?dv) ?hv ?_); (case hv => exact rfl))
  | with_reducible refine w_c ?_
  | with_reducible refine w_cons ?_
  | with_reducible refine w_nil ?_
  | with_reducible refine w_arg ?_
  | with_reducible refine w_call ?_
  | with_reducible refine w_if ?_
  | with_reducible refine w_ret ?_
  | with_reducible refine w_skip ?_
  | with_reducible refine w_bl ?_
  | with_reducible refine w_tru ?_
  | with_reducible refine w_attr ?_
  | with_reducible refine w_meth ?_
  | with_reducible refine w_chain ?_
  | with_reducible refine w_and ?_
  | with_reducible refine w_or ?_
  | with_reducible refine w_not ?_
  | with_reducible refine w_notT ?_
  | with_reducible refine w_andT ?_
  | with_reducible refine w_orT ?_
  | with_reducible refine w_ifM ?_
  | with_reducible refine w_expr ?_
  | with_reducible refine w_un ?_
  | with_reducible refine w_par2 ?_
  | with_reducible refine w_par3 ?_
  | with_reducible refine w_asg ?_
  | with_reducible refine w_aug ?_
  | with_reducible refine w_sub ?_
  | with_reducible refine w_fld ?_
  | with_reducible refine w_raise ?_
  | with_reducible refine w_raise0 ?_
  | with_reducible refine w_try ?_
  | with_reducible refine w_make ?_
  | with_reducible refine w_tryAs ?_
  | with_reducible refine w_exn ?_
  | ((with_reducible refine o_isx (b := ?bv) ?h1 ?_); (case h1 => exact rfl))
  | with_reducible refine w_superS ?_
  | with_reducible refine w_super ?_
  | with_reducible refine w_star ?_
  | with_reducible refine w_for0 ?_
  | with_reducible refine w_lc0 ?_
  | with_reducible refine w_lc20 ?_
  | with_reducible refine w_seqJ ?_
  | with_reducible refine w_starC ?_
  | with_reducible refine w_spr ?_
  | with_reducible refine w_kwA ?_
  | with_reducible refine w_kwM ?_
  | with_reducible refine w_sprK ?_
  | with_reducible refine w_get ?_
  | with_reducible refine w_makeL ?_
  | with_reducible refine w_tryN ?_
  | ((with_reducible refine o_own0 ?hv ?_); (case hv => exact rfl))
  | ((with_reducible refine o_eqO0 ?hv ?_); (case hv => exact rfl))
  | with_reducible refine w_seqI ?_
  | with_reducible refine w_argI ?_
  | with_reducible refine w_opt ?_
  | with_reducible refine w_sli ?_
  | with_reducible refine w_pure ?_
  | with_reducible refine w_disp ?_
  | with_reducible refine w_pairs1 ?_
  | with_reducible refine w_pairs0 ?_
  | with_reducible refine w_retN ?_
  | with_reducible refine w_cnt ?_
  | with_reducible refine w_brk ?_
  | with_reducible refine o_addI ?_
  | with_reducible refine o_addI' ?_
  | with_reducible refine o_sub ?_
  | with_reducible refine o_lt ?_
  | with_reducible refine o_le ?_
  | with_reducible refine o_gt ?_
  | with_reducible refine o_ge ?_
  | with_reducible refine o_eqI ?_
  | with_reducible refine o_neI ?_
  | with_reducible refine o_eqS ?_
  | with_reducible refine o_neS ?_
  | with_reducible refine o_int ?_
  | with_reducible refine o_intB ?_
  | with_reducible refine o_neg ?_
  | with_reducible refine o_abs ?_
  | with_reducible refine o_newL ?_
  | with_reducible refine o_max2 ?_
  | with_reducible refine o_min2 ?_
  | with_reducible refine o_lenL ?_
  | with_reducible refine o_lenT ?_
  | ((with_reducible refine o_tup ?hv ?_); (case hv => first | exact Nat.le_of_ble_eq_true rfl | assumption))
  | ((with_reducible refine o_lst ?hv ?_); (case hv => first | exact Nat.le_of_ble_eq_true rfl | assumption))
  | ((with_reducible refine o_isi (t := ?tv) (b := ?bv) ?h1 ?h2 ?_); (case h1 => exact rfl); (case h2 => exact rfl))
  | ((with_reducible refine o_fld (C := ?cv) (fs := ?fv) (d := ?dv) ?h1 ?h2 ?h3 ?_); (case h1 => exact rfl); (case h2 => exact rfl); (case h3 => exact rfl))
  | ((with_reducible refine Exists.intro ?kv (And.intro ?ha ?_)); (case ha => exact rfl)))
local macro_rules | `(tactic| wtm_at "body") => `(tactic| (refine w_body rfl rfl ?_; dsimp only [List.length_cons, List.length_nil, List.drop, List.append_nil, List.map_cons, List.map_nil, List.map, List.cons_append, List.nil_append, Nat.reduceAdd, Nat.reduceSub, List.replicate]))
local macro_rules | `(tactic| wtm_at "meth") => `(tactic| refine ⟨_, _, _, rfl, rfl, rfl, ?_⟩)
local macro_rules | `(tactic| wtm_at "w") => `(tactic| first | with_reducible refine w_seq ?_ | wtm_at "e")
local macro_rules | `(tactic| wtm_at "s") => `(tactic| ((repeat wtm_at "e"); (with_reducible refine w_seq ?_)))
local macro_rules | `(tactic| wtm_at "f") => `(tactic| ((repeat wtm_at "e"); (with_reducible show FP _ _)))
/-! the law's numbers -/
structure PF (n : Nat) (s s' : Sto) (b : Int) : Prop where
  pen : Pen s' n b
  fr : Fr n s s'
  len : s'.length = s.length
theorem PF.of {n : Nat} {s : Sto} {b : Int} (h : Pen s n b) : PF n s s b := ⟨h, Fr.refl, rfl⟩
theorem PF.go {n : Nat} {s s' s'' : Sto} {b c d : Int} (h : PF n s s' b) (p : Pen s'' n c) (f : Fr n s' s'') (l : s''.length = s'.length) (hd : c ≤ d) : PF n s s'' d := ⟨p.mono hd, h.fr.trans f, l.trans h.len⟩
theorem PF.go' {n : Nat} {s s' s'' : Sto} {b c d : Int} (h : PF n s s' b) (p : PF n s' s'' c) (hd : c ≤ d) : PF n s s'' d := ⟨p.pen.mono hd, h.fr.trans p.fr, p.len.trans h.len⟩
theorem PF.mono {n : Nat} {s s' : Sto} {b c : Int} (h : PF n s s' b) (hb : b ≤ c) : PF n s s' c := ⟨h.pen.mono hb, h.fr, h.len⟩
end G
set_option Elab.async false
set_option linter.all false
set_option maxRecDepth 100000
set_option maxHeartbeats 4000000
namespace G
open Mp Pl
open PySem (Str sizeLine)
local macro_rules | `(tactic| wtm_at "e") => `(tactic| first
  | with_reducible refine w_set ?_
  | with_reducible refine w_bin ?_
  | ((with_reducible refine w_v (d := ?dv) ?hv ?_); (case hv => exact rfl))
  | with_reducible refine w_c ?_
  | with_reducible refine w_cons ?_
  | with_reducible refine w_nil ?_
  | with_reducible refine w_arg ?_
  | with_reducible refine w_call ?_
  | with_reducible refine w_if ?_
  | with_reducible refine w_ret ?_
  | with_reducible refine w_skip ?_
  | with_reducible refine w_bl ?_
  | with_reducible refine w_tru ?_
  | with_reducible refine w_attr ?_
  | with_reducible refine w_meth ?_
  | with_reducible refine w_chain ?_
  | with_reducible refine w_and ?_
  | with_reducible refine w_or ?_
  | with_reducible refine w_not ?_
  | with_reducible refine w_notT ?_
  | with_reducible refine w_andT ?_
  | with_reducible refine w_orT ?_
  | with_reducible refine w_ifM ?_
  | with_reducible refine w_expr ?_
  | with_reducible refine w_un ?_
  | with_reducible refine w_par2 ?_
  | with_reducible refine w_par3 ?_
  | with_reducible refine w_asg ?_
  | with_reducible refine w_aug ?_
  | with_reducible refine w_sub ?_
  | with_reducible refine w_fld ?_
  | with_reducible refine w_raise ?_
  | with_reducible refine w_raise0 ?_
  | with_reducible refine w_try ?_
  | with_reducible refine w_make ?_
  | with_reducible refine w_tryAs ?_
  | with_reducible refine w_exn ?_
  | ((with_reducible refine o_isx (b := ?bv) ?h1 ?_); (case h1 => exact rfl))
  | with_reducible refine w_superS ?_
  | with_reducible refine w_super ?_
  | with_reducible refine w_star ?_
  | with_reducible refine w_for0 ?_
  | with_reducible refine w_lc0 ?_
  | with_reducible refine w_lc20 ?_
  | with_reducible refine w_seqJ ?_
  | with_reducible refine w_starC ?_
  | with_reducible refine w_spr ?_
  | with_reducible refine w_kwA ?_
  | with_reducible refine w_kwM ?_
  | with_reducible refine w_sprK ?_
  | with_reducible refine w_get ?_
  | with_reducible refine w_makeL ?_
  | with_reducible refine w_tryN ?_
  | ((with_reducible refine o_own0 ?hv ?_); (case hv => exact rfl))
  | ((with_reducible refine o_eqO0 ?hv ?_); (case hv => exact rfl))
  | with_reducible refine w_seqI ?_
  | with_reducible refine w_argI ?_
  | with_reducible refine w_opt ?_
  | with_reducible refine w_sli ?_
  | with_reducible refine w_pure ?_
  | with_reducible refine w_disp ?_
  | with_reducible refine w_pairs1 ?_
  | with_reducible refine w_pairs0 ?_
  | with_reducible refine w_retN ?_
  | with_reducible refine w_cnt ?_
  | with_reducible refine w_brk ?_
  | with_reducible refine o_addI ?_
  | with_reducible refine o_addI' ?_
  | with_reducible refine o_sub ?_
  | with_reducible refine o_lt ?_
  | with_reducible refine o_le ?_
  | with_reducible refine o_gt ?_
  | with_reducible refine o_ge ?_
  | with_reducible refine o_eqI ?_
  | with_reducible refine o_neI ?_
  | with_reducible refine o_eqS ?_
  | with_reducible refine o_neS ?_
  | with_reducible refine o_int ?_
  | with_reducible refine o_intB ?_
  | with_reducible refine o_neg ?_
  | with_reducible refine o_abs ?_
  | with_reducible refine o_newL ?_
  | with_reducible refine o_max2 ?_
  | with_reducible refine o_min2 ?_
  | with_reducible refine o_lenL ?_
  | with_reducible refine o_lenT ?_
  | ((with_reducible refine o_tup ?hv ?_); (case hv => first | exact Nat.le_of_ble_eq_true rfl | assumption))
  | ((with_reducible refine o_lst ?hv ?_); (case hv => first | exact Nat.le_of_ble_eq_true rfl | assumption))
  | ((with_reducible refine o_isi (t := ?tv) (b := ?bv) ?h1 ?h2 ?_); (case h1 => exact rfl); (case h2 => exact rfl))
  | ((with_reducible refine o_fld (C := ?cv) (fs := ?fv) (d := ?dv) ?h1 ?h2 ?h3 ?_); (case h1 => exact rfl); (case h2 => exact rfl); (case h3 => exact rfl))
  | ((with_reducible refine Exists.intro ?kv (And.intro ?ha ?_)); (case ha => exact rfl)))
local macro_rules | `(tactic| wtm_at "body") => `(tactic| (refine w_body rfl rfl ?_; dsimp only [List.length_cons, List.length_nil, List.drop, List.append_nil, List.map_cons, List.map_nil, List.map, List.cons_append, List.nil_append, Nat.reduceAdd, Nat.reduceSub, List.replicate]))
local macro_rules | `(tactic| wtm_at "meth") => `(tactic| refine ⟨_, _, _, rfl, rfl, rfl, ?_⟩)
local macro_rules | `(tactic| wtm_at "w") => `(tactic| first | with_reducible refine w_seq ?_ | wtm_at "e")
local macro_rules | `(tactic| wtm_at "s") => `(tactic| ((repeat wtm_at "e"); (with_reducible refine w_seq ?_)))
local macro_rules | `(tactic| wtm_at "f") => `(tactic| ((repeat wtm_at "e"); (with_reducible show FP _ _)))
/-! letters and words drawn -/
theorem perm_erase {T : Type} : ∀ (l : List T) (k : Nat) (x : T), l[k]? = some x → (x :: l.eraseIdx k).Perm l
  | [], k, x, h => by simp at h
  | a :: l, 0, x, h => by
    simp at h
    subst h
    exact .refl _
  | a :: l, k + 1, x, h => by
    have h' : l[k]? = some x := by simpa using h
    exact (List.Perm.swap a x _).trans ((perm_erase l k x h').cons a)
theorem pen_set {s : Sto} {n c : Nat} {b : Int} {o : Option Ct} (h : Pen s n b) (hc : c ≠ n) : Pen (s.set c o) n b := by
  obtain ⟨cells, g, l, h1, h2⟩ := h
  exact ⟨cells, g, l, by rw [List.getElem?_set_ne hc]; exact h1, h2⟩
theorem fr_setNew {s s' : Sto} {n c : Nat} {o : Option Ct} (h : Fr n s s') (hc : s.length ≤ c) : Fr n s (s'.set c o) := by
  refine ⟨by rw [List.length_set]; exact h.1, fun i hi ne => ?_⟩
  rw [List.getElem?_set_ne (by omega)]
  exact h.2 i hi ne
theorem fr_app {s s' : Sto} {n : Nat} {o : List (Option Ct)} (h : Fr n s s') : Fr n s (s' ++ o) := by
  have hl := h.1
  refine ⟨by rw [List.length_append]; omega, fun i hi ne => ?_⟩
  rw [List.getElem?_append_left (by omega)]
  exact h.2 i hi ne
/-- the pen's frame, where the store may grow -/
structure PH (n : Nat) (s s' : Sto) (b : Int) : Prop where
  pen : Pen s' n b
  fr : Fr n s s'
theorem PH.of {n : Nat} {s : Sto} {b : Int} (h : Pen s n b) : PH n s s b := ⟨h, Fr.refl⟩
theorem PF.ph {n : Nat} {s s' : Sto} {b : Int} (h : PF n s s' b) : PH n s s' b := ⟨h.pen, h.fr⟩
theorem PH.go {n : Nat} {s s' s'' : Sto} {b c d : Int} (h : PH n s s' b) (p : PH n s' s'' c) (hd : c ≤ d) : PH n s s'' d := ⟨p.pen.mono hd, h.fr.trans p.fr⟩
theorem PH.mono {n : Nat} {s s' : Sto} {b c : Int} (h : PH n s s' b) (hb : b ≤ c) : PH n s s' c := ⟨h.pen.mono hb, h.fr⟩
theorem PH.app {n : Nat} {s s' : Sto} {b : Int} {o : Option Ct} (h : PH n s s' b) : PH n s (s' ++ [o]) b := ⟨h.pen.app o, fr_app h.fr⟩
theorem PH.set {n c : Nat} {s s' : Sto} {b : Int} {o : Option Ct} (h : PH n s s' b) (hc : s.length ≤ c) (hn : n < s.length) : PH n s (s'.set c o) b := ⟨pen_set h.pen (by omega), fr_setNew h.fr hc⟩
section
variable {n : Nat} {b : Int} {s : Sto} {Q : D → Sto → Prop} {E : XT}
theorem o_neNilC {c : Nat} {l : List Int} (hs : s[c]? = some (some (.lst (l.map .int)))) (h : Q (.bl (!l.isEmpty)) s) : RP Q E (neD (.cel c) (.lst []) s) := by
  have e : neD (.cel c) (.lst []) s = neD (.lst (l.map .int)) (.lst []) s := by
    show eqG true (.cel c) (.lst []) s = _
    unfold eqG
    dsimp only
    rw [hs]
    rfl
  rw [e]
  exact o_neNil h
theorem q_shuffled {ns : List Int} (p : Pen s n b) (hb : b + ns.length ≤ 1000000000) (hl : ns.length ≤ 1000) (h : ∀ (ms : List Int) (c : Nat) s', ms.Perm ns → s'[c]? = some (some (.lst (ms.map .int))) → s.length ≤ c → PH n s s' (b + ns.length) → Q (.cel c) s') :
    RP Q E (m__law_shuffled [.cel n, .lst (ns.map .int)] s) := by
  have hz : sizeLine = 16777216 := by decide
  have hn := p.lt
  wtm_at "body"
  unfold b__law_shuffled
  wtm_at "s"
  repeat wtm_at "e"
  refine RP.of (a := .cel s.length) (s' := s ++ [some (.lst (ns.map .int))]) rfl ?_
  repeat wtm_at "e"
  refine o_lstC (by decide) ?_
  repeat wtm_at "e"
  refine ⟨_, _, rfl, ?_⟩
  wtm_at "s"
  have el : (s ++ [some (Ct.lst (ns.map .int))]).length = s.length + 1 := by simp
  refine w_while (fun m r s' => ∃ rest found : List Int, r = [some (.cel n), some (.lst (ns.map .int)), some (.cel s.length), some (.cel (s.length + 1))] ∧ s'[s.length]? = some (some (.lst (rest.map .int))) ∧ s'[s.length + 1]? = some (some (.lst (found.map .int))) ∧ (found ++ rest).Perm ns ∧ rest.length = m ∧ PH n s s' (b + found.length)) ?_ ns.length _ _
    ⟨ns, [], by rw [el]; rfl, by rw [List.getElem?_append_left (by simp), List.getElem?_append_right (Nat.le_refl _)]; simp, by rw [List.getElem?_append_right (by rw [el]; exact Nat.le_refl _), el]; simp, .refl _, rfl, by simpa using ((PH.of p).app).app⟩
  rintro m r s' ⟨rest, found, rfl, h1, h2, hp, hm, ph⟩
  have hfl : found.length + rest.length = ns.length := by
    have := hp.length_eq
    rw [List.length_append] at this
    exact this
  repeat wtm_at "e"
  refine o_neNilC h1 ?_
  repeat wtm_at "e"
  refine ⟨fun hk => ?_, fun hk => ?_⟩
  · have h0 : 0 < rest.length := by
      cases rest with
      | nil => cases hk
      | cons a r => simp
    have t1 : isLstD s' (.cel (s.length + 1)) = true := by
      unfold isLstD lstOf lstX
      dsimp only
      rw [h2]
      rfl
    have t2 : isLstD s' (.cel s.length) = true := by
      unfold isLstD lstOf lstX
      dsimp only
      rw [h1]
      rfl
    repeat wtm_at "e"
    refine w_bm ?_
    repeat wtm_at "e"
    refine ⟨t1, ?_⟩
    repeat wtm_at "e"
    refine w_bm ?_
    repeat wtm_at "e"
    refine ⟨t2, ?_⟩
    repeat wtm_at "e"
    refine o_len (l := rest.map .int) (fun z => (by intro q; cases q)) (by show lstOf s' (.cel s.length) = _; unfold lstOf lstX; dsimp only; rw [h1]) ?_
    rw [List.length_map]
    repeat wtm_at "e"
    refine q_draw ph.pen (by omega) (by omega) (by omega) fun k s2 hk0 hk1 p2 f2 l2 => ?_
    have hlt : k.toNat < rest.length := by omega
    have g1 : s2[s.length]? = some (some (.lst (rest.map .int))) := by
      rw [f2.2 s.length (by have := (List.getElem?_eq_some_iff.mp h1).1; omega) (by omega)]
      exact h1
    have g2 : s2[s.length + 1]? = some (some (.lst (found.map .int))) := by
      rw [f2.2 (s.length + 1) (by have := (List.getElem?_eq_some_iff.mp h2).1; omega) (by omega)]
      exact h2
    repeat wtm_at "e"
    refine o_pop (k := k.toNat) (d := .int (rest[k.toNat])) g1 (by omega) (by rw [List.getElem?_map, List.getElem?_eq_getElem hlt]; rfl) (by rw [List.length_map]; omega) ?_
    repeat wtm_at "e"
    refine o_app (l := found.map .int) (by rw [List.getElem?_set_ne (by omega)]; exact g2) (by rw [List.length_map]; omega) ?_
    have ee : (rest.map D.int).eraseIdx k.toNat = (rest.eraseIdx k.toNat).map .int := by
      rw [List.eraseIdx_eq_take_drop_succ, List.eraseIdx_eq_take_drop_succ, List.map_append, List.map_take, List.map_drop]
    have c1 : s.length < s2.length := (List.getElem?_eq_some_iff.mp g1).1
    have c2 : s.length + 1 < s2.length := (List.getElem?_eq_some_iff.mp g2).1
    refine ⟨rest.length - 1, by omega, rest.eraseIdx k.toNat, found ++ [rest[k.toNat]], rfl, ?_, ?_, ?_, ?_, ?_⟩
    · rw [List.getElem?_set_ne (by omega), List.getElem?_set_self c1, ee]
    · rw [List.getElem?_set_self (by rw [List.length_set]; exact c2), List.map_append]
      rfl
    · refine List.Perm.trans ?_ hp
      rw [List.append_assoc]
      exact List.Perm.append_left found (perm_erase rest k.toNat _ (List.getElem?_eq_getElem hlt))
    · rw [List.length_eraseIdx, if_pos hlt]
    · have q : PH n s s2 (b + found.length + 1) := ph.go ⟨p2, f2⟩ (Int.le_refl _)
      rw [List.length_append]
      exact ((q.set (Nat.le_refl _) hn).set (Nat.le_succ _) hn).mono (by simp; omega)
  · have h0 : rest = [] := by
      cases rest with
      | nil => rfl
      | cons a r => cases hk
    subst h0
    repeat wtm_at "e"
    rw [List.append_nil] at hp
    exact h found (s.length + 1) s' hp h2 (Nat.le_succ _) (ph.mono (by rw [hp.length_eq]; exact Int.le_refl _))
theorem intL_map (m : Nat) : intL 0 m = ((List.range m).map fun k => ((k : Nat) : Int)).map .int := by
  unfold intL
  rw [List.map_map]
  apply List.map_congr_left
  intro k _
  show D.int (0 + (k : Nat)) = D.int (k : Nat)
  rw [Int.zero_add]
theorem sorted_lets {ms ns : List Int} {m : Nat} (hp : ms.Perm ((List.range 26).map fun k => ((k : Nat) : Int))) (h1 : 1 ≤ m) (h2 : m ≤ 4) (he : ns = (ms.take m).mergeSort leI2) : ∃ ps : List Nat, Lets ps ∧ ps.length ≤ m ∧ ns = ps.map fun k => ((k : Nat) : Int) := by
  have hlen : ms.length = 26 := by rw [hp.length_eq]; simp
  have pm : ns.Perm (ms.take m) := by rw [he]; exact List.mergeSort_perm _ _
  have hmem : ∀ z ∈ ns, ∃ k : Nat, k < 26 ∧ z = k := fun z hz => by
    have a1 := (List.take_subset _ _) (pm.mem_iff.mp hz)
    have a2 := hp.mem_iff.mp a1
    obtain ⟨k, hk, rfl⟩ := List.mem_map.mp a2
    exact ⟨k, List.mem_range.mp hk, rfl⟩
  have nd : ns.Nodup := by
    have a0 : ((List.range 26).map fun k => ((k : Nat) : Int)).Nodup := by decide
    have a1 : ms.Nodup := hp.nodup_iff.mpr a0
    have a2 : (ms.take m).Nodup := a1.sublist (List.take_sublist _ _)
    exact pm.nodup_iff.mpr a2
  have as : ns.Pairwise (· < ·) := by
    have q := List.pairwise_mergeSort (le := leI2) (fun a b c h k => by simp only [leI2, decide_eq_true_eq] at *; omega) (fun a b => by simp only [leI2, Bool.or_eq_true, decide_eq_true_eq]; omega) (ms.take m)
    rw [← he] at q
    refine List.Pairwise.imp₂ (fun a b h1 h2 => ?_) q nd
    have h1 := of_decide_eq_true h1
    omega
  have eq : ns = (ns.map Int.toNat).map fun k => ((k : Nat) : Int) := by
    rw [List.map_map]
    conv => lhs; rw [← List.map_id ns]
    apply List.map_congr_left
    intro z hz
    obtain ⟨k, _, rfl⟩ := hmem z hz
    rfl
  have nl : ns.length = m := by rw [pm.length_eq, List.length_take, hlen]; omega
  refine ⟨ns.map Int.toNat, ⟨by rw [List.length_map]; omega, by rw [List.length_map]; omega, fun i hi => ?_, ?_⟩, by rw [List.length_map]; omega, eq⟩
  · obtain ⟨z, hz, rfl⟩ := List.mem_map.mp hi
    obtain ⟨k, hk, rfl⟩ := hmem z hz
    exact hk
  · rw [List.pairwise_map]
    refine as.imp_of_mem fun {a b} ha hb hab => ?_
    obtain ⟨k, _, rfl⟩ := hmem a ha
    obtain ⟨j, _, rfl⟩ := hmem b hb
    show k < j
    omega
theorem q_letters {m : Int} (p : Pen s n b) (hb : b + 30 ≤ 1000000000) (h1 : 1 ≤ m) (h2 : m ≤ 4) (h : ∀ (ps : List Nat) s', Lets ps → PH n s s' (b + 27) → Q (.str (LS ps)) s') : RP Q E (m__law_letters [.cel n, .int m] s) := by
  have hz : sizeLine = 16777216 := by decide
  wtm_at "body"
  unfold b__law_letters
  wtm_at "s"
  repeat wtm_at "e"
  refine w_listRg (k := 26) ?_
  repeat wtm_at "e"
  refine ⟨rfl, by decide, by decide, ?_⟩
  repeat wtm_at "e"
  rw [intL_map]
  refine q_shuffled p (by simp; omega) (by simp) fun ms c s1 hp hc hcl ph => ?_
  have ph : PH n s s1 (b + 26) := ph.mono (by simp)
  repeat wtm_at "e"
  refine q_draw ph.pen (by omega) (by omega) (by omega) fun k s2 hk0 hk1 p2 f2 l2 => ?_
  have hcn : c ≠ n := by
    have := p.lt
    omega
  have g2 : s2[c]? = some (some (.lst (ms.map .int))) := by
    rw [f2.2 c (List.getElem?_eq_some_iff.mp hc).1 hcn]
    exact hc
  repeat wtm_at "e"
  have es : sliD false (.cel c) none (some (1 + k)) s2 = .ok (.lst ((ms.take (1 + k).toNat).map .int)) s2 := by
    unfold sliD
    dsimp only
    have e0 : lstOf s2 (.cel c) = some (ms.map .int) := by
      unfold lstOf lstX
      dsimp only
      rw [g2]
    rw [e0]
    dsimp only
    rw [cut_take (by omega), ← List.map_take]
    rfl
  refine RP.of es ?_
  repeat wtm_at "e"
  refine o_sortedI (ns := ms.take (1 + k).toNat) rfl rfl ?_
  obtain ⟨ps, lt, hpl, eps⟩ := sorted_lets (m := (1 + k).toNat) hp (by omega) (by omega) rfl
  rw [eps]
  repeat wtm_at "e"
  refine w_bm ?_
  repeat wtm_at "e"
  refine ⟨rfl, ?_⟩
  repeat wtm_at "e"
  rw [List.map_map]
  have h4 := lt.few
  refine w_lcX ps (fun i => .int ((i : Nat) : Int)) (fun i => .str (ch i)) rfl rfl (by omega) (fun i hi => ⟨_, rfl, ?_⟩) ?_
  · repeat wtm_at "e"
    have hi := lt.lt i hi
    rw [abc]
    exact idx_LS (k := i) (p := i) (by decide) rfl (by rw [List.getElem?_eq_getElem (by simpa using hi)]; simp) ⟨rfl, rfl⟩
  · repeat wtm_at "e"
    have e3 : (ps.map fun i => D.str (ch i)) = (ps.map ch).map .str := by rw [List.map_map]; rfl
    rw [e3]
    refine o_join (ys := ps.map ch) rfl (by rw [LS_joinlen, List.length_map]; show ps.length + ps.length * 0 ≤ 16777216; omega) ?_
    rw [LS_join]
    exact h ps s2 lt (ph.go ⟨p2, f2⟩ (by omega))
theorem q_pickS {ps : List Nat} (p : Pen s n b) (hb : b ≤ 1000000000) (h0 : 0 < ps.length) (h1 : ps.length < 1000000) (h : ∀ i s', i ∈ ps → PF n s s' (b + 1) → Q (.str (ch i)) s') : RP Q E (m__law_pick [.cel n, .str (LS ps)] s) := by
  have hz : sizeLine = 16777216 := by decide
  wtm_at "body"
  unfold b__law_pick
  repeat wtm_at "w"
  refine o_lenS (by rw [LS_len]; omega) ?_
  rw [LS_len]
  repeat wtm_at "w"
  refine q_draw p hb (by omega) (by omega) fun k s' hk hk1 p' f' e' => ?_
  have hlt : k.toNat < ps.length := by omega
  refine idx_LS (k := k.toNat) (p := ps[k.toNat]) (by omega) (by omega) (List.getElem?_eq_getElem hlt) ?_
  exact h _ _ (List.getElem_mem hlt) ⟨p', f', e'⟩
theorem q_word {ps : List Nat} {m : Int} (p : Pen s n b) (hb : b + m + 2 ≤ 1000000000) (h0 : 0 < ps.length) (h1 : ps.length < 1000000) (hm : 0 ≤ m) (hm2 : m ≤ 1000) (h : ∀ (ws : List Nat) s', (ws.length : Int) ≤ m → (∀ w ∈ ws, w ∈ ps) → PF n s s' (b + m + 1) → Q (.str (LS ws)) s') :
    RP Q E (m__law_word [.cel n, .str (LS ps), .int m] s) := by
  have hz : sizeLine = 16777216 := by decide
  wtm_at "body"
  unfold b__law_word
  repeat wtm_at "e"
  refine w_bm ?_
  repeat wtm_at "e"
  refine ⟨rfl, ?_⟩
  repeat wtm_at "e"
  refine q_draw p (by omega) (by omega) (by omega) fun k s1 hk0 hk1 p1 f1 l1 => ?_
  repeat wtm_at "e"
  refine w_range1 (by omega) (by omega) ?_
  have pf1 : PF n s s1 (b + 1) := ⟨p1, f1, l1⟩
  refine w_lc (fun i l s' => ∃ ws : List Nat, l = (ws.map ch).map .str ∧ ws.length = i ∧ i ≤ k.toNat ∧ (∀ w ∈ ws, w ∈ ps) ∧ PF n s s' (b + 1 + i)) rfl ⟨[], rfl, rfl, Nat.zero_le _, fun _ z => (by cases z), pf1.mono (by omega)⟩ ?_ ?_
  · rintro i d l s' hd ⟨ws, rfl, hwl, hik, hw, pf⟩
    obtain ⟨hi, rfl⟩ := intL_get hd
    refine ⟨_, rfl, fun _ => ?_, fun z => (by cases z)⟩
    repeat wtm_at "e"
    refine q_pickS pf.pen (by omega) h0 h1 fun j s2 hj pf2 => ?_
    refine ⟨by rw [List.length_map, List.length_map]; omega, ws ++ [j], by simp, by simp [hwl], hi, fun w hwm => ?_, pf.go' pf2 (by omega)⟩
    rcases List.mem_append.mp hwm with hwm | hwm
    · exact hw w hwm
    · simp at hwm
      rw [hwm]
      exact hj
  · rintro l s' ⟨ws, rfl, hwl, hik, hw, pf⟩
    rw [intL_len] at hwl pf
    repeat wtm_at "e"
    refine o_join (ys := ws.map ch) rfl (by rw [LS_joinlen, List.length_map]; show ws.length + ws.length * 0 ≤ 16777216; omega) ?_
    rw [LS_join]
    exact h ws s' (by omega) hw (pf.mono (by omega))
end
/-! letters, words -/
section
variable {s : Sto} {Q : D → Sto → Prop} {E : XT} {ps ws : List Nat}
theorem all_true {T : Type} (l : List T) (f : T → Bool) (h : ∀ x ∈ l, f x = true) : (l.map f).all id = true := by
  rw [List.all_eq_true]
  intro b hb
  obtain ⟨x, hx, rfl⟩ := List.mem_map.mp hb
  exact h x hx
theorem o_allX {T : Type} {l : List T} {f : T → Bool} (h : Q (.bl ((l.map f).all id)) s) : RP Q E (allD [.lst (l.map fun x => .bl (f x))] s) := o_all (l := l.map f) (by show bools _ = _; exact bools_map f l) h
theorem q_are_letters (hp : Lets ps) (h : Q (.bl true) s) : RP Q E (m_are_letters [.str (LS ps)] s) := by
  have hz : sizeLine = 16777216 := by decide
  have hlen := LS_len ps
  have h1 := hp.pos
  have h4 := hp.few
  wtm_at "body"
  unfold b_are_letters
  wtm_at "f"
  with_reducible refine w_mid (fun r s' => s' = s ∧ r = [some (.str (LS ps)), none, none]) ?_ ?_
  · repeat wtm_at "e"
    refine ⟨fun _ => ?_, fun z => by cases z⟩
    repeat wtm_at "e"
    refine o_lenS (by omega) ?_
    rw [hlen]
    repeat wtm_at "e"
    refine ⟨fun _ => ?_, fun z => ?_⟩
    · repeat wtm_at "e"
      refine ⟨fun z => ?_, fun _ => ?_⟩
      · have : decide ((ps.length : Int) ≤ 4) = true := decide_eq_true (by omega)
        rw [this] at z
        cases z
      · repeat wtm_at "e"
        exact ⟨rfl, rfl⟩
    · exact absurd z (by rw [decide_eq_true (show (1 : Int) ≤ (ps.length : Int) by omega)]; exact fun q => by cases q)
  · rintro r s' ⟨rfl, rfl⟩
    wtm_at "f"
    with_reducible refine w_mid (fun r s2 => s2 = s' ∧ r = [some (.str (LS ps)), none, none]) ?_ ?_
    · repeat wtm_at "e"
      refine w_lcX ps (fun i => .str (ch i)) (fun i => .bl true) (LS_chars ps) rfl (by omega) (fun i hi => ⟨_, rfl, ?_⟩) ?_
      · repeat wtm_at "e"
        refine o_inS ?_
        exact ⟨rfl, by rw [inStr_abc (hp.lt i hi)]⟩
      · repeat wtm_at "e"
        refine o_allX (l := ps) (f := fun _ => true) ?_
        rw [all_true _ _ fun _ _ => rfl]
        repeat wtm_at "e"
        refine ⟨fun z => (by cases z), fun _ => ?_⟩
        repeat wtm_at "e"
        exact ⟨rfl, rfl⟩
    · rintro r s2 ⟨rfl, rfl⟩
      repeat wtm_at "e"
      refine o_lenS (by omega) ?_
      rw [hlen]
      repeat wtm_at "e"
      refine w_range1 (by omega) (by omega) ?_
      have e1 : ((ps.length : Int) - 1).toNat = ps.length - 1 := by omega
      rw [e1]
      refine w_lcX (List.range (ps.length - 1)) (fun i => .int (0 + (i : Nat))) (fun i => .bl true) rfl rfl (by rw [List.length_range]; omega) (fun i hi => ⟨_, rfl, ?_⟩) ?_
      · have hi := List.mem_range.mp hi
        have a1 : i < ps.length := by omega
        have a2 : i + 1 < ps.length := by omega
        repeat wtm_at "e"
        refine idx_LS (k := i) (p := ps[i]) (by omega) (by omega) (List.getElem?_eq_getElem a1) ?_
        repeat wtm_at "e"
        refine idx_LS (k := i + 1) (p := ps[i + 1]) (by omega) (by omega) (List.getElem?_eq_getElem a2) ?_
        refine lt_ch ?_
        refine ⟨rfl, ?_⟩
        rw [decide_eq_true]
        exact List.pairwise_iff_getElem.mp hp.asc i (i + 1) a1 a2 (by omega)
      · repeat wtm_at "e"
        refine o_allX (l := List.range (ps.length - 1)) (f := fun _ => true) ?_
        rw [all_true _ _ fun _ _ => rfl]
        exact h
theorem q_is_word (hw : ∀ w ∈ ws, w ∈ ps) (hl : ws.length ≤ 160) (hz : ps.length ≤ sizeLine) (h : Q (.bl true) s) : RP Q E (m_is_word [.str (LS ps), .str (LS ws), .int 160] s) := by
  have hz : sizeLine = 16777216 := by decide
  have hlen := LS_len ws
  wtm_at "body"
  unfold b_is_word
  wtm_at "f"
  with_reducible refine w_mid (fun r s' => s' = s ∧ r = [some (.str (LS ps)), some (.str (LS ws)), some (.int 160), none]) ?_ ?_
  · repeat wtm_at "e"
    refine ⟨fun _ => ?_, fun z => by cases z⟩
    repeat wtm_at "e"
    refine o_lenS (by omega) ?_
    rw [hlen]
    repeat wtm_at "e"
    refine ⟨fun z => ?_, fun _ => ?_⟩
    · exact absurd (of_decide_eq_true z) (by omega)
    · repeat wtm_at "e"
      exact ⟨rfl, rfl⟩
  · rintro r s' ⟨rfl, rfl⟩
    repeat wtm_at "e"
    refine w_lcX ws (fun i => .str (ch i)) (fun i => .bl true) (LS_chars ws) rfl (by omega) (fun i hi => ⟨_, rfl, ?_⟩) ?_
    · repeat wtm_at "e"
      refine o_inS ?_
      exact ⟨rfl, by rw [inStr_LS, decide_eq_true (hw i hi)]⟩
    · repeat wtm_at "e"
      refine o_allX (l := ws) (f := fun _ => true) ?_
      rw [all_true _ _ fun _ _ => rfl]
      exact h
theorem q_need_word (hw : ∀ w ∈ ws, w ∈ ps) (hl : ws.length ≤ 160) (hz : ps.length ≤ sizeLine) (h : Q .non s) : RP Q E (m_need_word [.str (LS ps), .str (LS ws)] s) := by
  wtm_at "body"
  unfold b_need_word
  repeat wtm_at "e"
  refine q_is_word hw hl hz ?_
  repeat wtm_at "e"
  refine ⟨fun z => (by cases z), fun _ => ?_⟩
  repeat wtm_at "e"
  exact h
end
/-! draws one after the other, dicts by letters -/
section
end
end G
set_option Elab.async false
set_option linter.all false
set_option maxRecDepth 100000
set_option maxHeartbeats 4000000
namespace G
open Mp Pl
open PySem (Str sizeLine)
local macro_rules | `(tactic| wtm_at "e") => `(tactic| first
  | with_reducible refine w_set ?_
  | with_reducible refine w_bin ?_
  | ((with_reducible refine w_v (d := ?dv) ?hv ?_); (case hv => exact rfl))
  | with_reducible refine w_c ?_
  | with_reducible refine w_cons ?_
  | with_reducible refine w_nil ?_
  | with_reducible refine w_arg ?_
  | with_reducible refine w_call ?_
  | with_reducible refine w_if ?_
  | with_reducible refine w_ret ?_
  | with_reducible refine w_skip ?_
  | with_reducible refine w_bl ?_
  | with_reducible refine w_tru ?_
  | with_reducible refine w_attr ?_
  | with_reducible refine w_meth ?_
  | with_reducible refine w_chain ?_
  | with_reducible refine w_and ?_
  | with_reducible refine w_or ?_
  | with_reducible refine w_not ?_
  | with_reducible refine w_notT ?_
  | with_reducible refine w_andT ?_
  | with_reducible refine w_orT ?_
  | with_reducible refine w_ifM ?_
  | with_reducible refine w_expr ?_
  | with_reducible refine w_un ?_
  | with_reducible refine w_par2 ?_
  | with_reducible refine w_par3 ?_
  | with_reducible refine w_asg ?_
  | with_reducible refine w_aug ?_
  | with_reducible refine w_sub ?_
  | with_reducible refine w_fld ?_
  | with_reducible refine w_raise ?_
  | with_reducible refine w_raise0 ?_
  | with_reducible refine w_try ?_
  | with_reducible refine w_make ?_
  | with_reducible refine w_tryAs ?_
  | with_reducible refine w_exn ?_
  | ((with_reducible refine o_isx (b := ?bv) ?h1 ?_); (case h1 => exact rfl))
  | with_reducible refine w_superS ?_
  | with_reducible refine w_super ?_
  | with_reducible refine w_star ?_
  | with_reducible refine w_for0 ?_
  | with_reducible refine w_lc0 ?_
  | with_reducible refine w_lc20 ?_
  | with_reducible refine w_seqJ ?_
  | with_reducible refine w_starC ?_
  | with_reducible refine w_spr ?_
  | with_reducible refine w_kwA ?_
  | with_reducible refine w_kwM ?_
  | with_reducible refine w_sprK ?_
  | with_reducible refine w_get ?_
  | with_reducible refine w_makeL ?_
  | with_reducible refine w_tryN ?_
  | ((with_reducible refine o_own0 ?hv ?_); (case hv => exact rfl))
  | ((with_reducible refine o_eqO0 ?hv ?_); (case hv => exact rfl))
  | with_reducible refine w_seqI ?_
  | with_reducible refine w_argI ?_
  | with_reducible refine w_opt ?_
  | with_reducible refine w_sli ?_
  | with_reducible refine w_pure ?_
  | with_reducible refine w_disp ?_
  | with_reducible refine w_pairs1 ?_
  | with_reducible refine w_pairs0 ?_
  | with_reducible refine w_retN ?_
  | with_reducible refine w_cnt ?_
  | with_reducible refine w_brk ?_
  | with_reducible refine o_addI ?_
  | with_reducible refine o_addI' ?_
  | with_reducible refine o_sub ?_
  | with_reducible refine o_lt ?_
  | with_reducible refine o_le ?_
  | with_reducible refine o_gt ?_
  | with_reducible refine o_ge ?_
  | with_reducible refine o_eqI ?_
  | with_reducible refine o_neI ?_
  | with_reducible refine o_eqS ?_
  | with_reducible refine o_neS ?_
  | with_reducible refine o_int ?_
  | with_reducible refine o_intB ?_
  | with_reducible refine o_neg ?_
  | with_reducible refine o_abs ?_
  | with_reducible refine o_newL ?_
  | with_reducible refine o_max2 ?_
  | with_reducible refine o_min2 ?_
  | with_reducible refine o_lenL ?_
  | with_reducible refine o_lenT ?_
  | ((with_reducible refine o_tup ?hv ?_); (case hv => first | exact Nat.le_of_ble_eq_true rfl | assumption))
  | ((with_reducible refine o_lst ?hv ?_); (case hv => first | exact Nat.le_of_ble_eq_true rfl | assumption))
  | ((with_reducible refine o_isi (t := ?tv) (b := ?bv) ?h1 ?h2 ?_); (case h1 => exact rfl); (case h2 => exact rfl))
  | ((with_reducible refine o_fld (C := ?cv) (fs := ?fv) (d := ?dv) ?h1 ?h2 ?h3 ?_); (case h1 => exact rfl); (case h2 => exact rfl); (case h3 => exact rfl))
  | ((with_reducible refine Exists.intro ?kv (And.intro ?ha ?_)); (case ha => exact rfl)))
local macro_rules | `(tactic| wtm_at "body") => `(tactic| (refine w_body rfl rfl ?_; dsimp only [List.length_cons, List.length_nil, List.drop, List.append_nil, List.map_cons, List.map_nil, List.map, List.cons_append, List.nil_append, Nat.reduceAdd, Nat.reduceSub, List.replicate]))
local macro_rules | `(tactic| wtm_at "meth") => `(tactic| refine ⟨_, _, _, rfl, rfl, rfl, ?_⟩)
local macro_rules | `(tactic| wtm_at "w") => `(tactic| first | with_reducible refine w_seq ?_ | wtm_at "e")
local macro_rules | `(tactic| wtm_at "s") => `(tactic| ((repeat wtm_at "e"); (with_reducible refine w_seq ?_)))
local macro_rules | `(tactic| wtm_at "f") => `(tactic| ((repeat wtm_at "e"); (with_reducible show FP _ _)))
/-! values of any kind -/
def bigI : Int := 10 ^ 50 * 10 ^ 50 * 10 ^ 9
def oddA : List D := [.non, .bl true, .bl false, .int 0, .int 1, .int (-1), .int 2, .int 7, .int 160, .int 161, .int (10 ^ 30), .str "", .str "a", .str "b", .str "ab", .str "ba", .int bigI, .int (0 - bigI), .str "A", .str "0", .str "1", .str "1/2", .str "fractions", .str "modulo 7", .str "a b", .str " ", .str "aa", .str "abcde"]
def oddB : List D := [.tup [], .lst [], .tup [.str "a"], .lst [.str "a"], .lst [.int 1], .tup [.int 1, .int 2], .tup [.int 2, .int 4], .tup [.int 0, .int 2], .tup [.int 1, .int 1], .tup [.int 1, .int 0], .tup [.int 1, .int (-2)], .tup [.bl true, .int 2], .lst [.int 1, .int 2], .tup [.int 1, .int 2, .int 3]]
/-- flat; a tuple, a list of flat ones; a dict -/
def Odd (s : Sto) (d : D) : Prop := d ∈ oddA ∨ d ∈ oddB ∨ ∃ k, d = .cel k ∧ (s[k]? = some (some (.dct [])) ∨ s[k]? = some (some (.dct [(.inr "a", .int 1)])))
theorem q_odd {n : Nat} {b : Int} {s : Sto} {Q : D → Sto → Prop} {E : XT} (p : Pen s n b) (hb : b ≤ 1000000000) (h : ∀ d s', Odd s' d → Pen s' n (b + 1) → Fr n s s' → s'.length = s.length + 2 → Q d s') : RP Q E (m__law_odd [.cel n] s) := by
  have hp : n < s.length := p.lt
  have z : ∀ {a b : Nat}, a + b ≤ 100 → a + b ≤ sizeLine := fun h => Nat.le_trans h (by decide)
  wtm_at "body"
  unfold b__law_odd
  wtm_at "s"
  repeat wtm_at "e"
  refine o_powV (v := 10 ^ 30) (by decide) (by decide) (by decide) rfl ?_
  repeat wtm_at "e"
  wtm_at "s"
  repeat wtm_at "e"
  refine o_powV (v := 10 ^ 50) (by decide) (by decide) (by decide) rfl ?_
  repeat wtm_at "e"
  refine o_powV (v := 10 ^ 50) (by decide) (by decide) (by decide) rfl ?_
  refine o_mul (mulC_of (a := 400) (b := 400) (by decide +kernel) (by decide +kernel) (by decide) (by decide) (by decide)) ?_
  repeat wtm_at "e"
  refine o_powV (v := 10 ^ 9) (by decide) (by decide) (by decide) rfl ?_
  refine o_mul (mulC_of (a := 400) (b := 400) (by decide +kernel) (by decide +kernel) (by decide) (by decide) (by decide)) ?_
  repeat wtm_at "e"
  refine o_powV (v := 10 ^ 50) (by decide) (by decide) (by decide) rfl ?_
  repeat wtm_at "e"
  refine o_powV (v := 10 ^ 50) (by decide) (by decide) (by decide) rfl ?_
  refine o_mul (mulC_of (a := 400) (b := 400) (by decide +kernel) (by decide +kernel) (by decide) (by decide) (by decide)) ?_
  repeat wtm_at "e"
  refine o_powV (v := 10 ^ 9) (by decide) (by decide) (by decide) rfl ?_
  refine o_mul (mulC_of (a := 400) (b := 400) (by decide +kernel) (by decide +kernel) (by decide) (by decide) (by decide)) ?_
  repeat wtm_at "e"
  refine o_addL (z (by show 16 + 2 ≤ 100; decide)) ?_
  wtm_at "s"
  repeat wtm_at "e"
  refine w_ok (s := s ++ [some (.dct [])]) ?_
  repeat wtm_at "e"
  refine o_addL (z (by show 18 + 15 ≤ 100; decide)) ?_
  wtm_at "s"
  repeat wtm_at "e"
  refine ⟨by show 1 ≤ 15; decide, ?_⟩
  repeat wtm_at "e"
  refine o_addL (z (by show 33 + 11 ≤ 100; decide)) ?_
  repeat wtm_at "e"
  have pen2 := (p.app (some (.dct []))).app (some (.dct [(.inr "a", .int 1)]))
  refine q_pick pen2 hb (by show 0 < 44; decide) (by show 44 < 1000000; decide) fun d s' hd p' f' l' => ?_
  have f' : Fr n (s ++ [some (Ct.dct [])] ++ [some (Ct.dct [(.inr "a", .int 1)])]) s' := f'
  have l2 : s'.length = s.length + 2 := by
    rw [l']
    simp
  have f2 : Fr n s s' := ⟨by omega, fun i hi ne => (f'.2 i (by simp; omega) ne).trans (by
    rw [List.getElem?_append_left (by simp; omega), List.getElem?_append_left hi])⟩
  have c1 : s'[s.length]? = some (some (.dct [])) := (f'.2 s.length (by simp) (by omega)).trans (by simp)
  have c2 : s'[s.length + 1]? = some (some (.dct [(.inr "a", .int 1)])) := (f'.2 (s.length + 1) (by simp) (by omega)).trans (by rw [List.getElem?_append_right (by simp)]; simp)
  refine h d s' ?_ p' f2 l2
  have hd : d ∈ (([D.non, .bl true, .bl false, .int 0, .int 1, .int (-1), .int 2, .int 7, .int 160, .int 161, .int (10 ^ 30), .str "", .str "a", .str "b", .str "ab", .str "ba"] ++ [D.int bigI, .int (0 - bigI)]) ++ [D.str "A", .str "0", .str "1", .str "1/2", .str "fractions", .str "modulo 7", .str "a b", .str " ", .str "aa", .str "abcde", .tup [], .lst [], .cel s.length, .tup [.str "a"], .lst [.str "a"]]) ++ [D.lst [.int 1], .tup [.int 1, .int 2], .tup [.int 2, .int 4], .tup [.int 0, .int 2], .tup [.int 1, .int 1], .tup [.int 1, .int 0], .tup [.int 1, .int (-2)], .tup [.bl true, .int 2], .lst [.int 1, .int 2], .tup [.int 1, .int 2, .int 3], .cel (s ++ [some (Ct.dct [])]).length] := hd
  have e2 : (s ++ [some (Ct.dct [])]).length = s.length + 1 := by simp
  rw [e2] at hd
  simp only [List.mem_append, List.mem_cons, List.not_mem_nil, or_false] at hd
  rcases hd with (((hd | hd) | hd) | hd)
  · rcases hd with rfl | rfl | rfl | rfl | rfl | rfl | rfl | rfl | rfl | rfl | rfl | rfl | rfl | rfl | rfl | rfl
    · exact .inl (List.mem_of_getElem? (i := 0) rfl)
    · exact .inl (List.mem_of_getElem? (i := 1) rfl)
    · exact .inl (List.mem_of_getElem? (i := 2) rfl)
    · exact .inl (List.mem_of_getElem? (i := 3) rfl)
    · exact .inl (List.mem_of_getElem? (i := 4) rfl)
    · exact .inl (List.mem_of_getElem? (i := 5) rfl)
    · exact .inl (List.mem_of_getElem? (i := 6) rfl)
    · exact .inl (List.mem_of_getElem? (i := 7) rfl)
    · exact .inl (List.mem_of_getElem? (i := 8) rfl)
    · exact .inl (List.mem_of_getElem? (i := 9) rfl)
    · exact .inl (List.mem_of_getElem? (i := 10) rfl)
    · exact .inl (List.mem_of_getElem? (i := 11) rfl)
    · exact .inl (List.mem_of_getElem? (i := 12) rfl)
    · exact .inl (List.mem_of_getElem? (i := 13) rfl)
    · exact .inl (List.mem_of_getElem? (i := 14) rfl)
    · exact .inl (List.mem_of_getElem? (i := 15) rfl)
  · rcases hd with rfl | rfl
    · exact .inl (List.mem_of_getElem? (i := 16) rfl)
    · exact .inl (List.mem_of_getElem? (i := 17) rfl)
  · rcases hd with rfl | rfl | rfl | rfl | rfl | rfl | rfl | rfl | rfl | rfl | rfl | rfl | rfl | rfl | rfl
    · exact .inl (List.mem_of_getElem? (i := 18) rfl)
    · exact .inl (List.mem_of_getElem? (i := 19) rfl)
    · exact .inl (List.mem_of_getElem? (i := 20) rfl)
    · exact .inl (List.mem_of_getElem? (i := 21) rfl)
    · exact .inl (List.mem_of_getElem? (i := 22) rfl)
    · exact .inl (List.mem_of_getElem? (i := 23) rfl)
    · exact .inl (List.mem_of_getElem? (i := 24) rfl)
    · exact .inl (List.mem_of_getElem? (i := 25) rfl)
    · exact .inl (List.mem_of_getElem? (i := 26) rfl)
    · exact .inl (List.mem_of_getElem? (i := 27) rfl)
    · exact .inr (.inl (List.mem_of_getElem? (i := 0) rfl))
    · exact .inr (.inl (List.mem_of_getElem? (i := 1) rfl))
    · exact .inr (.inr ⟨_, rfl, .inl c1⟩)
    · exact .inr (.inl (List.mem_of_getElem? (i := 2) rfl))
    · exact .inr (.inl (List.mem_of_getElem? (i := 3) rfl))
  · rcases hd with rfl | rfl | rfl | rfl | rfl | rfl | rfl | rfl | rfl | rfl | rfl
    · exact .inr (.inl (List.mem_of_getElem? (i := 4) rfl))
    · exact .inr (.inl (List.mem_of_getElem? (i := 5) rfl))
    · exact .inr (.inl (List.mem_of_getElem? (i := 6) rfl))
    · exact .inr (.inl (List.mem_of_getElem? (i := 7) rfl))
    · exact .inr (.inl (List.mem_of_getElem? (i := 8) rfl))
    · exact .inr (.inl (List.mem_of_getElem? (i := 9) rfl))
    · exact .inr (.inl (List.mem_of_getElem? (i := 10) rfl))
    · exact .inr (.inl (List.mem_of_getElem? (i := 11) rfl))
    · exact .inr (.inl (List.mem_of_getElem? (i := 12) rfl))
    · exact .inr (.inl (List.mem_of_getElem? (i := 13) rfl))
    · exact .inr (.inr ⟨_, rfl, .inr c2⟩)
/-! things: what they are, their repr -/
section
variable {s : Sto} {Q : D → Sto → Prop} {E : XT} {d : D}
theorem tag_cel {k : Nat} {m : List (L2.Key × D)} (h : s[k]? = some (some (.dct m))) : tagD s (.cel k) = some (.bt "dict") := by
  unfold tagD
  dsimp only
  rw [h]
end
/-! repr of things -/
open PySem (PyData) in
def RO (s : Sto) (d : D) : Prop := ∃ p, rdP s 99 d = some p ∧ p.showable = true ∧ p.depth < 60 ∧ p.shown.length ≤ sizeLine
noncomputable def rpT (s : Sto) (d : D) : Str := match rdP s 99 d with
  | some p => p.shown
  | none => ""
section
variable {s : Sto} {Q : D → Sto → Prop} {E : XT} {d : D}
open PySem (PyData)
theorem o_reprX (h1 : RO s d) (h : Q (.str (rpT s d)) s) : RP Q E (reprX [d] s) := by
  obtain ⟨p, e, h2, h3, h4⟩ := h1
  unfold rpT at h
  rw [e] at h
  unfold reprX
  dsimp only
  rw [e]
  dsimp only
  rw [if_pos ⟨h2, h3, h4⟩]
  exact h
def Flat (d : D) : Prop := d = .non ∨ (∃ b, d = .bl b) ∨ (∃ i : Int, d = .int i ∧ i.natAbs < 2 ^ 1000) ∨ ∃ z, d = .str z ∧ (PySem.reprText z).length ≤ 600
theorem flat_rd (h : Flat d) (n : Nat) : ∃ p, rdP s (n + 1) d = some p ∧ p.showable = true ∧ p.hasDict = false ∧ p.depth = 0 ∧ wt p ≤ 600 := by
  rcases h with rfl | ⟨b, rfl⟩ | ⟨i, rfl, hi⟩ | ⟨z, rfl, hz⟩
  · exact ⟨.none, by simp only [rdP], rfl, rfl, rfl, by show 4 ≤ 600; decide⟩
  · exact ⟨.bool b, by simp only [rdP], rfl, rfl, rfl, by show 5 ≤ 600; decide⟩
  · exact ⟨.int i, by simp only [rdP], decide_eq_true (Nat.lt_of_lt_of_le (log_of hi (by decide)) (by decide)), rfl, rfl, by show 600 ≤ 600; decide⟩
  · exact ⟨.str z, by simp only [rdP], rfl, rfl, rfl, hz⟩
theorem ro_of {p : PyData} (e : rdP s 99 d = some p) (h1 : p.showable = true) (h2 : p.hasDict = false) (h3 : p.depth < 60) (h4 : wt p ≤ 100000) : RO s d :=
  ⟨p, e, h1, h3, Nat.le_trans (shown_len p h1 h2) (Nat.le_trans h4 (by decide))⟩
theorem ro_flat (h : Flat d) : RO s d := by
  obtain ⟨p, e, h1, h2, h3, h4⟩ := flat_rd (s := s) h 98
  exact ro_of e h1 h2 (by omega) (by omega)
/-- what is drawn -/
inductive Th (s : Sto) : D → Prop
  | flat {d : D} : Flat d → Th s d
  | tup {l : List D} : (∀ d ∈ l, Flat d) → l.length ≤ 5 → Th s (.tup l)
  | lst {l : List D} : (∀ d ∈ l, Flat d) → l.length ≤ 5 → Th s (.lst l)
  | d0 {k : Nat} : s[k]? = some (some (.dct [])) → Th s (.cel k)
  | d1 {k : Nat} : s[k]? = some (some (.dct [(.inr "a", .int 1)])) → Th s (.cel k)
theorem Th.fr {n : Nat} {b : Int} {s' : Sto} (h : Th s d) (p : Pen s n b) (f : Fr n s s') : Th s' d := by
  have key : ∀ {k : Nat} {m : List (L2.Key × D)}, s[k]? = some (some (.dct m)) → m.length < 3 → s'[k]? = some (some (.dct m)) := fun {k m} e hm => by
    have hk := (List.getElem?_eq_some_iff.mp e).1
    rw [f.2 k hk ?_]
    · exact e
    · intro z
      subst z
      obtain ⟨c, g, l, e2, _⟩ := p
      rw [e2] at e
      unfold penC at e
      cases e
      simp at hm
  cases h with
  | flat h => exact .flat h
  | tup h hl => exact .tup h hl
  | lst h hl => exact .lst h hl
  | d0 h => exact .d0 (key h (by decide))
  | d1 h => exact .d1 (key h (by simp))
end
end G
set_option Elab.async false
set_option linter.all false
set_option maxRecDepth 100000
set_option maxHeartbeats 4000000
namespace G
open Mp Pl
open PySem (Str sizeLine)
local macro_rules | `(tactic| wtm_at "e") => `(tactic| first
  | with_reducible refine w_set ?_
  | with_reducible refine w_bin ?_
  | ((with_reducible refine w_v (d := ?dv) ?hv ?_); (case hv => exact rfl))
  | with_reducible refine w_c ?_
  | with_reducible refine w_cons ?_
  | with_reducible refine w_nil ?_
  | with_reducible refine w_arg ?_
  | with_reducible refine w_call ?_
  | with_reducible refine w_if ?_
  | with_reducible refine w_ret ?_
  | with_reducible refine w_skip ?_
  | with_reducible refine w_bl ?_
  | with_reducible refine w_tru ?_
  | with_reducible refine w_attr ?_
  | with_reducible refine w_meth ?_
  | with_reducible refine w_chain ?_
  | with_reducible refine w_and ?_
  | with_reducible refine w_or ?_
  | with_reducible refine w_not ?_
  | with_reducible refine w_notT ?_
  | with_reducible refine w_andT ?_
  | with_reducible refine w_orT ?_
  | with_reducible refine w_ifM ?_
  | with_reducible refine w_expr ?_
  | with_reducible refine w_un ?_
  | with_reducible refine w_par2 ?_
  | with_reducible refine w_par3 ?_
  | with_reducible refine w_asg ?_
  | with_reducible refine w_aug ?_
  | with_reducible refine w_sub ?_
  | with_reducible refine w_fld ?_
  | with_reducible refine w_raise ?_
  | with_reducible refine w_raise0 ?_
  | with_reducible refine w_try ?_
  | with_reducible refine w_make ?_
  | with_reducible refine w_tryAs ?_
  | with_reducible refine w_exn ?_
  | ((with_reducible refine o_isx (b := ?bv) ?h1 ?_); (case h1 => exact rfl))
  | with_reducible refine w_superS ?_
  | with_reducible refine w_super ?_
  | with_reducible refine w_star ?_
  | with_reducible refine w_for0 ?_
  | with_reducible refine w_lc0 ?_
  | with_reducible refine w_lc20 ?_
  | with_reducible refine w_seqJ ?_
  | with_reducible refine w_starC ?_
  | with_reducible refine w_spr ?_
  | with_reducible refine w_kwA ?_
  | with_reducible refine w_kwM ?_
  | with_reducible refine w_sprK ?_
  | with_reducible refine w_get ?_
  | with_reducible refine w_makeL ?_
  | with_reducible refine w_tryN ?_
  | ((with_reducible refine o_own0 ?hv ?_); (case hv => exact rfl))
  | ((with_reducible refine o_eqO0 ?hv ?_); (case hv => exact rfl))
  | with_reducible refine w_seqI ?_
  | with_reducible refine w_argI ?_
  | with_reducible refine w_opt ?_
  | with_reducible refine w_sli ?_
  | with_reducible refine w_pure ?_
  | with_reducible refine w_disp ?_
  | with_reducible refine w_pairs1 ?_
  | with_reducible refine w_pairs0 ?_
  | with_reducible refine w_retN ?_
  | with_reducible refine w_cnt ?_
  | with_reducible refine w_brk ?_
  | with_reducible refine o_addI ?_
  | with_reducible refine o_addI' ?_
  | with_reducible refine o_sub ?_
  | with_reducible refine o_lt ?_
  | with_reducible refine o_le ?_
  | with_reducible refine o_gt ?_
  | with_reducible refine o_ge ?_
  | with_reducible refine o_eqI ?_
  | with_reducible refine o_neI ?_
  | with_reducible refine o_eqS ?_
  | with_reducible refine o_neS ?_
  | with_reducible refine o_int ?_
  | with_reducible refine o_intB ?_
  | with_reducible refine o_neg ?_
  | with_reducible refine o_abs ?_
  | with_reducible refine o_newL ?_
  | with_reducible refine o_max2 ?_
  | with_reducible refine o_min2 ?_
  | with_reducible refine o_lenL ?_
  | with_reducible refine o_lenT ?_
  | ((with_reducible refine o_tup ?hv ?_); (case hv => first | exact Nat.le_of_ble_eq_true rfl | assumption))
  | ((with_reducible refine o_lst ?hv ?_); (case hv => first | exact Nat.le_of_ble_eq_true rfl | assumption))
  | ((with_reducible refine o_isi (t := ?tv) (b := ?bv) ?h1 ?h2 ?_); (case h1 => exact rfl); (case h2 => exact rfl))
  | ((with_reducible refine o_fld (C := ?cv) (fs := ?fv) (d := ?dv) ?h1 ?h2 ?h3 ?_); (case h1 => exact rfl); (case h2 => exact rfl); (case h3 => exact rfl))
  | ((with_reducible refine Exists.intro ?kv (And.intro ?ha ?_)); (case ha => exact rfl)))
local macro_rules | `(tactic| wtm_at "body") => `(tactic| (refine w_body rfl rfl ?_; dsimp only [List.length_cons, List.length_nil, List.drop, List.append_nil, List.map_cons, List.map_nil, List.map, List.cons_append, List.nil_append, Nat.reduceAdd, Nat.reduceSub, List.replicate]))
local macro_rules | `(tactic| wtm_at "meth") => `(tactic| refine ⟨_, _, _, rfl, rfl, rfl, ?_⟩)
local macro_rules | `(tactic| wtm_at "w") => `(tactic| first | with_reducible refine w_seq ?_ | wtm_at "e")
local macro_rules | `(tactic| wtm_at "s") => `(tactic| ((repeat wtm_at "e"); (with_reducible refine w_seq ?_)))
local macro_rules | `(tactic| wtm_at "f") => `(tactic| ((repeat wtm_at "e"); (with_reducible show FP _ _)))
/-! letters drawn and sorted; dicts of costs -/
abbrev chD (i : Nat) : D := .str (ch i)
section
open PySem (PyData)
theorem ch_ok {i : Nat} (h : i < 26) : PyData.strOk (ch i) = true := by
  have k : ((List.range 26).all fun i => PyData.strOk (ch i)) = true := by decide +kernel
  exact List.all_eq_true.mp k i (List.mem_range.mpr h)
theorem toPys_chs : ∀ l : List Nat, toPys (l.map chD) = some (l.map fun i => PyData.str (ch i))
  | [] => rfl
  | i :: l => by
    rw [List.map_cons, toPys, toPys_chs l]
    rfl
theorem lay_chs : ∀ {l : List Nat}, (∀ i ∈ l, i < 26) → PyData.canLayAll0 (l.map fun i => PyData.str (ch i)) = true
  | [], _ => rfl
  | i :: l, h => by
    rw [List.map_cons, PyData.canLayAll0, lay_chs fun j hj => h j (List.mem_cons_of_mem _ hj), PyData.canLay0, ch_ok (h i List.mem_cons_self)]
    rfl
theorem dep_chs : ∀ l : List Nat, PyData.depthAll (l.map fun i => PyData.str (ch i)) = 0
  | [] => rfl
  | i :: l => by
    rw [List.map_cons, PyData.depthAll, dep_chs l]
    rfl
theorem o_neNilL {c : Nat} {l : List Nat} {s : Sto} {Q : D → Sto → Prop} {E : XT} (hl : ∀ i ∈ l, i < 26) (hs : s[c]? = some (some (.lst (l.map chD)))) (h : Q (.bl (!l.isEmpty)) s) : RP Q E (neD (.cel c) (.lst []) s) := by
  have e : neD (.cel c) (.lst []) s = eqG0 true (.lst (l.map chD)) (.lst []) s := by
    show eqG true (.cel c) (.lst []) s = _
    unfold eqG
    dsimp only
    rw [hs]
  rw [e]
  have e1 : toPy (.lst (l.map chD)) = some (.list (l.map fun i => PyData.str (ch i))) := by
    rw [toPy, toPys_chs]
    rfl
  have e2 : toPy (.lst []) = some (.list []) := rfl
  have e0 : PySem.SeqAt.shaped (.list (l.map fun i => PyData.str (ch i))) = true := by
    unfold PySem.SeqAt.shaped
    rw [PyData.canLay0, lay_chs hl, PyData.depth, dep_chs]
    rfl
  unfold eqG0
  rw [e1, e2]
  dsimp only
  rw [if_pos (by rw [e0]; rfl)]
  have e3 : PyData.eqv (.list (l.map fun i => PyData.str (ch i))) (.list []) = l.isEmpty := by
    rw [PyData.eqv]
    cases l with
    | nil => rfl
    | cons i c => rfl
  show Q (.bl (if true = true then !PyData.eqv (.list (l.map fun i => PyData.str (ch i))) (.list []) else _)) s
  rw [e3]
  exact h
end
section
variable {n : Nat} {b : Int} {s B : Sto} {Q : D → Sto → Prop} {E : XT} {ps qs ws : List Nat}
theorem q_shuffledL {ns : List Nat} (hlt : ∀ i ∈ ns, i < 26) (p : Pen s n b) (hb : b + ns.length ≤ 1000000000) (hl : ns.length ≤ 1000) (h : ∀ (ms : List Nat) (c : Nat) s', ms.Perm ns → s'[c]? = some (some (.lst (ms.map chD))) → s.length ≤ c → PH n s s' (b + ns.length) → Q (.cel c) s') :
    RP Q E (m__law_shuffled [.cel n, .lst (ns.map chD)] s) := by
  have hz : sizeLine = 16777216 := by decide
  have hn := p.lt
  wtm_at "body"
  unfold b__law_shuffled
  wtm_at "s"
  repeat wtm_at "e"
  refine RP.of (a := .cel s.length) (s' := s ++ [some (.lst (ns.map chD))]) rfl ?_
  repeat wtm_at "e"
  refine o_lstC (by decide) ?_
  repeat wtm_at "e"
  refine ⟨_, _, rfl, ?_⟩
  wtm_at "s"
  have el : (s ++ [some (Ct.lst (ns.map chD))]).length = s.length + 1 := by simp
  refine w_while (fun m r s' => ∃ rest found : List Nat, r = [some (.cel n), some (.lst (ns.map chD)), some (.cel s.length), some (.cel (s.length + 1))] ∧ s'[s.length]? = some (some (.lst (rest.map chD))) ∧ s'[s.length + 1]? = some (some (.lst (found.map chD))) ∧ (found ++ rest).Perm ns ∧ rest.length = m ∧ PH n s s' (b + found.length)) ?_ ns.length _ _
    ⟨ns, [], by rw [el]; rfl, by rw [List.getElem?_append_left (by simp), List.getElem?_append_right (Nat.le_refl _)]; simp, by rw [List.getElem?_append_right (by rw [el]; exact Nat.le_refl _), el]; simp, .refl _, rfl, by simpa using ((PH.of p).app).app⟩
  rintro m r s' ⟨rest, found, rfl, h1, h2, hp, hm, ph⟩
  have hfl : found.length + rest.length = ns.length := by
    have := hp.length_eq
    rw [List.length_append] at this
    exact this
  repeat wtm_at "e"
  refine o_neNilL (fun i hi => hlt i (hp.mem_iff.mp (List.mem_append_right _ hi))) h1 ?_
  repeat wtm_at "e"
  refine ⟨fun hk => ?_, fun hk => ?_⟩
  · have h0 : 0 < rest.length := by
      cases rest with
      | nil => cases hk
      | cons a r => simp
    have t1 : isLstD s' (.cel (s.length + 1)) = true := by
      unfold isLstD lstOf lstX
      dsimp only
      rw [h2]
      rfl
    have t2 : isLstD s' (.cel s.length) = true := by
      unfold isLstD lstOf lstX
      dsimp only
      rw [h1]
      rfl
    repeat wtm_at "e"
    refine w_bm ?_
    repeat wtm_at "e"
    refine ⟨t1, ?_⟩
    repeat wtm_at "e"
    refine w_bm ?_
    repeat wtm_at "e"
    refine ⟨t2, ?_⟩
    repeat wtm_at "e"
    refine o_len (l := rest.map chD) (fun z => (by intro q; cases q)) (by show lstOf s' (.cel s.length) = _; unfold lstOf lstX; dsimp only; rw [h1]) ?_
    rw [List.length_map]
    repeat wtm_at "e"
    refine q_draw ph.pen (by omega) (by omega) (by omega) fun k s2 hk0 hk1 p2 f2 l2 => ?_
    have hlt : k.toNat < rest.length := by omega
    have g1 : s2[s.length]? = some (some (.lst (rest.map chD))) := by
      rw [f2.2 s.length (by have := (List.getElem?_eq_some_iff.mp h1).1; omega) (by omega)]
      exact h1
    have g2 : s2[s.length + 1]? = some (some (.lst (found.map chD))) := by
      rw [f2.2 (s.length + 1) (by have := (List.getElem?_eq_some_iff.mp h2).1; omega) (by omega)]
      exact h2
    repeat wtm_at "e"
    refine o_pop (k := k.toNat) (d := chD (rest[k.toNat])) g1 (by omega) (by rw [List.getElem?_map, List.getElem?_eq_getElem hlt]; rfl) (by rw [List.length_map]; omega) ?_
    repeat wtm_at "e"
    refine o_app (l := found.map chD) (by rw [List.getElem?_set_ne (by omega)]; exact g2) (by rw [List.length_map]; omega) ?_
    have ee : (rest.map chD).eraseIdx k.toNat = (rest.eraseIdx k.toNat).map chD := by
      rw [List.eraseIdx_eq_take_drop_succ, List.eraseIdx_eq_take_drop_succ, List.map_append, List.map_take, List.map_drop]
    have c1 : s.length < s2.length := (List.getElem?_eq_some_iff.mp g1).1
    have c2 : s.length + 1 < s2.length := (List.getElem?_eq_some_iff.mp g2).1
    refine ⟨rest.length - 1, by omega, rest.eraseIdx k.toNat, found ++ [rest[k.toNat]], rfl, ?_, ?_, ?_, ?_, ?_⟩
    · rw [List.getElem?_set_ne (by omega), List.getElem?_set_self c1, ee]
    · rw [List.getElem?_set_self (by rw [List.length_set]; exact c2), List.map_append]
      rfl
    · refine List.Perm.trans ?_ hp
      rw [List.append_assoc]
      exact List.Perm.append_left found (perm_erase rest k.toNat _ (List.getElem?_eq_getElem hlt))
    · rw [List.length_eraseIdx, if_pos hlt]
    · have q : PH n s s2 (b + found.length + 1) := ph.go ⟨p2, f2⟩ (Int.le_refl _)
      rw [List.length_append]
      exact ((q.set (Nat.le_refl _) hn).set (Nat.le_succ _) hn).mono (by simp; omega)
  · have h0 : rest = [] := by
      cases rest with
      | nil => rfl
      | cons a r => cases hk
    subst h0
    repeat wtm_at "e"
    rw [List.append_nil] at hp
    exact h found (s.length + 1) s' hp h2 (Nat.le_succ _) (ph.mono (by rw [hp.length_eq]; exact Int.le_refl _))
theorem leS_ch {i j : Nat} (h : i < j) : leS (ch i) (ch j) = true := by
  unfold leS
  rw [show decide ((ch j).cps.toList < (ch i).cps.toList) = false from decide_eq_false fun z => by
    have z : [97 + j] < [97 + i] := z
    rw [List.cons_lt_cons_iff] at z
    rcases z with z | ⟨z, _⟩ <;> omega]
  rfl
theorem sort_chs (hp : qs.Perm ps) (ha : ps.Pairwise (· < ·)) : (qs.map ch).mergeSort leS = ps.map ch := by
  refine (List.Perm.eq_of_pairwise (le := fun a b => leS a b = true) (fun x y _ _ h k => leS_anti x y h k) ?_ (List.pairwise_mergeSort leS_trans leS_total _) ((hp.symm.map ch).trans (List.mergeSort_perm _ leS).symm)).symm
  rw [List.pairwise_map]
  exact ha.imp fun h => leS_ch h
theorem keysS_byL (f : Nat → D) : ∀ qs : List Nat, keysS (byL qs f) = some (qs.map ch)
  | [] => rfl
  | q :: qs => by
    show (keysS (byL qs f)).map (fun l => ch q :: l) = _
    rw [keysS_byL f qs]
    rfl
theorem kS_byL (f : Nat → D) : ∀ qs : List Nat, kS (byL qs f) = some (qs.map fun i => (ch i, f i))
  | [] => rfl
  | q :: qs => by
    show (kS (byL qs f)).map (fun l => (ch q, f q) :: l) = _
    rw [kS_byL f qs]
    rfl
theorem kK_byL (f : Nat → D) (qs : List Nat) : KwX.kK (qs.map fun i => (ch i, f i)) = byL qs f := by
  unfold KwX.kK byL
  rw [List.map_map]
  rfl
theorem o_sortedK {x : D} {f : Nat → D} (h1 : dctOf s x = some (byL qs f)) (hp : qs.Perm ps) (lp : Lets ps) (h : Q (.lst (ps.map chD)) s) : RP Q E (sortedD [x] s) := by
  have h4 := lp.few
  unfold sortedD
  dsimp only
  rw [h1]
  dsimp only
  rw [keysS_byL]
  dsimp only
  rw [if_pos (by rw [List.length_map, hp.length_eq]; omega), sort_chs hp lp.asc, List.map_map]
  exact h
theorem q_is_letter {i : Nat} (hi : i < 26) (h : Q (.bl true) s) : RP Q E (m_is_letter [.str (ch i)] s) := by
  wtm_at "body"
  unfold b_is_letter
  repeat wtm_at "e"
  refine ⟨fun _ => ?_, fun z => (by cases z)⟩
  repeat wtm_at "e"
  refine o_lenS (by rw [show (ch i).length = 1 from rfl]; decide) ?_
  repeat wtm_at "e"
  refine ⟨fun _ => ?_, fun z => absurd z (by rw [show (ch i).length = 1 from rfl]; decide)⟩
  repeat wtm_at "e"
  refine o_inS ?_
  rw [inStr_abc hi]
  exact h
theorem q_is_between {i lo hi : Int} (h : Q (.bl (decide (lo ≤ i) && decide (i ≤ hi))) s) : RP Q E (m_is_between [.int i, .int lo, .int hi] s) := by
  wtm_at "body"
  unfold b_is_between
  repeat wtm_at "e"
  refine RP.of (a := .bl true) rfl ?_
  repeat wtm_at "e"
  refine ⟨fun _ => ?_, fun z => (by cases z)⟩
  repeat wtm_at "e"
  refine ⟨fun z => ?_, fun z => ?_⟩
  · repeat wtm_at "e"
    rw [z, Bool.true_and] at h
    exact h
  · rw [z, Bool.false_and] at h
    exact h
/-- an order while it is made -/
abbrev wkO (s : Sto) (fs : List (Str × D)) : Sto := s ++ [some (.ins "Order" fs)]
theorem wkO_at {fs : List (Str × D)} : (wkO s fs)[s.length]? = some (some (.ins "Order" fs)) := by simp [wkO]
theorem wkO_set {fs gs : List (Str × D)} : (wkO s fs).set s.length (some (.ins "Order" gs)) = wkO s gs := by simp [wkO]
/-- an order -/
def ordD (ps : List Nat) (c : Nat → Nat) : D := .ins "Order" [("own_letters", .str (LS ps)), ("own_costs", .dct (byL ps fun i => .int (c i : Nat)))]
/-- costs of letters -/
structure CostOk (ps : List Nat) (c : Nat → Nat) : Prop where
  lets : Lets ps
  pos : ∀ i ∈ ps, 1 ≤ c i
  few : ∀ i ∈ ps, c i ≤ 9
/-- one turn of the way: the object that is made -/
theorem q_initO {c : Nat → Nat} (C : CostOk ps c) (hp : qs.Perm ps) (h : Q (ordD ps c) (s ++ [none])) :
    RP (fun v s2 => v = .non ∧ RP Q E (freezeI false s.length s2)) E (m_Order___init__ [.cel s.length, .str (LS ps), .dct (byL qs fun i => .int (c i : Nat))] (s ++ [some (.ins "Order" [])])) := by
  have hz : sizeLine = 16777216 := by decide
  have lp := C.lets
  have h4 := lp.few
  have hnd : qs.Nodup := hp.nodup_iff.mpr lp.nodup
  have hlq := hp.length_eq
  unfold m_Order___init__ bodyK
  rw [show ([D.cel s.length, .str (LS ps), .dct (byL qs fun i => .int (c i : Nat))] : List D).getLast? = some (.dct (byL qs fun i => .int (c i : Nat))) from rfl]
  dsimp only
  rw [kS_byL]
  dsimp only
  rw [if_pos (by
    refine ⟨rfl, ?_, fun k hk => ?_, by rw [List.length_map]; omega⟩
    · rw [List.map_map]
      show (qs.map ch).Nodup
      exact List.pairwise_map.mpr (hnd.imp fun h z => h (ch_inj z))
    · rw [List.map_map] at hk
      obtain ⟨i, _, rfl⟩ := List.mem_map.mp hk
      intro z
      have e1 : (ch i).length = 1 := rfl
      simp only [List.mem_cons, List.not_mem_nil, or_false] at z
      rcases z with z | z
      · have := congrArg Str.length z
        rw [show ((fun x => x.1) ∘ fun i => (ch i, D.int (c i : Nat))) i = ch i from rfl, e1] at this
        exact absurd this (by decide)
      · have := congrArg Str.length z
        rw [show ((fun x => x.1) ∘ fun i => (ch i, D.int (c i : Nat))) i = ch i from rfl, e1] at this
        exact absurd this (by decide))]
  refine w_bodyX ?_
  show FP _ (b_Order___init__ [some (.cel s.length), some (.str (LS ps)), some (.dct (byL qs fun i => .int (c i : Nat))), none] (wkO s []))
  unfold b_Order___init__
  wtm_at "s"
  repeat wtm_at "e"
  refine q_are_letters lp ?_
  repeat wtm_at "e"
  refine ⟨fun z => (by cases z), fun _ => ?_⟩
  wtm_at "f"
  with_reducible refine w_mid (fun r s' => s' = wkO s [] ∧ ∃ x3 : Option D, r = [some (.cel s.length), some (.str (LS ps)), some (.dct (byL qs fun i => .int (c i : Nat))), x3]) ?_ ?_
  · repeat wtm_at "e"
    refine o_sortedK rfl hp lp ?_
    repeat wtm_at "e"
    refine w_for (fun i r s' => s' = wkO s [] ∧ ∃ x3 : Option D, r = [some (.cel s.length), some (.str (LS ps)), some (.dct (byL qs fun i => .int (c i : Nat))), x3]) rfl ⟨rfl, _, rfl⟩ ?_ ?_
    · rintro i d r s' hd ⟨rfl, x3, rfl⟩
      have hd : (ps.map chD)[i]? = some d := hd
      rw [List.getElem?_map] at hd
      cases ew : ps[i]? with
      | none => rw [ew] at hd; cases hd
      | some w =>
        rw [ew] at hd
        cases hd
        have hwm := List.mem_of_getElem? ew
        have c1 := C.pos w hwm
        have c2 := C.few w hwm
        refine ⟨_, rfl, ?_⟩
        repeat wtm_at "e"
        refine q_is_letter (lp.lt w hwm) ?_
        repeat wtm_at "e"
        refine ⟨fun _ => ?_, fun z => (by cases z)⟩
        repeat wtm_at "e"
        refine o_ninS ?_
        rw [inStr_LS, decide_eq_true hwm]
        repeat wtm_at "e"
        refine ⟨fun _ => ?_, fun z => (by cases z)⟩
        repeat wtm_at "e"
        refine o_idxD (n := 0) (m := byL qs fun i => D.int (c i : Nat)) rfl rfl (byL_get (hp.mem_iff.mpr hwm)) ?_
        repeat wtm_at "e"
        refine q_is_between ?_
        rw [decide_eq_true (show (1 : Int) ≤ (c w : Nat) by omega), decide_eq_true (show ((c w : Nat) : Int) ≤ 9 by omega)]
        repeat wtm_at "e"
        refine ⟨fun z => (by cases z), fun _ => ?_⟩
        repeat wtm_at "e"
        exact ⟨rfl, _, rfl⟩
    · rintro r s' ⟨rfl, x3, rfl⟩
      exact ⟨rfl, _, rfl⟩
  rintro r s' ⟨rfl, x3, rfl⟩
  wtm_at "s"
  repeat wtm_at "e"
  refine ⟨_, _, _, rfl, wkO_at, by decide, Nat.le_of_ble_eq_true rfl, ?_⟩
  rw [wkO_set]
  repeat wtm_at "e"
  refine w_dc0 ?_
  repeat wtm_at "e"
  rw [LS_chars]
  refine w_dcX (fun i => .str (ch i)) (fun i => .int (c i : Nat)) (fun i => .inr (ch i)) rfl ps [] (by simp; omega) (key_nodup lp.nodup) (fun _ _ z => by cases z) (fun i hi => ⟨_, .str (ch i), rfl, ?_, rfl, ?_⟩) ?_
  · repeat wtm_at "e"
    exact ⟨rfl, rfl⟩
  · repeat wtm_at "e"
    refine ⟨byL qs fun i => D.int (c i : Nat), .inr (ch i), rfl, rfl, ?_⟩
    rw [byL_get (hp.mem_iff.mpr hi)]
    exact ⟨rfl, rfl⟩
  · repeat wtm_at "e"
    refine ⟨_, _, _, rfl, wkO_at, by decide, Nat.le_of_ble_eq_true rfl, ?_⟩
    rw [wkO_set]
    refine ⟨rfl, w_freeze (C := "Order") wkO_at ?_⟩
    have e : ∀ fs, (wkO s fs).set s.length none = s ++ [none] := fun fs => by simp [wkO]
    rw [e]
    exact h
end
end G
set_option Elab.async false
set_option linter.all false
set_option maxRecDepth 100000
set_option maxHeartbeats 4000000
namespace G
open Mp Pl
open PySem (Str sizeLine)
local macro_rules | `(tactic| wtm_at "e") => `(tactic| first
  | with_reducible refine w_set ?_
  | with_reducible refine w_bin ?_
  | ((with_reducible refine w_v (d := ?dv) ?hv ?_); (case hv => exact rfl))
  | with_reducible refine w_c ?_
  | with_reducible refine w_cons ?_
  | with_reducible refine w_nil ?_
  | with_reducible refine w_arg ?_
  | with_reducible refine w_call ?_
  | with_reducible refine w_if ?_
  | with_reducible refine w_ret ?_
  | with_reducible refine w_skip ?_
  | with_reducible refine w_bl ?_
  | with_reducible refine w_tru ?_
  | with_reducible refine w_attr ?_
  | with_reducible refine w_meth ?_
  | with_reducible refine w_chain ?_
  | with_reducible refine w_and ?_
  | with_reducible refine w_or ?_
  | with_reducible refine w_not ?_
  | with_reducible refine w_notT ?_
  | with_reducible refine w_andT ?_
  | with_reducible refine w_orT ?_
  | with_reducible refine w_ifM ?_
  | with_reducible refine w_expr ?_
  | with_reducible refine w_un ?_
  | with_reducible refine w_par2 ?_
  | with_reducible refine w_par3 ?_
  | with_reducible refine w_asg ?_
  | with_reducible refine w_aug ?_
  | with_reducible refine w_sub ?_
  | with_reducible refine w_fld ?_
  | with_reducible refine w_raise ?_
  | with_reducible refine w_raise0 ?_
  | with_reducible refine w_try ?_
  | with_reducible refine w_make ?_
  | with_reducible refine w_tryAs ?_
  | with_reducible refine w_exn ?_
  | ((with_reducible refine o_isx (b := ?bv) ?h1 ?_); (case h1 => exact rfl))
  | with_reducible refine w_superS ?_
  | with_reducible refine w_super ?_
  | with_reducible refine w_star ?_
  | with_reducible refine w_for0 ?_
  | with_reducible refine w_lc0 ?_
  | with_reducible refine w_lc20 ?_
  | with_reducible refine w_seqJ ?_
  | with_reducible refine w_starC ?_
  | with_reducible refine w_spr ?_
  | with_reducible refine w_kwA ?_
  | with_reducible refine w_kwM ?_
  | with_reducible refine w_sprK ?_
  | with_reducible refine w_get ?_
  | with_reducible refine w_makeL ?_
  | with_reducible refine w_tryN ?_
  | ((with_reducible refine o_own0 ?hv ?_); (case hv => exact rfl))
  | ((with_reducible refine o_eqO0 ?hv ?_); (case hv => exact rfl))
  | with_reducible refine w_seqI ?_
  | with_reducible refine w_argI ?_
  | with_reducible refine w_opt ?_
  | with_reducible refine w_sli ?_
  | with_reducible refine w_pure ?_
  | with_reducible refine w_disp ?_
  | with_reducible refine w_pairs1 ?_
  | with_reducible refine w_pairs0 ?_
  | with_reducible refine w_retN ?_
  | with_reducible refine w_cnt ?_
  | with_reducible refine w_brk ?_
  | with_reducible refine o_addI ?_
  | with_reducible refine o_addI' ?_
  | with_reducible refine o_sub ?_
  | with_reducible refine o_lt ?_
  | with_reducible refine o_le ?_
  | with_reducible refine o_gt ?_
  | with_reducible refine o_ge ?_
  | with_reducible refine o_eqI ?_
  | with_reducible refine o_neI ?_
  | with_reducible refine o_eqS ?_
  | with_reducible refine o_neS ?_
  | with_reducible refine o_int ?_
  | with_reducible refine o_intB ?_
  | with_reducible refine o_neg ?_
  | with_reducible refine o_abs ?_
  | with_reducible refine o_newL ?_
  | with_reducible refine o_max2 ?_
  | with_reducible refine o_min2 ?_
  | with_reducible refine o_lenL ?_
  | with_reducible refine o_lenT ?_
  | ((with_reducible refine o_tup ?hv ?_); (case hv => first | exact Nat.le_of_ble_eq_true rfl | assumption))
  | ((with_reducible refine o_lst ?hv ?_); (case hv => first | exact Nat.le_of_ble_eq_true rfl | assumption))
  | ((with_reducible refine o_isi (t := ?tv) (b := ?bv) ?h1 ?h2 ?_); (case h1 => exact rfl); (case h2 => exact rfl))
  | ((with_reducible refine o_fld (C := ?cv) (fs := ?fv) (d := ?dv) ?h1 ?h2 ?h3 ?_); (case h1 => exact rfl); (case h2 => exact rfl); (case h3 => exact rfl))
  | ((with_reducible refine Exists.intro ?kv (And.intro ?ha ?_)); (case ha => exact rfl)))
local macro_rules | `(tactic| wtm_at "body") => `(tactic| (refine w_body rfl rfl ?_; dsimp only [List.length_cons, List.length_nil, List.drop, List.append_nil, List.map_cons, List.map_nil, List.map, List.cons_append, List.nil_append, Nat.reduceAdd, Nat.reduceSub, List.replicate]))
local macro_rules | `(tactic| wtm_at "meth") => `(tactic| refine ⟨_, _, _, rfl, rfl, rfl, ?_⟩)
local macro_rules | `(tactic| wtm_at "w") => `(tactic| first | with_reducible refine w_seq ?_ | wtm_at "e")
local macro_rules | `(tactic| wtm_at "s") => `(tactic| ((repeat wtm_at "e"); (with_reducible refine w_seq ?_)))
local macro_rules | `(tactic| wtm_at "f") => `(tactic| ((repeat wtm_at "e"); (with_reducible show FP _ _)))
/-! costs drawn; orders made of dicts; words counted -/
abbrev nD (n : Nat) : D := .int (n : Nat)
section
variable {n : Nat} {b : Int} {s B : Sto} {Q : D → Sto → Prop} {E : XT} {ps qs ws : List Nat} {c : Nat → Nat}
theorem zip_look {T : Type} : ∀ {ps us : List Nat} {F : Nat → Nat → T}, ps.Nodup → us.length = ps.length → ((ps.zip us).map fun p => F p.1 p.2) = ps.map fun i => F i (((ps.zip us).lookup i).getD 1)
  | [], _, _, _, _ => rfl
  | p :: ps, u :: us, F, hn, hl => by
    have hn := List.nodup_cons.mp hn
    rw [List.zip_cons_cons, List.map_cons, List.map_cons, List.lookup_cons_self]
    have ih := zip_look (F := F) hn.2 (show us.length = ps.length by simpa using hl)
    rw [ih]
    congr 1
    apply List.map_congr_left
    intro i hi
    rw [List.lookup_cons, show (i == p) = false from beq_eq_false_iff_ne.mpr fun z => hn.1 (z ▸ hi)]
theorem zip_look_mem : ∀ {ps us : List Nat} {i : Nat}, us.length = ps.length → i ∈ ps → ∃ u, (ps.zip us).lookup i = some u ∧ u ∈ us
  | [], _, _, _, h => by cases h
  | p :: ps, u :: us, i, hl, h => by
    rw [List.zip_cons_cons, List.lookup_cons]
    by_cases e : i = p
    · subst e
      exact ⟨u, by simp, List.mem_cons_self⟩
    · rw [show (i == p) = false by simpa using e]
      obtain ⟨v, h1, h2⟩ := zip_look_mem (ps := ps) (us := us) (i := i) (by simpa using hl) ((List.mem_cons.mp h).resolve_left e)
      exact ⟨v, h1, List.mem_cons_of_mem _ h2⟩
/-- a comprehension of draws over mapped items -/
theorem w_lcDX {T : Type} (xs : List T) (f : T → D) (em : T → Nat → D) (P : Nat → Prop) (k : Int) {g : DG} {te : DE} {r : En} {src : Src} {Q : List D → Sto → Prop} (hi : src.its = xs.map f) (hcel : src.cel = none) (p : Pen s n b) (hl : xs.length ≤ 1000000) (hk : 0 ≤ k)
    (hte : ∀ (i : Nat) (x : T) (s1 : Sto) (R : D → Sto → Prop), xs[i]? = some x → Pen s1 n (b + k * i) → (∀ (u : Nat) s2, P u → PF n s1 s2 (b + k * i + k) → R (em x u) s2) → ∃ p, g (f x) r s1 = some p ∧ p.2 = s1 ∧ RP R noX (te p.1 s1))
    (he : ∀ (us : List Nat) s', us.length = xs.length → (∀ u ∈ us, P u) → PF n s s' (b + k * xs.length) → Q ((xs.zip us).map fun p => em p.1 p.2) s') : RP Q E (lcF src g yesM te r src.its [] s) := by
  have hz : sizeLine = 16777216 := by decide
  refine w_lc (fun i l s' => ∃ us : List Nat, l = ((xs.take i).zip us).map (fun p => em p.1 p.2) ∧ us.length = i ∧ i ≤ xs.length ∧ (∀ u ∈ us, P u) ∧ PF n s s' (b + k * i)) hcel ⟨[], by simp, rfl, Nat.zero_le _, fun _ z => (by cases z), (PF.of p).mono (by simp)⟩ ?_ ?_
  · rintro i d l s' hd ⟨us, rfl, hul, him, hP, pf⟩
    rw [hi, List.getElem?_map] at hd
    cases ex : xs[i]? with
    | none => rw [ex] at hd; cases hd
    | some x =>
      rw [ex] at hd
      cases hd
      have hil := (List.getElem?_eq_some_iff.mp ex).1
      obtain ⟨pp, h1, h2, h3⟩ := hte i x s' (fun y s2 => (((xs.take i).zip us).map fun p => em p.1 p.2).length < sizeLine ∧ ∃ us' : List Nat, (((xs.take i).zip us).map fun p => em p.1 p.2) ++ [y] = ((xs.take (i + 1)).zip us').map (fun p => em p.1 p.2) ∧ us'.length = i + 1 ∧ i + 1 ≤ xs.length ∧ (∀ u ∈ us', P u) ∧ PF n s s2 (b + k * ((i + 1 : Nat) : Int))) ex pf.pen (fun u s2 hu pf2 => by
        refine ⟨by rw [List.length_map, List.length_zip, List.length_take]; omega, us ++ [u], ?_, by simp [hul], hil, fun v hv => ?_, pf.go' pf2 (by rw [Int.natCast_succ, Int.mul_add, Int.mul_one]; omega)⟩
        · rw [List.take_add_one, ex]
          show _ = ((xs.take i ++ [x]).zip (us ++ [u])).map _
          rw [List.zip_append (by rw [List.length_take]; omega), List.map_append]
          rfl
        · rcases List.mem_append.mp hv with hv | hv
          · exact hP v hv
          · rw [List.mem_singleton.mp hv]; exact hu)
      refine ⟨pp, h1, ?_⟩
      rw [h2]
      exact ⟨fun _ => h3, fun z => (by cases z)⟩
  · rintro l s' ⟨us, rfl, hul, him, hP, pf⟩
    have e : src.its.length = xs.length := by rw [hi, List.length_map]
    rw [e] at hul pf
    rw [e, List.take_length]
    exact he us s' hul hP pf
theorem q_costs (lp : Lets ps) (p : Pen s n b) (hb : b + 4 ≤ 1000000000) (h : ∀ (c : Nat → Nat) s', CostOk ps c → PF n s s' (b + 4) → Q (.dct (byL ps fun i => nD (c i))) s') : RP Q E (m__law_costs [.cel n, .str (LS ps)] s) := by
  have hz : sizeLine = 16777216 := by decide
  have h4 := lp.few
  wtm_at "body"
  unfold b__law_costs
  repeat wtm_at "e"
  rw [LS_chars]
  refine w_lcDX (src := ⟨ps.map fun i => .str (ch i), none⟩) ps chD (fun i u => .tup [.str (ch i), nD u]) (fun u => 1 ≤ u ∧ u ≤ 9) 1 rfl rfl p (by omega) (by decide) (fun i x s1 R hx p1 hR => ⟨_, rfl, rfl, ?_⟩) fun us s' hul hus pf => ?_
  · repeat wtm_at "e"
    refine q_pick p1 (by have := (List.getElem?_eq_some_iff.mp hx).1; omega) (by show 0 < 7; decide) (by show 7 < 1000000; decide) fun d s2 hd p2 f2 l2 => ?_
    obtain ⟨u, rfl, hu⟩ : ∃ u : Nat, d = nD u ∧ 1 ≤ u ∧ u ≤ 9 := by
      simp only [List.mem_cons, List.not_mem_nil, or_false] at hd
      rcases hd with rfl | rfl | rfl | rfl | rfl | rfl | rfl
      · exact ⟨1, rfl, by decide⟩
      · exact ⟨1, rfl, by decide⟩
      · exact ⟨1, rfl, by decide⟩
      · exact ⟨2, rfl, by decide⟩
      · exact ⟨2, rfl, by decide⟩
      · exact ⟨3, rfl, by decide⟩
      · exact ⟨9, rfl, by decide⟩
    repeat wtm_at "e"
    exact hR u s2 hu ⟨p2, f2, l2⟩
  · repeat wtm_at "e"
    rw [zip_look (F := fun i u => D.tup [.str (ch i), nD u]) lp.nodup hul]
    refine o_dictP ps (fun i => .inr (ch i)) (fun i => nD (((ps.zip us).lookup i).getD 1)) rfl rfl (key_nodup lp.nodup) ?_
    refine h (fun i => ((ps.zip us).lookup i).getD 1) s' ⟨lp, fun i hi => ?_, fun i hi => ?_⟩ (pf.mono (by omega))
    · obtain ⟨u, e, hu⟩ := zip_look_mem hul hi
      rw [e]
      exact (hus u hu).1
    · obtain ⟨u, e, hu⟩ := zip_look_mem hul hi
      rw [e]
      exact (hus u hu).2
theorem q_lettered {m : Int} (p : Pen s n b) (hb : b + 40 ≤ 1000000000) (h1 : 1 ≤ m) (h2 : m ≤ 4) (h : ∀ (ps : List Nat) (c : Nat → Nat) s', CostOk ps c → PH n s s' (b + 31) → Q (.dct (byL ps fun i => nD (c i))) s') : RP Q E (m__law_lettered [.cel n, .int m] s) := by
  wtm_at "body"
  unfold b__law_lettered
  repeat wtm_at "e"
  refine q_letters p (by omega) h1 h2 fun ps s1 lp ph => ?_
  repeat wtm_at "e"
  refine q_costs lp ph.pen (by omega) fun c s2 C pf => ?_
  exact h ps c s2 C (ph.go ⟨pf.pen, pf.fr⟩ (by omega))
/-- a word of letters, as a text of the keys that are sorted -/
theorem join_chs (ps : List Nat) (h : ps.length ≤ 1000) {x : D} (hx : lstOf s x = some (ps.map chD)) (hq : Q (.str (LS ps)) s) : RP Q E (joinD (.str "") [x] s) := by
  have e3 : (ps.map chD) = (ps.map ch).map .str := by rw [List.map_map]; rfl
  rw [e3] at hx
  refine o_join (ys := ps.map ch) hx (by rw [LS_joinlen, List.length_map]; show ps.length + ps.length * 0 ≤ 16777216; omega) ?_
  rw [LS_join]
  exact hq
theorem q_of_costs (C : CostOk ps c) (hp : qs.Perm ps) (h : Q (ordD ps c) (s ++ [none])) : RP Q E (m_Order_of_costs [.glo "Order", .dct (byL qs fun i => nD (c i))] s) := by
  have hz : sizeLine = 16777216 := by decide
  have lp := C.lets
  have h4 := lp.few
  have hlq := hp.length_eq
  wtm_at "body"
  unfold b_Order_of_costs
  wtm_at "f"
  with_reducible refine w_mid (fun r s' => s' = s ∧ r = [some (.glo "Order"), some (.dct (byL qs fun i => nD (c i))), none, none]) ?_ ?_
  · repeat wtm_at "e"
    repeat wtm_at "e"
    refine ⟨fun _ => ?_, fun z => (by cases z)⟩
    repeat wtm_at "e"
    refine w_lcX qs chD (fun _ => D.bl true) (by show (byL qs fun i => nD (c i)).map (fun p => keyV p.1) = _; unfold byL; rw [List.map_map]; rfl) rfl (by omega) (fun i hi => ⟨_, rfl, ?_⟩) ?_
    · repeat wtm_at "e"
      exact q_is_letter (lp.lt i (hp.mem_iff.mp hi)) ⟨rfl, rfl⟩
    · repeat wtm_at "e"
      refine o_allX (l := qs) (f := fun _ => true) ?_
      rw [all_true _ _ fun _ _ => rfl]
      repeat wtm_at "e"
      refine ⟨fun z => (by cases z), fun _ => ?_⟩
      repeat wtm_at "e"
      exact ⟨rfl, rfl⟩
  rintro r s' ⟨rfl, rfl⟩
  wtm_at "s"
  repeat wtm_at "e"
  refine w_bm ?_
  repeat wtm_at "e"
  refine ⟨rfl, ?_⟩
  repeat wtm_at "e"
  refine o_sortedK rfl hp lp ?_
  repeat wtm_at "e"
  refine join_chs ps (by omega) rfl ?_
  wtm_at "s"
  repeat wtm_at "e"
  refine q_are_letters lp ?_
  repeat wtm_at "e"
  refine ⟨fun z => (by cases z), fun _ => ?_⟩
  repeat wtm_at "e"
  refine ⟨rfl, ?_⟩
  repeat wtm_at "e"
  refine ⟨byL qs fun i => nD (c i), _, rfl, kS_byL _ qs, ?_⟩
  repeat wtm_at "e"
  rw [kK_byL]
  exact q_initO C hp h
theorem q_made_order (C : CostOk ps c) (p : Pen s n b) (hb : b + 10 ≤ 1000000000) (h : ∀ s', PH n s s' (b + 4) → Q (ordD ps c) s') : RP Q E (m__law_made_order [.cel n, .dct (byL ps fun i => nD (c i))] s) := by
  have hz : sizeLine = 16777216 := by decide
  have lp := C.lets
  have h4 := lp.few
  have hn := p.lt
  wtm_at "body"
  unfold b__law_made_order
  repeat wtm_at "e"
  refine o_listK (m := byL ps fun i => nD (c i)) rfl ?_
  repeat wtm_at "e"
  rw [show ((byL ps fun i => nD (c i)).map fun p => keyV p.1) = ps.map chD by unfold byL; rw [List.map_map]; rfl]
  refine q_shuffledL lp.lt p (by omega) (by omega) fun ms k s1 hp hc hkl ph => ?_
  repeat wtm_at "e"
  have hsrc : srcD s1 (.cel k) = some ⟨ms.map chD, some k⟩ := by
    unfold srcD
    dsimp only
    rw [hc]
  refine ⟨_, hsrc, ?_⟩
  have hml := hp.length_eq
  refine lcF_inv (c := ⟨ms.map chD, some k⟩) (fun i l s' => s' = s1 ∧ l = (ms.take i).map fun i => D.tup [.str (ch i), nD (c i)]) (fun i l s' ⟨e, _⟩ => by unfold SrcOk; dsimp only; rw [e]; exact hc) ?_ ?_ (ms.map chD) 0 [] s1 (Nat.zero_le _) rfl ⟨rfl, rfl⟩
  · rintro i d l s' hd ⟨rfl, rfl⟩
    have hd : (ms.map chD)[i]? = some d := hd
    rw [List.getElem?_map] at hd
    cases ew : ms[i]? with
    | none => rw [ew] at hd; cases hd
    | some w =>
      rw [ew] at hd
      cases hd
      have hwm := hp.mem_iff.mp (List.mem_of_getElem? ew)
      refine ⟨_, rfl, fun _ => ?_, fun z => (by cases z)⟩
      repeat wtm_at "e"
      refine o_idxD (n := 0) (m := byL ps fun i => nD (c i)) rfl rfl (byL_get hwm) ?_
      repeat wtm_at "e"
      refine ⟨by rw [List.length_map, List.length_take]; omega, rfl, ?_⟩
      rw [List.take_add_one, ew]
      simp
  · rintro l s' ⟨rfl, rfl⟩
    repeat wtm_at "e"
    rw [show (ms.map chD).length = ms.length from List.length_map .., List.take_length]
    refine o_dictP ms (fun i => .inr (ch i)) (fun i => nD (c i)) rfl rfl (key_nodup (hp.nodup_iff.mpr lp.nodup)) ?_
    repeat wtm_at "e"
    exact q_of_costs C hp (h _ ((ph.app (o := none)).mono (by omega)))
end
/-! counts -/
section
end
section
variable {n : Nat} {b : Int} {s B : Sto} {Q : D → Sto → Prop} {E : XT} {ps qs ws : List Nat} {c : Nat → Nat}
theorem sum_cast : ∀ l : List Nat, (l.map fun n : Nat => ((n : Nat) : Int)).sum = ((l.sum : Nat) : Int)
  | [] => rfl
  | x :: l => by
    rw [List.map_cons, List.sum_cons, List.sum_cons, sum_cast l, Int.natCast_add]
theorem o_sumN {l : List Nat} (h : Q (nD l.sum) s) : RP Q E (sumD [.lst (l.map nD)] s) := by
  have e : (l.map nD) = (l.map fun n : Nat => ((n : Nat) : Int)).map .int := by rw [List.map_map]; rfl
  rw [e]
  unfold sumD
  dsimp only
  rw [show lstOf s (.lst ((l.map fun n : Nat => ((n : Nat) : Int)).map .int)) = some ((l.map fun n : Nat => ((n : Nat) : Int)).map .int) from rfl]
  have e2 := intsOf_map (fun z : Int => z) (l.map fun n : Nat => ((n : Nat) : Int))
  rw [List.map_id'] at e2
  rw [show (some ((l.map fun n : Nat => ((n : Nat) : Int)).map D.int)).bind intsOf = some (l.map fun n : Nat => ((n : Nat) : Int)) from e2]
  show RP Q E (.ok (.int (l.map fun n : Nat => ((n : Nat) : Int)).sum) s)
  rw [sum_cast]
  exact h
/-- the cost of a word -/
def costN (c : Nat → Nat) (ws : List Nat) : Nat := (ws.map c).sum
theorem q_lcost (hw : ∀ w ∈ ws, w ∈ ps) (hl : ws.length ≤ 100000) (h : Q (nD (costN c ws)) s) : RP Q E (m__law_cost_of [.dct (byL ps fun i => nD (c i)), .str (LS ws)] s) := by
  have hz : sizeLine = 16777216 := by decide
  wtm_at "body"
  unfold b__law_cost_of
  repeat wtm_at "e"
  rw [LS_chars]
  refine w_lcX ws chD (fun i => nD (c i)) rfl rfl (by omega) (fun i hi => ⟨_, rfl, ?_⟩) ?_
  · repeat wtm_at "e"
    refine o_idxD (n := 0) (m := byL ps fun i => nD (c i)) rfl rfl (byL_get (hw i hi)) ?_
    exact ⟨rfl, rfl⟩
  · repeat wtm_at "e"
    rw [show (ws.map fun i => nD (c i)) = (ws.map c).map nD by rw [List.map_map]; rfl]
    exact o_sumN h
end
end G
set_option Elab.async false
set_option linter.all false
set_option maxRecDepth 100000
set_option maxHeartbeats 4000000
namespace G
open Mp Pl
open PySem (Str sizeLine)
local macro_rules | `(tactic| wtm_at "e") => `(tactic| first
  | with_reducible refine w_set ?_
  | with_reducible refine w_bin ?_
  | ((with_reducible refine w_v (d := ?dv) ?hv ?_); (case hv => exact rfl))
  | with_reducible refine w_c ?_
  | with_reducible refine w_cons ?_
  | with_reducible refine w_nil ?_
  | with_reducible refine w_arg ?_
  | with_reducible refine w_call ?_
  | with_reducible refine w_if ?_
  | with_reducible refine w_ret ?_
  | with_reducible refine w_skip ?_
  | with_reducible refine w_bl ?_
  | with_reducible refine w_tru ?_
  | with_reducible refine w_attr ?_
  | with_reducible refine w_meth ?_
  | with_reducible refine w_chain ?_
  | with_reducible refine w_and ?_
  | with_reducible refine w_or ?_
  | with_reducible refine w_not ?_
  | with_reducible refine w_notT ?_
  | with_reducible refine w_andT ?_
  | with_reducible refine w_orT ?_
  | with_reducible refine w_ifM ?_
  | with_reducible refine w_expr ?_
  | with_reducible refine w_un ?_
  | with_reducible refine w_par2 ?_
  | with_reducible refine w_par3 ?_
  | with_reducible refine w_asg ?_
  | with_reducible refine w_aug ?_
  | with_reducible refine w_sub ?_
  | with_reducible refine w_fld ?_
  | with_reducible refine w_raise ?_
  | with_reducible refine w_raise0 ?_
  | with_reducible refine w_try ?_
  | with_reducible refine w_make ?_
  | with_reducible refine w_tryAs ?_
  | with_reducible refine w_exn ?_
  | ((with_reducible refine o_isx (b := ?bv) ?h1 ?_); (case h1 => exact rfl))
  | with_reducible refine w_superS ?_
  | with_reducible refine w_super ?_
  | with_reducible refine w_star ?_
  | with_reducible refine w_for0 ?_
  | with_reducible refine w_lc0 ?_
  | with_reducible refine w_lc20 ?_
  | with_reducible refine w_seqJ ?_
  | with_reducible refine w_starC ?_
  | with_reducible refine w_spr ?_
  | with_reducible refine w_kwA ?_
  | with_reducible refine w_kwM ?_
  | with_reducible refine w_sprK ?_
  | with_reducible refine w_get ?_
  | with_reducible refine w_makeL ?_
  | with_reducible refine w_tryN ?_
  | ((with_reducible refine o_own0 ?hv ?_); (case hv => exact rfl))
  | ((with_reducible refine o_eqO0 ?hv ?_); (case hv => exact rfl))
  | with_reducible refine w_seqI ?_
  | with_reducible refine w_argI ?_
  | with_reducible refine w_opt ?_
  | with_reducible refine w_sli ?_
  | with_reducible refine w_pure ?_
  | with_reducible refine w_disp ?_
  | with_reducible refine w_pairs1 ?_
  | with_reducible refine w_pairs0 ?_
  | with_reducible refine w_retN ?_
  | with_reducible refine w_cnt ?_
  | with_reducible refine w_brk ?_
  | with_reducible refine o_addI ?_
  | with_reducible refine o_addI' ?_
  | with_reducible refine o_sub ?_
  | with_reducible refine o_lt ?_
  | with_reducible refine o_le ?_
  | with_reducible refine o_gt ?_
  | with_reducible refine o_ge ?_
  | with_reducible refine o_eqI ?_
  | with_reducible refine o_neI ?_
  | with_reducible refine o_eqS ?_
  | with_reducible refine o_neS ?_
  | with_reducible refine o_int ?_
  | with_reducible refine o_intB ?_
  | with_reducible refine o_neg ?_
  | with_reducible refine o_abs ?_
  | with_reducible refine o_newL ?_
  | with_reducible refine o_max2 ?_
  | with_reducible refine o_min2 ?_
  | with_reducible refine o_lenL ?_
  | with_reducible refine o_lenT ?_
  | ((with_reducible refine o_tup ?hv ?_); (case hv => first | exact Nat.le_of_ble_eq_true rfl | assumption))
  | ((with_reducible refine o_lst ?hv ?_); (case hv => first | exact Nat.le_of_ble_eq_true rfl | assumption))
  | ((with_reducible refine o_isi (t := ?tv) (b := ?bv) ?h1 ?h2 ?_); (case h1 => exact rfl); (case h2 => exact rfl))
  | ((with_reducible refine o_fld (C := ?cv) (fs := ?fv) (d := ?dv) ?h1 ?h2 ?h3 ?_); (case h1 => exact rfl); (case h2 => exact rfl); (case h3 => exact rfl))
  | ((with_reducible refine Exists.intro ?kv (And.intro ?ha ?_)); (case ha => exact rfl)))
local macro_rules | `(tactic| wtm_at "body") => `(tactic| (refine w_body rfl rfl ?_; dsimp only [List.length_cons, List.length_nil, List.drop, List.append_nil, List.map_cons, List.map_nil, List.map, List.cons_append, List.nil_append, Nat.reduceAdd, Nat.reduceSub, List.replicate]))
local macro_rules | `(tactic| wtm_at "meth") => `(tactic| refine ⟨_, _, _, rfl, rfl, rfl, ?_⟩)
local macro_rules | `(tactic| wtm_at "w") => `(tactic| first | with_reducible refine w_seq ?_ | wtm_at "e")
local macro_rules | `(tactic| wtm_at "s") => `(tactic| ((repeat wtm_at "e"); (with_reducible refine w_seq ?_)))
local macro_rules | `(tactic| wtm_at "f") => `(tactic| ((repeat wtm_at "e"); (with_reducible show FP _ _)))
/-! words compared -/
def ltW (c : Nat → Nat) (a b : List Nat) : Bool := if costN c a = costN c b then decide (a < b) else decide (costN c a < costN c b)
def keyW (c : Nat → Nat) (a : List Nat) : KP := ((costN c a : Nat), LS a)
abbrev wD (w : List Nat) : D := .str (LS w)
theorem LS_cps (a : List Nat) : (LS a).cps.toList = a.map (97 + ·) := by
  unfold LS
  rfl
theorem LS_inj {a b : List Nat} (h : LS a = LS b) : a = b := by
  have e : (LS a).cps.toList = (LS b).cps.toList := by rw [h]
  rw [LS_cps, LS_cps] at e
  exact (List.map_inj_right fun x y z => by omega).mp e
theorem lt_map97 : ∀ a b : List Nat, a.map (97 + ·) < b.map (97 + ·) ↔ a < b
  | [], [] => by simp
  | [], _ :: _ => by simp
  | _ :: _, [] => by simp
  | x :: a, y :: b => by
    rw [List.map_cons, List.map_cons, List.cons_lt_cons_iff, List.cons_lt_cons_iff, lt_map97 a b]
    constructor
    · rintro (h | ⟨h, k⟩)
      · exact .inl (by omega)
      · exact .inr ⟨by omega, k⟩
    · rintro (h | ⟨h, k⟩)
      · exact .inl (by omega)
      · exact .inr ⟨by omega, k⟩
theorem ltKP_keyW (c : Nat → Nat) (a b : List Nat) : ltKP (keyW c a) (keyW c b) = ltW c a b := by
  unfold ltKP ltW keyW
  dsimp only
  by_cases e : costN c a = costN c b
  · rw [if_pos e, if_pos (by rw [e]; simp)]
    by_cases h : a = b
    · subst h
      rw [if_pos (by simp)]
      exact (decide_eq_false (List.lt_irrefl a)).symm
    · rw [if_neg (by intro z; exact h (LS_inj (by simpa using z)))]
      apply decide_eq_decide.mpr
      rw [LS_cps, LS_cps]
      exact lt_map97 a b
  · rw [if_neg e, if_neg (by intro z; apply e; have z := of_decide_eq_true z; omega)]
    apply decide_eq_decide.mpr
    omega
section
variable {c : Nat → Nat} {a b d : List Nat}
theorem ltW_irr : ltW c a a = false := by
  unfold ltW
  rw [if_pos rfl]
  exact decide_eq_false (List.lt_irrefl a)
theorem ltW_asym (h : ltW c a b = true) : ltW c b a = false := by
  unfold ltW at h ⊢
  by_cases e : costN c a = costN c b
  · rw [if_pos e] at h
    rw [if_pos e.symm]
    exact decide_eq_false (List.lt_asymm (of_decide_eq_true h))
  · rw [if_neg e] at h
    rw [if_neg fun z => e z.symm]
    have h := of_decide_eq_true h
    exact decide_eq_false (by omega)
theorem ltW_tot (h : a ≠ b) : ltW c a b = true ∨ ltW c b a = true := by
  unfold ltW
  by_cases e : costN c a = costN c b
  · rw [if_pos e, if_pos e.symm]
    rcases List.le_total a b with z | z
    · rcases List.le_iff_lt_or_eq.mp z with z | z
      · exact .inl (decide_eq_true z)
      · exact absurd z h
    · rcases List.le_iff_lt_or_eq.mp z with z | z
      · exact .inr (decide_eq_true z)
      · exact absurd z.symm h
  · rw [if_neg e, if_neg fun z => e z.symm]
    by_cases z : costN c a < costN c b
    · exact .inl (decide_eq_true z)
    · exact .inr (decide_eq_true (by omega))
theorem ltW_trans (h : ltW c a b = true) (k : ltW c b d = true) : ltW c a d = true := by
  unfold ltW at *
  by_cases e1 : costN c a = costN c b <;> by_cases e2 : costN c b = costN c d
  · rw [if_pos e1] at h
    rw [if_pos e2] at k
    rw [if_pos (e1.trans e2)]
    exact decide_eq_true (List.lt_trans (of_decide_eq_true h) (of_decide_eq_true k))
  · rw [if_neg e2] at k
    rw [if_neg fun z => e2 (e1.symm.trans z)]
    have := of_decide_eq_true k
    exact decide_eq_true (by omega)
  · rw [if_neg e1] at h
    rw [if_neg fun z => e1 (z.trans e2.symm)]
    have := of_decide_eq_true h
    exact decide_eq_true (by omega)
  · rw [if_neg e1] at h
    rw [if_neg e2] at k
    have h := of_decide_eq_true h
    have k := of_decide_eq_true k
    rw [if_neg (by omega)]
    exact decide_eq_true (by omega)
end
section
variable {n : Nat} {b : Int} {s : Sto} {Q : D → Sto → Prop} {E : XT} {ps ws vs : List Nat} {c : Nat → Nat}
theorem q_cost_of (hw : ∀ w ∈ ws, w ∈ ps) (hl : ws.length ≤ 100000) (h : Q (nD (costN c ws)) s) : RP Q E (m_Order_cost_of [ordD ps c, wD ws] s) := by
  have hz : sizeLine = 16777216 := by decide
  wtm_at "body"
  unfold b_Order_cost_of ordD
  repeat wtm_at "e"
  rw [LS_chars]
  refine w_lcX ws chD (fun i => nD (c i)) rfl rfl (by omega) (fun i hi => ⟨_, rfl, ?_⟩) ?_
  · repeat wtm_at "e"
    refine o_idxD (n := 0) (m := byL ps fun i => nD (c i)) rfl rfl (byL_get (hw i hi)) ?_
    exact ⟨rfl, rfl⟩
  · repeat wtm_at "e"
    rw [show (ws.map fun i => nD (c i)) = (ws.map c).map nD by rw [List.map_map]; rfl]
    exact o_sumN h
theorem q_key (hw : ∀ w ∈ ws, w ∈ ps) (hl : ws.length ≤ 100000) (h : Q (kD (keyW c ws)) s) : RP Q E (m_Order_key [ordD ps c, wD ws] s) := by
  wtm_at "body"
  unfold b_Order_key
  repeat wtm_at "e"
  refine ⟨_, _, _, rfl, rfl, rfl, ?_⟩
  repeat wtm_at "e"
  refine q_cost_of hw hl ?_
  repeat wtm_at "e"
  exact h
theorem q_below (hw : ∀ w ∈ ws, w ∈ ps) (hl : ws.length ≤ 100000) (hv : ∀ w ∈ vs, w ∈ ps) (hl2 : vs.length ≤ 100000) (h : Q (.bl (ltW c ws vs)) s) : RP Q E (m_Order_below [ordD ps c, wD ws, wD vs] s) := by
  wtm_at "body"
  unfold b_Order_below
  repeat wtm_at "e"
  refine ⟨_, _, _, rfl, rfl, rfl, ?_⟩
  repeat wtm_at "e"
  refine q_key hw hl ?_
  repeat wtm_at "e"
  refine ⟨_, _, _, rfl, rfl, rfl, ?_⟩
  repeat wtm_at "e"
  refine q_key hv hl2 ?_
  repeat wtm_at "e"
  refine o_ltK ?_
  rw [show ltKP ((keyW c ws).1, (keyW c ws).2) ((keyW c vs).1, (keyW c vs).2) = ltW c ws vs from ltKP_keyW c ws vs]
  exact h
theorem q_is_before (lp : Lets ps) (hw : ∀ w ∈ ws, w ∈ ps) (hl : ws.length ≤ 160) (hv : ∀ w ∈ vs, w ∈ ps) (hl2 : vs.length ≤ 160) (h : Q (.bl (ltW c ws vs)) s) : RP Q E (m_Order_is_before [ordD ps c, wD ws, wD vs] s) := by
  have hz : sizeLine = 16777216 := by decide
  have h4 := lp.few
  wtm_at "body"
  unfold b_Order_is_before
  wtm_at "s"
  repeat wtm_at "e"
  refine q_need_word hw hl (by omega) ?_
  wtm_at "s"
  repeat wtm_at "e"
  refine q_need_word hv hl2 (by omega) ?_
  repeat wtm_at "e"
  refine ⟨_, _, _, rfl, rfl, rfl, ?_⟩
  repeat wtm_at "e"
  exact q_below hw (by omega) hv (by omega) h
theorem q_cost (lp : Lets ps) (hw : ∀ w ∈ ws, w ∈ ps) (hl : ws.length ≤ 160) (h : Q (nD (costN c ws)) s) : RP Q E (m_Order_cost [ordD ps c, wD ws] s) := by
  have hz : sizeLine = 16777216 := by decide
  have h4 := lp.few
  wtm_at "body"
  unfold b_Order_cost
  wtm_at "s"
  repeat wtm_at "e"
  refine q_need_word hw hl (by omega) ?_
  repeat wtm_at "e"
  refine ⟨_, _, _, rfl, rfl, rfl, ?_⟩
  repeat wtm_at "e"
  exact q_cost_of hw (by omega) h
end
end G
set_option Elab.async false
set_option linter.all false
set_option maxRecDepth 100000
set_option maxHeartbeats 4000000
namespace G
open Mp Pl
open PySem (Str sizeLine)
local macro_rules | `(tactic| wtm_at "e") => `(tactic| first
  | with_reducible refine w_set ?_
  | with_reducible refine w_bin ?_
  | ((with_reducible refine w_v (d := ?dv) ?hv ?_); (case hv => exact rfl))
  | with_reducible refine w_c ?_
  | with_reducible refine w_cons ?_
  | with_reducible refine w_nil ?_
  | with_reducible refine w_arg ?_
  | with_reducible refine w_call ?_
  | with_reducible refine w_if ?_
  | with_reducible refine w_ret ?_
  | with_reducible refine w_skip ?_
  | with_reducible refine w_bl ?_
  | with_reducible refine w_tru ?_
  | with_reducible refine w_attr ?_
  | with_reducible refine w_meth ?_
  | with_reducible refine w_chain ?_
  | with_reducible refine w_and ?_
  | with_reducible refine w_or ?_
  | with_reducible refine w_not ?_
  | with_reducible refine w_notT ?_
  | with_reducible refine w_andT ?_
  | with_reducible refine w_orT ?_
  | with_reducible refine w_ifM ?_
  | with_reducible refine w_expr ?_
  | with_reducible refine w_un ?_
  | with_reducible refine w_par2 ?_
  | with_reducible refine w_par3 ?_
  | with_reducible refine w_asg ?_
  | with_reducible refine w_aug ?_
  | with_reducible refine w_sub ?_
  | with_reducible refine w_fld ?_
  | with_reducible refine w_raise ?_
  | with_reducible refine w_raise0 ?_
  | with_reducible refine w_try ?_
  | with_reducible refine w_make ?_
  | with_reducible refine w_tryAs ?_
  | with_reducible refine w_exn ?_
  | ((with_reducible refine o_isx (b := ?bv) ?h1 ?_); (case h1 => exact rfl))
  | with_reducible refine w_superS ?_
  | with_reducible refine w_super ?_
  | with_reducible refine w_star ?_
  | with_reducible refine w_for0 ?_
  | with_reducible refine w_lc0 ?_
  | with_reducible refine w_lc20 ?_
  | with_reducible refine w_seqJ ?_
  | with_reducible refine w_starC ?_
  | with_reducible refine w_spr ?_
  | with_reducible refine w_kwA ?_
  | with_reducible refine w_kwM ?_
  | with_reducible refine w_sprK ?_
  | with_reducible refine w_get ?_
  | with_reducible refine w_makeL ?_
  | with_reducible refine w_tryN ?_
  | ((with_reducible refine o_own0 ?hv ?_); (case hv => exact rfl))
  | ((with_reducible refine o_eqO0 ?hv ?_); (case hv => exact rfl))
  | with_reducible refine w_seqI ?_
  | with_reducible refine w_argI ?_
  | with_reducible refine w_opt ?_
  | with_reducible refine w_sli ?_
  | with_reducible refine w_pure ?_
  | with_reducible refine w_disp ?_
  | with_reducible refine w_pairs1 ?_
  | with_reducible refine w_pairs0 ?_
  | with_reducible refine w_retN ?_
  | with_reducible refine w_cnt ?_
  | with_reducible refine w_brk ?_
  | with_reducible refine o_addI ?_
  | with_reducible refine o_addI' ?_
  | with_reducible refine o_sub ?_
  | with_reducible refine o_lt ?_
  | with_reducible refine o_le ?_
  | with_reducible refine o_gt ?_
  | with_reducible refine o_ge ?_
  | with_reducible refine o_eqI ?_
  | with_reducible refine o_neI ?_
  | with_reducible refine o_eqS ?_
  | with_reducible refine o_neS ?_
  | with_reducible refine o_int ?_
  | with_reducible refine o_intB ?_
  | with_reducible refine o_neg ?_
  | with_reducible refine o_abs ?_
  | with_reducible refine o_newL ?_
  | with_reducible refine o_max2 ?_
  | with_reducible refine o_min2 ?_
  | with_reducible refine o_lenL ?_
  | with_reducible refine o_lenT ?_
  | ((with_reducible refine o_tup ?hv ?_); (case hv => first | exact Nat.le_of_ble_eq_true rfl | assumption))
  | ((with_reducible refine o_lst ?hv ?_); (case hv => first | exact Nat.le_of_ble_eq_true rfl | assumption))
  | ((with_reducible refine o_isi (t := ?tv) (b := ?bv) ?h1 ?h2 ?_); (case h1 => exact rfl); (case h2 => exact rfl))
  | ((with_reducible refine o_fld (C := ?cv) (fs := ?fv) (d := ?dv) ?h1 ?h2 ?h3 ?_); (case h1 => exact rfl); (case h2 => exact rfl); (case h3 => exact rfl))
  | ((with_reducible refine Exists.intro ?kv (And.intro ?ha ?_)); (case ha => exact rfl)))
local macro_rules | `(tactic| wtm_at "body") => `(tactic| (refine w_body rfl rfl ?_; dsimp only [List.length_cons, List.length_nil, List.drop, List.append_nil, List.map_cons, List.map_nil, List.map, List.cons_append, List.nil_append, Nat.reduceAdd, Nat.reduceSub, List.replicate]))
local macro_rules | `(tactic| wtm_at "meth") => `(tactic| refine ⟨_, _, _, rfl, rfl, rfl, ?_⟩)
local macro_rules | `(tactic| wtm_at "w") => `(tactic| first | with_reducible refine w_seq ?_ | wtm_at "e")
local macro_rules | `(tactic| wtm_at "s") => `(tactic| ((repeat wtm_at "e"); (with_reducible refine w_seq ?_)))
local macro_rules | `(tactic| wtm_at "f") => `(tactic| ((repeat wtm_at "e"); (with_reducible show FP _ _)))
/-! the sorted words -/
abbrev leC (c : Nat → Nat) (a b : List Nat) : Bool := !ltW c b a
def srtW (c : Nat → Nat) (ws : List (List Nat)) : List (List Nat) := (uniq ws).mergeSort (leC c)
section
variable {c : Nat → Nat} {ws : List (List Nat)}
theorem srtW_mem {w : List Nat} : w ∈ srtW c ws ↔ w ∈ ws := by
  unfold srtW
  rw [List.mem_mergeSort, uniq_mem]
theorem srtW_len : (srtW c ws).length ≤ ws.length := by
  unfold srtW
  rw [List.length_mergeSort]
  exact uniq_len
theorem srtW_asc : (srtW c ws).Pairwise fun a b => ltW c a b = true := by
  have h1 := List.pairwise_mergeSort (le := leC c) (fun a b d h k => by
    unfold leC at *
    by_cases e : ltW c d a = true
    · by_cases q : ltW c b a = true
      · rw [q] at h; cases h
      · have : ltW c b d = false ∨ ltW c b d = true := by cases ltW c b d <;> simp
        by_cases z : a = b
        · subst z
          rw [e] at k; cases k
        · rcases ltW_tot (c := c) z with y | y
          · have := ltW_trans e y
            rw [this] at k; cases k
          · exact absurd y q
    · have : ltW c d a = false := by simpa using e
      rw [this]
      rfl) (fun a b => by
    unfold leC
    cases e : ltW c b a with
    | false => rfl
    | true =>
      rw [ltW_asym e]
      rfl) (uniq ws)
  have h2 : (srtW c ws).Nodup := (List.mergeSort_perm (uniq ws) (leC c)).nodup_iff.mpr uniq_nodup
  refine (h1.and h2).imp ?_
  rintro a b ⟨h, ne⟩
  unfold leC at h
  rcases ltW_tot (c := c) ne with y | y
  · exact y
  · rw [y] at h; cases h
end
section
variable {Q : D → Sto → Prop} {E : XT} {r : En} {s : Sto} {me mo : DE} {x y : D}
theorem w_sortKc {tb : List (Str × DF)} {m : Str} (h : RP (fun x s1 => RP (fun y s2 => ∃ C fs f, insOf s2 y = some (C, fs) ∧ fs.lookup m = none ∧ tb.lookup C = some f ∧ ∃ l kd s3, lstOf s2 x = some l ∧ keysF f y l [] s2 = .ok kd s3 ∧ Q (.cel s3.length) (s3 ++ [some (.lst (outK kd l))])) E (mo r s1)) E (me r s)) : RP Q E (sortKMc tb m me mo r s) :=
  w_bind (h.mono (fun x s1 h => w_meth (h.mono (fun y s2 ⟨C, fs, f, e1, e2, e3, l, kd, s3, e4, e5, h⟩ => ⟨C, fs, sortFc f, e1, e2, by
    have z : ∀ tb : List (Str × DF), tb.lookup C = some f → (tb.map fun p => (p.1, sortFc p.2)).lookup C = some (sortFc f) := by
      intro tb
      induction tb with
      | nil => intro h; cases h
      | cons p tb ih =>
        intro h
        rw [List.map_cons]
        rw [List.lookup_cons] at h ⊢
        by_cases e : (C == p.1) = true
        · rw [e] at h ⊢
          cases h
          rfl
        · have e : (C == p.1) = false := by simpa using e
          rw [e] at h ⊢
          exact ih h
    exact z tb e3, by
    show RP Q E (sortFc f [y, x] s2)
    unfold sortFc
    dsimp only
    rw [e4]
    dsimp only
    rw [e5]
    exact h⟩) fun _ _ _ h => h)) fun _ _ _ h => h)
end
section
variable {n : Nat} {b : Int} {s : Sto} {Q : D → Sto → Prop} {E : XT} {ps : List Nat} {c : Nat → Nat}
theorem q_sorted_words (lp : Lets ps) {ws : List (List Nat)} (hw : ∀ w ∈ ws, (∀ i ∈ w, i ∈ ps) ∧ w.length ≤ 160) (hl : ws.length ≤ 100) (h : Q (.cel s.length) (s ++ [some (.lst ((srtW c ws).map wD))])) : RP Q E (m_Order_sorted_words (ordD ps c :: ws.map wD) s) := by
  have hz : sizeLine = 16777216 := by decide
  have h4 := lp.few
  refine w_bodyV (by simp) (by simp; omega) rfl ?_
  show FP _ (b_Order_sorted_words [some (ordD ps c), some (.tup (ws.map wD)), none] s)
  unfold b_Order_sorted_words
  wtm_at "f"
  with_reducible refine w_mid (fun r s' => s' = s ∧ ∃ x2 : Option D, r = [some (ordD ps c), some (.tup (ws.map wD)), x2]) ?_ ?_
  · repeat wtm_at "e"
    refine w_for (fun i r s' => s' = s ∧ ∃ x2 : Option D, r = [some (ordD ps c), some (.tup (ws.map wD)), x2]) rfl ⟨rfl, _, rfl⟩ ?_ ?_
    · rintro i d r s' hd ⟨rfl, x2, rfl⟩
      have hd : (ws.map wD)[i]? = some d := hd
      rw [List.getElem?_map] at hd
      cases ew : ws[i]? with
      | none => rw [ew] at hd; cases hd
      | some w =>
        rw [ew] at hd
        cases hd
        obtain ⟨h1, h2⟩ := hw w (List.mem_of_getElem? ew)
        refine ⟨_, rfl, ?_⟩
        unfold ordD
        repeat wtm_at "e"
        refine q_need_word h1 h2 (by omega) ?_
        exact ⟨rfl, _, rfl⟩
    · rintro r s' ⟨rfl, x2, rfl⟩
      exact ⟨rfl, _, rfl⟩
  rintro r s' ⟨rfl, x2, rfl⟩
  repeat wtm_at "e"
  refine w_sortKc ?_
  repeat wtm_at "e"
  refine w_dc0 ?_
  repeat wtm_at "e"
  refine w_dcU wD (.bl true) (fun w => .inr (LS w)) (fun x y e => LS_inj (Sum.inr.inj e)) rfl ws [] (by simp; omega) (fun w hw => ⟨_, wD w, rfl, ?_, rfl, ?_⟩) ?_
  · repeat wtm_at "e"
    exact ⟨rfl, rfl⟩
  · repeat wtm_at "e"
    exact ⟨rfl, rfl⟩
  repeat wtm_at "e"
  refine o_listK (m := (uniq ws).map fun w => (.inr (LS w), .bl true)) rfl ?_
  repeat wtm_at "e"
  rw [show (((uniq ws).map fun w => ((.inr (LS w) : L2.Key), D.bl true)).map fun p => keyV p.1) = (uniq ws).map wD by rw [List.map_map]; rfl]
  refine ⟨_, _, _, rfl, rfl, rfl, _, _, _, rfl, keysF_pure wD (keyW c) (fun w hwu => ?_), ?_⟩
  · obtain ⟨h1, h2⟩ := hw w (uniq_mem.mp hwu)
    exact (q_key (Q := fun v t => t = s' ∧ v = kD (keyW c w)) (E := noX) (c := c) h1 (by omega) ⟨rfl, rfl⟩).eqn
  · have e : (fun a b : List Nat => !ltKP (keyW c b) (keyW c a)) = leC c := by
      funext a b
      rw [ltKP_keyW]
    rw [List.nil_append, outK_map, e]
    exact h
end
end G
set_option Elab.async false
set_option linter.all false
set_option maxRecDepth 100000
set_option maxHeartbeats 4000000
namespace G
open Mp Pl
open PySem (Str sizeLine)
local macro_rules | `(tactic| wtm_at "e") => `(tactic| first
  | with_reducible refine w_set ?_
  | with_reducible refine w_bin ?_
  | ((with_reducible refine w_v (d := ?dv) ?hv ?_); (case hv => exact rfl))
  | with_reducible refine w_c ?_
  | with_reducible refine w_cons ?_
  | with_reducible refine w_nil ?_
  | with_reducible refine w_arg ?_
  | with_reducible refine w_call ?_
  | with_reducible refine w_if ?_
  | with_reducible refine w_ret ?_
  | with_reducible refine w_skip ?_
  | with_reducible refine w_bl ?_
  | with_reducible refine w_tru ?_
  | with_reducible refine w_attr ?_
  | with_reducible refine w_meth ?_
  | with_reducible refine w_chain ?_
  | with_reducible refine w_and ?_
  | with_reducible refine w_or ?_
  | with_reducible refine w_not ?_
  | with_reducible refine w_notT ?_
  | with_reducible refine w_andT ?_
  | with_reducible refine w_orT ?_
  | with_reducible refine w_ifM ?_
  | with_reducible refine w_expr ?_
  | with_reducible refine w_un ?_
  | with_reducible refine w_par2 ?_
  | with_reducible refine w_par3 ?_
  | with_reducible refine w_asg ?_
  | with_reducible refine w_aug ?_
  | with_reducible refine w_sub ?_
  | with_reducible refine w_fld ?_
  | with_reducible refine w_raise ?_
  | with_reducible refine w_raise0 ?_
  | with_reducible refine w_try ?_
  | with_reducible refine w_make ?_
  | with_reducible refine w_tryAs ?_
  | with_reducible refine w_exn ?_
  | ((with_reducible refine o_isx (b := ?bv) ?h1 ?_); (case h1 => exact rfl))
  | with_reducible refine w_superS ?_
  | with_reducible refine w_super ?_
  | with_reducible refine w_star ?_
  | with_reducible refine w_for0 ?_
  | with_reducible refine w_lc0 ?_
  | with_reducible refine w_lc20 ?_
  | with_reducible refine w_seqJ ?_
  | with_reducible refine w_starC ?_
  | with_reducible refine w_spr ?_
  | with_reducible refine w_kwA ?_
  | with_reducible refine w_kwM ?_
  | with_reducible refine w_sprK ?_
  | with_reducible refine w_get ?_
  | with_reducible refine w_makeL ?_
  | with_reducible refine w_tryN ?_
  | ((with_reducible refine o_own0 ?hv ?_); (case hv => exact rfl))
  | ((with_reducible refine o_eqO0 ?hv ?_); (case hv => exact rfl))
  | with_reducible refine w_seqI ?_
  | with_reducible refine w_argI ?_
  | with_reducible refine w_opt ?_
  | with_reducible refine w_sli ?_
  | with_reducible refine w_pure ?_
  | with_reducible refine w_disp ?_
  | with_reducible refine w_pairs1 ?_
  | with_reducible refine w_pairs0 ?_
  | with_reducible refine w_retN ?_
  | with_reducible refine w_cnt ?_
  | with_reducible refine w_brk ?_
  | with_reducible refine o_addI ?_
  | with_reducible refine o_addI' ?_
  | with_reducible refine o_sub ?_
  | with_reducible refine o_lt ?_
  | with_reducible refine o_le ?_
  | with_reducible refine o_gt ?_
  | with_reducible refine o_ge ?_
  | with_reducible refine o_eqI ?_
  | with_reducible refine o_neI ?_
  | with_reducible refine o_eqS ?_
  | with_reducible refine o_neS ?_
  | with_reducible refine o_int ?_
  | with_reducible refine o_intB ?_
  | with_reducible refine o_neg ?_
  | with_reducible refine o_abs ?_
  | with_reducible refine o_newL ?_
  | with_reducible refine o_max2 ?_
  | with_reducible refine o_min2 ?_
  | with_reducible refine o_lenL ?_
  | with_reducible refine o_lenT ?_
  | ((with_reducible refine o_tup ?hv ?_); (case hv => first | exact Nat.le_of_ble_eq_true rfl | assumption))
  | ((with_reducible refine o_lst ?hv ?_); (case hv => first | exact Nat.le_of_ble_eq_true rfl | assumption))
  | ((with_reducible refine o_isi (t := ?tv) (b := ?bv) ?h1 ?h2 ?_); (case h1 => exact rfl); (case h2 => exact rfl))
  | ((with_reducible refine o_fld (C := ?cv) (fs := ?fv) (d := ?dv) ?h1 ?h2 ?h3 ?_); (case h1 => exact rfl); (case h2 => exact rfl); (case h3 => exact rfl))
  | ((with_reducible refine Exists.intro ?kv (And.intro ?ha ?_)); (case ha => exact rfl)))
local macro_rules | `(tactic| wtm_at "body") => `(tactic| (refine w_body rfl rfl ?_; dsimp only [List.length_cons, List.length_nil, List.drop, List.append_nil, List.map_cons, List.map_nil, List.map, List.cons_append, List.nil_append, Nat.reduceAdd, Nat.reduceSub, List.replicate]))
local macro_rules | `(tactic| wtm_at "meth") => `(tactic| refine ⟨_, _, _, rfl, rfl, rfl, ?_⟩)
local macro_rules | `(tactic| wtm_at "w") => `(tactic| first | with_reducible refine w_seq ?_ | wtm_at "e")
local macro_rules | `(tactic| wtm_at "s") => `(tactic| ((repeat wtm_at "e"); (with_reducible refine w_seq ?_)))
local macro_rules | `(tactic| wtm_at "f") => `(tactic| ((repeat wtm_at "e"); (with_reducible show FP _ _)))
/-! is it a word; lists of texts -/
def wordB (ps cs : List Nat) : Bool := decide (cs.length ≤ 160) && cs.all fun c => decide (c ∈ ps.map (97 + ·))
section
variable {s : Sto} {Q : D → Sto → Prop} {E : XT} {ps : List Nat} {d : D}
open PySem (PyData)
theorem toPys_S : ∀ l : List Str, toPys (l.map .str) = some (l.map PyData.str)
  | [] => rfl
  | w :: l => by
    rw [List.map_cons, toPys, toPys_S l]
    rfl
theorem lay_S : ∀ {l : List Str}, (∀ w ∈ l, PyData.strOk w = true) → PyData.canLayAll0 (l.map PyData.str) = true
  | [], _ => rfl
  | w :: l, h => by
    rw [List.map_cons, PyData.canLayAll0, lay_S fun j hj => h j (List.mem_cons_of_mem _ hj), PyData.canLay0, h w List.mem_cons_self]
    rfl
theorem dep_S : ∀ l : List Str, PyData.depthAll (l.map PyData.str) = 0
  | [] => rfl
  | w :: l => by
    rw [List.map_cons, PyData.depthAll, dep_S l]
    rfl
theorem o_eqNilS {l : List Str} (hl : ∀ w ∈ l, PyData.strOk w = true) (h : Q (.bl l.isEmpty) s) : RP Q E (eqD (.lst (l.map .str)) (.lst []) s) := by
  have e : eqD (.lst (l.map .str)) (.lst []) s = eqG0 false (.lst (l.map .str)) (.lst []) s := rfl
  rw [e]
  have e1 : toPy (.lst (l.map .str)) = some (.list (l.map PyData.str)) := by
    rw [toPy, toPys_S]
    rfl
  have e2 : toPy (.lst []) = some (.list []) := rfl
  have e0 : PySem.SeqAt.shaped (.list (l.map PyData.str)) = true := by
    unfold PySem.SeqAt.shaped
    rw [PyData.canLay0, lay_S hl, PyData.depth, dep_S]
    rfl
  unfold eqG0
  rw [e1, e2]
  dsimp only
  rw [if_pos (by rw [e0]; rfl)]
  have e3 : PyData.eqv (.list (l.map PyData.str)) (.list []) = l.isEmpty := by
    rw [PyData.eqv]
    cases l with
    | nil => rfl
    | cons i c => rfl
  show Q (.bl (if false = true then _ else PyData.eqv (.list (l.map PyData.str)) (.list []))) s
  rw [e3]
  exact h
theorem eqv_S : ∀ l : List Str, PyData.eqvAll (l.map PyData.str) (l.map PyData.str) = true
  | [] => by rw [List.map_nil, PyData.eqvAll]
  | w :: l => by
    rw [List.map_cons, PyData.eqvAll, eqv_S l, PyData.eqv, Bool.and_true]
    exact decide_eq_true rfl
/-- two lists of the same texts -/
theorem eqG0_SS {l : List Str} (hl : ∀ w ∈ l, PyData.strOk w = true) (neg : Bool) : eqG0 neg (.lst (l.map .str)) (.lst (l.map .str)) s = .ok (.bl (!neg)) s := by
  have e1 : toPy (.lst (l.map .str)) = some (.list (l.map PyData.str)) := by
    rw [toPy, toPys_S]
    rfl
  have e0 : PySem.SeqAt.shaped (.list (l.map PyData.str)) = true := by
    unfold PySem.SeqAt.shaped
    rw [PyData.canLay0, lay_S hl, PyData.depth, dep_S]
    rfl
  unfold eqG0
  rw [e1]
  dsimp only
  rw [if_pos (by rw [e0]; rfl)]
  have e3 : PyData.eqv (.list (l.map PyData.str)) (.list (l.map PyData.str)) = true := by
    rw [PyData.eqv]
    exact eqv_S l
  rw [e3]
  cases neg <;> rfl
theorem o_neSSC {k : Nat} {l : List Str} (hs : s[k]? = some (some (.lst (l.map .str)))) (hl : ∀ w ∈ l, PyData.strOk w = true) (h : Q (.bl false) s) : RP Q E (neD (.cel k) (.lst (l.map .str)) s) := by
  have e : neD (.cel k) (.lst (l.map .str)) s = eqG0 true (.lst (l.map .str)) (.lst (l.map .str)) s := by
    show eqG true (.cel k) (.lst (l.map .str)) s = _
    unfold eqG
    dsimp only
    rw [hs]
  exact RP.of (e.trans (eqG0_SS hl true)) h
theorem q_isw_tag {t : Tg} (h1 : tagD s d = some t) (h2 : isiT it0 t (.ty "str") = some false) (h : Q (.bl false) s) : RP Q E (m_is_word [.str (LS ps), d, .int 160] s) := by
  wtm_at "body"
  unfold b_is_word
  wtm_at "f"
  with_reducible refine w_mid (fun r s' => False) ?_ (fun r s' z => z.elim)
  repeat wtm_at "e"
  refine o_isi h1 h2 ?_
  repeat wtm_at "e"
  refine ⟨fun z => (by cases z), fun _ => ?_⟩
  repeat wtm_at "e"
  refine ⟨fun _ => ?_, fun z => (by cases z)⟩
  repeat wtm_at "e"
  exact h
theorem q_lisw_tag {t : Tg} (h1 : tagD s d = some t) (h2 : isiT it0 t (.ty "str") = some false) (h : Q (.bl false) s) : RP Q E (m__law_is_word [.str (LS ps), d] s) := by
  wtm_at "body"
  unfold b__law_is_word
  wtm_at "f"
  with_reducible refine w_mid (fun r s' => False) ?_ (fun r s' z => z.elim)
  repeat wtm_at "e"
  refine o_isi h1 h2 ?_
  repeat wtm_at "e"
  refine ⟨fun z => (by cases z), fun _ => ?_⟩
  repeat wtm_at "e"
  refine ⟨fun _ => ?_, fun z => (by cases z)⟩
  repeat wtm_at "e"
  exact h
theorem q_isw_txt {cs : List Nat} (hl : cs.length ≤ 1000000) (h : Q (.bl (wordB ps cs)) s) : RP Q E (m_is_word [.str (LS ps), .str (CS cs), .int 160] s) := by
  have hz : sizeLine = 16777216 := by decide
  wtm_at "body"
  unfold b_is_word
  wtm_at "f"
  with_reducible refine w_mid (fun r s' => s' = s ∧ cs.length ≤ 160 ∧ r = [some (.str (LS ps)), some (.str (CS cs)), some (.int 160), none]) ?_ ?_
  · repeat wtm_at "e"
    refine ⟨fun _ => ?_, fun z => by cases z⟩
    repeat wtm_at "e"
    refine o_lenS (by rw [CS_len]; omega) ?_
    rw [CS_len]
    repeat wtm_at "e"
    refine ⟨fun z => ?_, fun z => ?_⟩
    · repeat wtm_at "e"
      have e : wordB ps cs = false := by
        unfold wordB
        rw [decide_eq_false (by have := of_decide_eq_true z; omega)]
        rfl
      rw [e] at h
      exact h
    · repeat wtm_at "e"
      exact ⟨rfl, by have := of_decide_eq_false z; omega, rfl⟩
  rintro r s' ⟨rfl, h160, rfl⟩
  repeat wtm_at "e"
  refine w_lcX cs (fun c => .str ⟨#[c]⟩) (fun c => .bl (decide (c ∈ ps.map (97 + ·)))) (CS_chars cs) rfl (by omega) (fun c hc => ⟨_, rfl, ?_⟩) ?_
  · repeat wtm_at "e"
    refine o_inS ?_
    exact ⟨rfl, by rw [LS_CS, inStr_CS]⟩
  repeat wtm_at "e"
  refine o_allX (l := cs) (f := fun c => decide (c ∈ ps.map (97 + ·))) ?_
  have e : (cs.map fun c => decide (c ∈ ps.map (97 + ·))).all id = wordB ps cs := by
    unfold wordB
    rw [decide_eq_true h160, Bool.true_and, List.all_map]
    rfl
  rw [e]
  exact h
theorem q_lisw_txt {cs : List Nat} (hl : cs.length ≤ 1000000) (ha : ∀ c ∈ cs, c < 128) (h : Q (.bl (wordB ps cs)) s) : RP Q E (m__law_is_word [.str (LS ps), .str (CS cs)] s) := by
  have hz : sizeLine = 16777216 := by decide
  wtm_at "body"
  unfold b__law_is_word
  wtm_at "f"
  with_reducible refine w_mid (fun r s' => s' = s ∧ cs.length ≤ 160 ∧ r = [some (.str (LS ps)), some (.str (CS cs)), none]) ?_ ?_
  · repeat wtm_at "e"
    refine ⟨fun _ => ?_, fun z => by cases z⟩
    repeat wtm_at "e"
    refine o_lenS (by rw [CS_len]; omega) ?_
    rw [CS_len]
    repeat wtm_at "e"
    refine ⟨fun z => ?_, fun z => ?_⟩
    · repeat wtm_at "e"
      have e : wordB ps cs = false := by
        unfold wordB
        rw [decide_eq_false (by have := of_decide_eq_true z; omega)]
        rfl
      rw [e] at h
      exact h
    · repeat wtm_at "e"
      exact ⟨rfl, by have := of_decide_eq_false z; omega, rfl⟩
  rintro r s' ⟨rfl, h160, rfl⟩
  repeat wtm_at "e"
  refine w_lcY cs (fun c => .str ⟨#[c]⟩) (fun c => .str ⟨#[c]⟩) (fun c => !decide (c ∈ ps.map (97 + ·))) (CS_chars cs) rfl (by omega) (fun c hc => ⟨_, rfl, ?_, fun _ => ?_⟩) ?_
  · repeat wtm_at "e"
    refine o_ninS ?_
    rw [LS_CS, inStr_CS]
    repeat wtm_at "e"
    exact ⟨rfl, rfl⟩
  · repeat wtm_at "e"
    exact ⟨rfl, rfl⟩
  repeat wtm_at "e"
  rw [show ((cs.filter fun c => !decide (c ∈ ps.map (97 + ·))).map fun c => D.str ⟨#[c]⟩) = ((cs.filter fun c => !decide (c ∈ ps.map (97 + ·))).map fun c => (⟨#[c]⟩ : Str)).map .str by rw [List.map_map]; rfl]
  refine o_eqNilS (fun w hw => by
    obtain ⟨a, ham, rfl⟩ := List.mem_map.mp hw
    have := ha a (List.mem_filter.mp ham).1
    unfold PyData.strOk
    simp
    omega) ?_
  have e : ((cs.filter fun c => !decide (c ∈ ps.map (97 + ·))).map fun c => (⟨#[c]⟩ : Str)).isEmpty = wordB ps cs := by
    unfold wordB
    rw [decide_eq_true h160, Bool.true_and, List.isEmpty_map]
    rw [Bool.eq_iff_iff]
    simp [List.filter_eq_nil_iff]
  rw [e]
  repeat wtm_at "e"
  exact h
/-- x in o -/
theorem q_contains (c : Nat → Nat) {d : D} (h : RP Q E (m_is_word [.str (LS ps), d, .int 160] s)) : RP Q E (m_Order___contains__ [ordD ps c, d] s) := by
  wtm_at "body"
  unfold b_Order___contains__ ordD
  repeat wtm_at "e"
  exact h
theorem o_inO {x : D} {c : Nat → Nat} (h : RP (fun d s' => ∃ b, d = .bl b ∧ Q (.bl b) s') E (m_is_word [.str (LS ps), x, .int 160] s)) : RP Q E (inO [("Order", m_Order___contains__)] x (ordD ps c) s) := by
  have h2 := q_contains c h
  unfold inO
  obtain ⟨fs, ei⟩ : ∃ fs, insOf s (ordD ps c) = some (("Order" : Str), fs) := ⟨_, rfl⟩
  rw [ei]
  dsimp only
  rw [show ([(("Order" : Str), m_Order___contains__)] : List (Str × DF)).lookup ("Order" : Str) = some m_Order___contains__ from rfl]
  dsimp only
  cases e : m_Order___contains__ [ordD ps c, x] s with
  | ok d s' =>
    rw [e] at h2
    obtain ⟨b, rfl, h2⟩ := h2
    exact h2
  | exc C fs s' =>
    rw [e] at h2
    exact h2
  | bad =>
    rw [e] at h2
    exact h2
end
end G
set_option Elab.async false
set_option linter.all false
set_option maxRecDepth 100000
set_option maxHeartbeats 4000000
namespace G
open Mp Pl
open PySem (Str sizeLine)
local macro_rules | `(tactic| wtm_at "e") => `(tactic| first
  | with_reducible refine w_set ?_
  | with_reducible refine w_bin ?_
  | ((with_reducible refine w_v (d := ?dv) ?hv ?_); (case hv => exact rfl))
  | with_reducible refine w_c ?_
  | with_reducible refine w_cons ?_
  | with_reducible refine w_nil ?_
  | with_reducible refine w_arg ?_
  | with_reducible refine w_call ?_
  | with_reducible refine w_if ?_
  | with_reducible refine w_ret ?_
  | with_reducible refine w_skip ?_
  | with_reducible refine w_bl ?_
  | with_reducible refine w_tru ?_
  | with_reducible refine w_attr ?_
  | with_reducible refine w_meth ?_
  | with_reducible refine w_chain ?_
  | with_reducible refine w_and ?_
  | with_reducible refine w_or ?_
  | with_reducible refine w_not ?_
  | with_reducible refine w_notT ?_
  | with_reducible refine w_andT ?_
  | with_reducible refine w_orT ?_
  | with_reducible refine w_ifM ?_
  | with_reducible refine w_expr ?_
  | with_reducible refine w_un ?_
  | with_reducible refine w_par2 ?_
  | with_reducible refine w_par3 ?_
  | with_reducible refine w_asg ?_
  | with_reducible refine w_aug ?_
  | with_reducible refine w_sub ?_
  | with_reducible refine w_fld ?_
  | with_reducible refine w_raise ?_
  | with_reducible refine w_raise0 ?_
  | with_reducible refine w_try ?_
  | with_reducible refine w_make ?_
  | with_reducible refine w_tryAs ?_
  | with_reducible refine w_exn ?_
  | ((with_reducible refine o_isx (b := ?bv) ?h1 ?_); (case h1 => exact rfl))
  | with_reducible refine w_superS ?_
  | with_reducible refine w_super ?_
  | with_reducible refine w_star ?_
  | with_reducible refine w_for0 ?_
  | with_reducible refine w_lc0 ?_
  | with_reducible refine w_lc20 ?_
  | with_reducible refine w_seqJ ?_
  | with_reducible refine w_starC ?_
  | with_reducible refine w_spr ?_
  | with_reducible refine w_kwA ?_
  | with_reducible refine w_kwM ?_
  | with_reducible refine w_sprK ?_
  | with_reducible refine w_get ?_
  | with_reducible refine w_makeL ?_
  | with_reducible refine w_tryN ?_
  | ((with_reducible refine o_own0 ?hv ?_); (case hv => exact rfl))
  | ((with_reducible refine o_eqO0 ?hv ?_); (case hv => exact rfl))
  | with_reducible refine w_seqI ?_
  | with_reducible refine w_argI ?_
  | with_reducible refine w_opt ?_
  | with_reducible refine w_sli ?_
  | with_reducible refine w_pure ?_
  | with_reducible refine w_disp ?_
  | with_reducible refine w_pairs1 ?_
  | with_reducible refine w_pairs0 ?_
  | with_reducible refine w_retN ?_
  | with_reducible refine w_cnt ?_
  | with_reducible refine w_brk ?_
  | with_reducible refine o_addI ?_
  | with_reducible refine o_addI' ?_
  | with_reducible refine o_sub ?_
  | with_reducible refine o_lt ?_
  | with_reducible refine o_le ?_
  | with_reducible refine o_gt ?_
  | with_reducible refine o_ge ?_
  | with_reducible refine o_eqI ?_
  | with_reducible refine o_neI ?_
  | with_reducible refine o_eqS ?_
  | with_reducible refine o_neS ?_
  | with_reducible refine o_int ?_
  | with_reducible refine o_intB ?_
  | with_reducible refine o_neg ?_
  | with_reducible refine o_abs ?_
  | with_reducible refine o_newL ?_
  | with_reducible refine o_max2 ?_
  | with_reducible refine o_min2 ?_
  | with_reducible refine o_lenL ?_
  | with_reducible refine o_lenT ?_
  | ((with_reducible refine o_tup ?hv ?_); (case hv => first | exact Nat.le_of_ble_eq_true rfl | assumption))
  | ((with_reducible refine o_lst ?hv ?_); (case hv => first | exact Nat.le_of_ble_eq_true rfl | assumption))
  | ((with_reducible refine o_isi (t := ?tv) (b := ?bv) ?h1 ?h2 ?_); (case h1 => exact rfl); (case h2 => exact rfl))
  | ((with_reducible refine o_fld (C := ?cv) (fs := ?fv) (d := ?dv) ?h1 ?h2 ?h3 ?_); (case h1 => exact rfl); (case h2 => exact rfl); (case h3 => exact rfl))
  | ((with_reducible refine Exists.intro ?kv (And.intro ?ha ?_)); (case ha => exact rfl)))
local macro_rules | `(tactic| wtm_at "body") => `(tactic| (refine w_body rfl rfl ?_; dsimp only [List.length_cons, List.length_nil, List.drop, List.append_nil, List.map_cons, List.map_nil, List.map, List.cons_append, List.nil_append, Nat.reduceAdd, Nat.reduceSub, List.replicate]))
local macro_rules | `(tactic| wtm_at "meth") => `(tactic| refine ⟨_, _, _, rfl, rfl, rfl, ?_⟩)
local macro_rules | `(tactic| wtm_at "w") => `(tactic| first | with_reducible refine w_seq ?_ | wtm_at "e")
local macro_rules | `(tactic| wtm_at "s") => `(tactic| ((repeat wtm_at "e"); (with_reducible refine w_seq ?_)))
local macro_rules | `(tactic| wtm_at "f") => `(tactic| ((repeat wtm_at "e"); (with_reducible show FP _ _)))
/-! a long word -/
section
variable {n : Nat} {b : Int} {s : Sto} {Q : D → Sto → Prop} {E : XT} {ps ws : List Nat} {c : Nat → Nat}
theorem q_long_word (C : CostOk ps c) (p : Pen s n b) (hb : b + 60 ≤ 1000000000) (h : ∀ (ws : List Nat) s', (∀ w ∈ ws, w ∈ ps) → ws.length ≤ 160 → PF n s s' (b + 60) → Q (wD ws) s') : RP Q E (m__law_long_word [.cel n, .dct (byL ps fun i => nD (c i))] s) := by
  have hz : sizeLine = 16777216 := by decide
  have lp := C.lets
  have h4 := lp.few
  have h0 := lp.pos
  wtm_at "body"
  unfold b__law_long_word
  wtm_at "s"
  repeat wtm_at "e"
  refine w_bm ?_
  repeat wtm_at "e"
  refine ⟨rfl, ?_⟩
  repeat wtm_at "e"
  refine o_listK (m := byL ps fun i => nD (c i)) rfl ?_
  repeat wtm_at "e"
  rw [show ((byL ps fun i => nD (c i)).map fun p => keyV p.1) = ps.map chD by unfold byL; rw [List.map_map]; rfl]
  refine join_chs ps (by omega) rfl ?_
  wtm_at "s"
  repeat wtm_at "e"
  refine q_pick p (by omega) (by show 0 < 4; decide) (by show 4 < 1000000; decide) fun d s1 hd p1 f1 l1 => ?_
  have pf1 : PF n s s1 (b + 1) := ⟨p1, f1, l1⟩
  obtain ⟨m, rfl, hm⟩ : ∃ m : Int, d = .int m ∧ 0 ≤ m ∧ m ≤ 40 := by
    simp only [List.mem_cons, List.not_mem_nil, or_false] at hd
    rcases hd with rfl | rfl | rfl | rfl
    · exact ⟨_, rfl, by decide⟩
    · exact ⟨_, rfl, by decide⟩
    · exact ⟨_, rfl, by decide⟩
    · exact ⟨_, rfl, by decide⟩
  wtm_at "s"
  repeat wtm_at "e"
  refine q_word pf1.pen (by omega) (by omega) (by omega) hm.1 (by omega) fun ws s2 hl2 hw2 pf2 => ?_
  have pf2 : PF n s s2 (b + 45) := ⟨pf2.pen.mono (by omega), pf1.fr.trans pf2.fr, pf2.len.trans pf1.len⟩
  wtm_at "f"
  with_reducible refine w_mid (fun r s' => ∃ (vs : List Nat) (x0 x1 x2 x3 : Option D), (∀ w ∈ vs, w ∈ ps) ∧ vs.length ≤ 160 ∧ PF n s s' (b + 60) ∧ r = [x0, x1, x2, x3, some (wD vs)]) ?_ ?_
  · repeat wtm_at "e"
    refine q_draw pf2.pen (by omega) (by decide) (by decide) fun kz s3 hk0 hk1 p3 f3 l3 => ?_
    have pf3 : PF n s s3 (b + 46) := ⟨p3.mono (by omega), pf2.fr.trans f3, l3.trans pf2.len⟩
    repeat wtm_at "e"
    refine ⟨fun z => ?_, fun z => ?_⟩
    · repeat wtm_at "e"
      refine q_pickS pf3.pen (by omega) (by omega) (by omega) fun i s4 hi pf4 => ?_
      have pf4 : PF n s s4 (b + 47) := ⟨pf4.pen.mono (by omega), pf3.fr.trans pf4.fr, pf4.len.trans pf3.len⟩
      rw [ch_LS]
      with_reducible refine w_c ?_
      refine o_mulX (n := 160) rfl (by decide) (by decide) (by rw [LS_len]; simp) (by rw [LS_len]; simp) ?_
      rw [LS_rep]
      repeat wtm_at "e"
      refine o_addS (by rw [LS_len, LS_len]; simp; omega) ?_
      rw [LS_app]
      repeat wtm_at "e"
      refine q_draw pf4.pen (by omega) (by decide) (by decide) fun jz s5 hj0 hj1 p5 f5 l5 => ?_
      have pf5 : PF n s s5 (b + 48) := ⟨p5.mono (by omega), pf4.fr.trans f5, l5.trans pf4.len⟩
      repeat wtm_at "e"
      obtain ⟨jn, rfl⟩ : ∃ jn : Nat, jz = (jn : Int) := ⟨jz.toNat, by omega⟩
      have e1 : (160 : Int) - (jn : Int) = ((160 - jn : Nat) : Int) := by omega
      rw [e1]
      refine o_sliS (by rw [LS_len]; simp; omega) ?_
      rw [LS_cutl (by simp; omega)]
      refine ⟨_, _, _, _, _, ?_, ?_, ⟨pf5.pen.mono (by omega), pf5.fr, pf5.len⟩, rfl⟩
      · intro w hw
        rcases List.mem_append.mp (List.mem_of_mem_take hw) with hw | hw
        · exact hw2 w hw
        · have : w = i := by simpa using hw
          rw [this]
          exact hi
      · rw [List.length_take]
        omega
    · repeat wtm_at "e"
      exact ⟨ws, _, _, _, _, hw2, by omega, ⟨pf3.pen.mono (by omega), pf3.fr, pf3.len⟩, rfl⟩
  rintro r s' ⟨vs, x0, x1, x2, x3, hv, hvl, pf, rfl⟩
  repeat wtm_at "e"
  exact h vs s' hv hvl pf
end
/-! a word close to a word -/
theorem LS_cutK {ws : List Nat} {k : Nat} : L2.cutS (LS ws) none (some (k : Int)) = LS (ws.take k) := by
  unfold L2.cutS
  rw [HT.sIx_none, HT.sIx_nat, LS_len, LS_list, List.drop_zero, Nat.sub_zero]
  unfold LS
  rw [← List.map_take, ← List.take_eq_take_min]
theorem LS_cutD {ws : List Nat} {k : Nat} : L2.cutS (LS ws) (some (k : Int)) none = LS (ws.drop k) := by
  by_cases h : k ≤ ws.length
  · exact LS_cutr h
  · unfold L2.cutS
    rw [HT.sIx_none, HT.sIx_nat, LS_len, LS_list, Nat.min_eq_right (by omega), Nat.sub_self, List.take_zero, List.drop_of_length_le (by omega)]
    rfl
theorem LS_cut1 {ws : List Nat} : L2.cutS (LS ws) none (some (-1)) = LS (ws.take (ws.length - 1)) := by
  have hl : (LS ws).length = ws.length := LS_len ws
  unfold L2.cutS
  rw [hl, LS_list]
  have e1 : HT.sIx ws.length 0 none = 0 := by unfold HT.sIx; rfl
  have e2 : HT.sIx ws.length ws.length (some (-1)) = ws.length - 1 := by
    unfold HT.sIx
    simp
    omega
  rw [e1, e2, List.drop_zero, Nat.sub_zero, ← List.map_take]
  rfl
section
variable {n : Nat} {b : Int} {s : Sto} {Q : D → Sto → Prop} {E : XT} {ps ws : List Nat} {c : Nat → Nat}
theorem o_listXK {k : Bool} {x : D} {m : List (L2.Key × D)} (h1 : dctOf s x = some m) (h : RP Q E (newL k (m.map fun p => keyV p.1) s)) : RP Q E (listXD k [x] s) := by
  have hx : ∀ z, x ≠ .str z := fun z e => by
    subst e
    cases h1
  have e : listXD k [x] s = listKD k [x] s := by
    unfold listXD
    split
    · rename_i z e
      cases e
      exact absurd rfl (hx z)
    · rfl
  rw [e]
  exact o_listK h1 h
theorem o_listXS {k : Bool} {v : List Nat} (hl : v.length ≤ sizeLine) (h : RP Q E (newL k (v.map chD) s)) : RP Q E (listXD k [.str (LS v)] s) := by
  unfold listXD
  dsimp only
  rw [if_pos (by show (LS v).length ≤ sizeLine; rw [LS_len]; exact hl), LS_chars]
  exact h
/-- a pick of a list in a cell -/
theorem q_pickC {k : Nat} {l : List D} (hs : s[k]? = some (some (.lst l))) (hkn : k ≠ n) (p : Pen s n b) (hb : b ≤ 1000000000) (h0 : 0 < l.length) (h1 : l.length < 1000000) (h : ∀ d s', d ∈ l → PF n s s' (b + 1) → Q d s') : RP Q E (m__law_pick [.cel n, .cel k] s) := by
  wtm_at "body"
  unfold b__law_pick
  repeat wtm_at "w"
  refine o_len (l := l) (fun z => (by intro q; cases q)) (by show lstOf s (.cel k) = _; unfold lstOf lstX; dsimp only; rw [hs]) ?_
  repeat wtm_at "w"
  refine q_draw p hb (by omega) (by omega) fun j s' hk hk1 p' f' e' => ?_
  have hlt : j.toNat < l.length := by omega
  refine o_idxC (k := j.toNat) (d := l[j.toNat]) (l := l) (by rw [f'.2 k (List.getElem?_eq_some_iff.mp hs).1 hkn]; exact hs) (by omega) (List.getElem?_eq_getElem hlt) ?_
  exact h _ _ (List.getElem_mem hlt) ⟨p', f', e'⟩
/-- a comprehension of draws that may lay cells -/
theorem w_lcH {T : Type} (em : T → D) (P : T → Prop) (c : Int) {j m : Nat} {te : DE} {r : En} {Q : List D → Sto → Prop} (p : Pen s n b) (hm : m ≤ 1000000) (hc : 0 ≤ c)
    (hte : ∀ (i : Nat) (s1 : Sto) (R : D → Sto → Prop), i < m → Pen s1 n (b + c * i) → (∀ (x : T) s2, P x → PH n s1 s2 (b + c * i + c) → R (em x) s2) → RP R noX (te (r.set j (some (.int (0 + (i : Nat))))) s1)) (he : ∀ (xs : List T) s', xs.length = m → (∀ x ∈ xs, P x) → PH n s s' (b + c * m) → Q (xs.map em) s') :
    RP Q E (lcF ⟨intL 0 m, none⟩ (nameG j) yesM te r (intL 0 m) [] s) := by
  have hz : sizeLine = 16777216 := by decide
  refine w_lc (c := ⟨intL 0 m, none⟩) (fun i l s' => ∃ xs : List T, l = xs.map em ∧ xs.length = i ∧ i ≤ m ∧ (∀ x ∈ xs, P x) ∧ PH n s s' (b + c * i)) rfl ⟨[], rfl, rfl, Nat.zero_le _, fun _ z => (by cases z), (PH.of p).mono (by simp)⟩ ?_ ?_
  · rintro i d l s' hd ⟨xs, rfl, hl, him, hP, pf⟩
    obtain ⟨hi, rfl⟩ := intL_get hd
    refine ⟨_, rfl, fun _ => ?_, fun z => (by cases z)⟩
    refine hte i s' _ hi pf.pen fun x s2 hx pf2 => ?_
    refine ⟨by rw [List.length_map]; omega, xs ++ [x], by simp, by simp [hl], hi, fun y hy => ?_, pf.go pf2 ?_⟩
    · rcases List.mem_append.mp hy with hy | hy
      · exact hP y hy
      · simp at hy
        rw [hy]
        exact hx
    · rw [Int.natCast_succ, Int.mul_add, Int.mul_one]
      omega
  · rintro l s' ⟨xs, rfl, hl, him, hP, pf⟩
    rw [intL_len] at hl pf
    exact he xs s' hl hP pf
theorem q_beside (C : CostOk ps c) (p : Pen s n b) (hb : b + 100 ≤ 1000000000) (hw : ∀ w ∈ ws, w ∈ ps) (hl : ws.length ≤ 160) (h : ∀ (vs : List Nat) s', (∀ w ∈ vs, w ∈ ps) → vs.length ≤ 160 → PH n s s' (b + 80) → Q (wD vs) s') : RP Q E (m__law_beside [.cel n, .dct (byL ps fun i => nD (c i)), wD ws] s) := by
  have hz : sizeLine = 16777216 := by decide
  have lp := C.lets
  have h4 := lp.few
  have h0 := lp.pos
  have hn := p.lt
  wtm_at "body"
  unfold b__law_beside
  wtm_at "s"
  repeat wtm_at "e"
  refine w_bm ?_
  repeat wtm_at "e"
  refine ⟨rfl, ?_⟩
  repeat wtm_at "e"
  refine o_listXK (m := byL ps fun i => nD (c i)) rfl ?_
  repeat wtm_at "e"
  rw [show ((byL ps fun i => nD (c i)).map fun p => keyV p.1) = ps.map chD by unfold byL; rw [List.map_map]; rfl]
  refine join_chs ps (by omega) rfl ?_
  wtm_at "s"
  repeat wtm_at "e"
  refine o_sliS (by rw [LS_len]; omega) ?_
  rw [LS_cut1]
  repeat wtm_at "e"
  refine o_sliS (by rw [LS_len]; omega) ?_
  rw [show (some (1 : Int)) = some ((1 : Nat) : Int) from rfl, LS_cutD]
  repeat wtm_at "e"
  refine o_rev (by rw [LS_len]; omega) ?_
  rw [LS_rev]
  repeat wtm_at "e"
  refine q_pickS p (by omega) (by omega) (by omega) fun i s1 hi pf1 => ?_
  rw [ch_LS]
  refine o_addS (by rw [LS_len, LS_len]; simp; omega) ?_
  rw [LS_app]
  repeat wtm_at "e"
  refine q_long_word C pf1.pen (by omega) fun us s2 hu hul pf2 => ?_
  have pf2 : PF n s s2 (b + 61) := ⟨pf2.pen.mono (by omega), pf1.fr.trans pf2.fr, pf2.len.trans pf1.len⟩
  repeat wtm_at "e"
  obtain ⟨L, eL⟩ : ∃ L, L = [ws, ws.take (ws.length - 1), ws.drop 1, ws.reverse, ws ++ [i], us] := ⟨_, rfl⟩
  have hL : ∀ v ∈ L, (∀ w ∈ v, w ∈ ps) ∧ v.length ≤ 161 := by
    rw [eL]
    intro v hv
    simp only [List.mem_cons, List.not_mem_nil, or_false] at hv
    rcases hv with rfl | rfl | rfl | rfl | rfl | rfl
    · exact ⟨hw, by omega⟩
    · exact ⟨fun w h => hw w (List.mem_of_mem_take h), by rw [List.length_take]; omega⟩
    · exact ⟨fun w h => hw w (List.mem_of_mem_drop h), by rw [List.length_drop]; omega⟩
    · exact ⟨fun w h => hw w (List.mem_reverse.mp h), by rw [List.length_reverse]; omega⟩
    · exact ⟨fun w h => (List.mem_append.mp h).elim (hw w) (fun z => by rw [List.mem_singleton.mp z]; exact hi), by rw [List.length_append]; simp; omega⟩
    · exact ⟨hu, by omega⟩
  have hL6 : L.length = 6 := by rw [eL]; rfl
  show RP _ _ (lstD true ([ws, ws.take (ws.length - 1), ws.drop 1, ws.reverse, ws ++ [i], us].map wD) _)
  rw [← eL]
  refine o_lstC (by rw [List.length_map]; omega) ?_
  have hk : s2.length = s.length := pf2.len
  have g3 : (s2 ++ [some (Ct.lst (L.map wD))])[s.length]? = some (some (.lst (L.map wD))) := by
    rw [← hk, List.getElem?_append_right (Nat.le_refl _)]
    simp
  have ph3 : PH n s (s2 ++ [some (Ct.lst (L.map wD))]) (b + 61) := pf2.ph.app
  rw [hk]
  generalize (s2 ++ [some (Ct.lst (L.map wD))]) = s3 at g3 ph3 ⊢
  have kl : s.length < s3.length := (List.getElem?_eq_some_iff.mp g3).1
  wtm_at "s"
  repeat wtm_at "e"
  refine w_bm ?_
  repeat wtm_at "e"
  refine ⟨by unfold isLstD lstOf lstX; dsimp only; rw [g3]; rfl, ?_⟩
  repeat wtm_at "e"
  refine w_bm ?_
  repeat wtm_at "e"
  refine ⟨rfl, ?_⟩
  repeat wtm_at "e"
  refine o_sliS (by rw [LS_len]; omega) ?_
  rw [show (some (12 : Int)) = some ((12 : Nat) : Int) from rfl, LS_cutK]
  have h12 : (ws.take 12).length ≤ 12 := by rw [List.length_take]; omega
  repeat wtm_at "e"
  refine o_listXS (by omega) ?_
  repeat wtm_at "e"
  refine q_shuffledL (ns := ws.take 12) (fun i hi => lp.lt i (hw i (List.mem_of_mem_take hi))) ph3.pen (by omega) (by omega) fun ms cc s4 hp hc hcl ph4 => ?_
  have ph4' : PH n s s4 (b + 75) := ph3.go ph4 (by omega)
  have g4 : s4[s.length]? = some (some (.lst (L.map wD))) := by
    rw [ph4.fr.2 s.length kl (by omega)]
    exact g3
  have hms : ms.length ≤ 12 := by rw [hp.length_eq]; exact h12
  repeat wtm_at "e"
  refine join_chs ms (by omega) (by unfold lstOf lstX; dsimp only; rw [hc]) ?_
  repeat wtm_at "e"
  refine o_sliS (by rw [LS_len]; omega) ?_
  rw [show (some (12 : Int)) = some ((12 : Nat) : Int) from rfl, LS_cutD]
  refine o_addS (by rw [LS_len, LS_len, List.length_drop]; omega) ?_
  rw [LS_app]
  repeat wtm_at "e"
  refine o_app (l := L.map wD) g4 (by rw [List.length_map]; omega) ?_
  obtain ⟨M, eM⟩ : ∃ M, M = L ++ [ms ++ ws.drop 12] := ⟨_, rfl⟩
  have hM : ∀ v ∈ M, (∀ w ∈ v, w ∈ ps) ∧ v.length ≤ 1000 := by
    rw [eM]
    intro v hv
    rcases List.mem_append.mp hv with hv | hv
    · exact ⟨(hL v hv).1, by have := (hL v hv).2; omega⟩
    · rw [List.mem_singleton.mp hv]
      refine ⟨fun w h => (List.mem_append.mp h).elim (fun z => hw w (List.mem_of_mem_take (hp.mem_iff.mp z))) fun z => hw w (List.mem_of_mem_drop z), ?_⟩
      rw [List.length_append, List.length_drop]
      omega
  have hM7 : M.length = 7 := by rw [eM, List.length_append, hL6]; rfl
  have e5 : L.map wD ++ [wD (ms ++ ws.drop 12)] = M.map wD := by rw [eM, List.map_append]; rfl
  have kl4 : s.length < s4.length := (List.getElem?_eq_some_iff.mp g4).1
  have g5 : (s4.set s.length (some (.lst (L.map wD ++ [wD (ms ++ ws.drop 12)]))))[s.length]? = some (some (.lst (M.map wD))) := by
    rw [List.getElem?_set_self kl4, e5]
  have ph5 : PH n s (s4.set s.length (some (.lst (L.map wD ++ [wD (ms ++ ws.drop 12)])))) (b + 75) := ph4'.set (Nat.le_refl _) hn
  generalize (s4.set s.length (some (.lst (L.map wD ++ [wD (ms ++ ws.drop 12)])))) = s5 at g5 ph5 ⊢
  repeat wtm_at "e"
  refine q_pickC g5 (by omega) ph5.pen (by omega) (by rw [List.length_map]; omega) (by rw [List.length_map]; omega) fun d s6 hd pf6 => ?_
  obtain ⟨v, hv, rfl⟩ := List.mem_map.mp hd
  obtain ⟨hv1, hv2⟩ := hM v hv
  repeat wtm_at "e"
  refine o_sliS (by rw [LS_len]; omega) ?_
  rw [show (some (160 : Int)) = some ((160 : Nat) : Int) from rfl, LS_cutK]
  exact h _ _ (fun w hw => hv1 w (List.mem_of_mem_take hw)) (by rw [List.length_take]; omega) (ph5.go pf6.ph (by omega))
end
end G
set_option Elab.async false
set_option linter.all false
set_option maxRecDepth 100000
set_option maxHeartbeats 4000000
namespace G
open Mp Pl
open PySem (Str sizeLine)
local macro_rules | `(tactic| wtm_at "e") => `(tactic| first
  | with_reducible refine w_set ?_
  | with_reducible refine w_bin ?_
  | ((with_reducible refine w_v (d := ?dv) ?hv ?_); (case hv => exact rfl))
  | with_reducible refine w_c ?_
  | with_reducible refine w_cons ?_
  | with_reducible refine w_nil ?_
  | with_reducible refine w_arg ?_
  | with_reducible refine w_call ?_
  | with_reducible refine w_if ?_
  | with_reducible refine w_ret ?_
  | with_reducible refine w_skip ?_
  | with_reducible refine w_bl ?_
  | with_reducible refine w_tru ?_
  | with_reducible refine w_attr ?_
  | with_reducible refine w_meth ?_
  | with_reducible refine w_chain ?_
  | with_reducible refine w_and ?_
  | with_reducible refine w_or ?_
  | with_reducible refine w_not ?_
  | with_reducible refine w_notT ?_
  | with_reducible refine w_andT ?_
  | with_reducible refine w_orT ?_
  | with_reducible refine w_ifM ?_
  | with_reducible refine w_expr ?_
  | with_reducible refine w_un ?_
  | with_reducible refine w_par2 ?_
  | with_reducible refine w_par3 ?_
  | with_reducible refine w_asg ?_
  | with_reducible refine w_aug ?_
  | with_reducible refine w_sub ?_
  | with_reducible refine w_fld ?_
  | with_reducible refine w_raise ?_
  | with_reducible refine w_raise0 ?_
  | with_reducible refine w_try ?_
  | with_reducible refine w_make ?_
  | with_reducible refine w_tryAs ?_
  | with_reducible refine w_exn ?_
  | ((with_reducible refine o_isx (b := ?bv) ?h1 ?_); (case h1 => exact rfl))
  | with_reducible refine w_superS ?_
  | with_reducible refine w_super ?_
  | with_reducible refine w_star ?_
  | with_reducible refine w_for0 ?_
  | with_reducible refine w_lc0 ?_
  | with_reducible refine w_lc20 ?_
  | with_reducible refine w_seqJ ?_
  | with_reducible refine w_starC ?_
  | with_reducible refine w_spr ?_
  | with_reducible refine w_kwA ?_
  | with_reducible refine w_kwM ?_
  | with_reducible refine w_sprK ?_
  | with_reducible refine w_get ?_
  | with_reducible refine w_makeL ?_
  | with_reducible refine w_tryN ?_
  | ((with_reducible refine o_own0 ?hv ?_); (case hv => exact rfl))
  | ((with_reducible refine o_eqO0 ?hv ?_); (case hv => exact rfl))
  | with_reducible refine w_seqI ?_
  | with_reducible refine w_argI ?_
  | with_reducible refine w_opt ?_
  | with_reducible refine w_sli ?_
  | with_reducible refine w_pure ?_
  | with_reducible refine w_disp ?_
  | with_reducible refine w_pairs1 ?_
  | with_reducible refine w_pairs0 ?_
  | with_reducible refine w_retN ?_
  | with_reducible refine w_cnt ?_
  | with_reducible refine w_brk ?_
  | with_reducible refine o_addI ?_
  | with_reducible refine o_addI' ?_
  | with_reducible refine o_sub ?_
  | with_reducible refine o_lt ?_
  | with_reducible refine o_le ?_
  | with_reducible refine o_gt ?_
  | with_reducible refine o_ge ?_
  | with_reducible refine o_eqI ?_
  | with_reducible refine o_neI ?_
  | with_reducible refine o_eqS ?_
  | with_reducible refine o_neS ?_
  | with_reducible refine o_int ?_
  | with_reducible refine o_intB ?_
  | with_reducible refine o_neg ?_
  | with_reducible refine o_abs ?_
  | with_reducible refine o_newL ?_
  | with_reducible refine o_max2 ?_
  | with_reducible refine o_min2 ?_
  | with_reducible refine o_lenL ?_
  | with_reducible refine o_lenT ?_
  | ((with_reducible refine o_tup ?hv ?_); (case hv => first | exact Nat.le_of_ble_eq_true rfl | assumption))
  | ((with_reducible refine o_lst ?hv ?_); (case hv => first | exact Nat.le_of_ble_eq_true rfl | assumption))
  | ((with_reducible refine o_isi (t := ?tv) (b := ?bv) ?h1 ?h2 ?_); (case h1 => exact rfl); (case h2 => exact rfl))
  | ((with_reducible refine o_fld (C := ?cv) (fs := ?fv) (d := ?dv) ?h1 ?h2 ?h3 ?_); (case h1 => exact rfl); (case h2 => exact rfl); (case h3 => exact rfl))
  | ((with_reducible refine Exists.intro ?kv (And.intro ?ha ?_)); (case ha => exact rfl)))
local macro_rules | `(tactic| wtm_at "body") => `(tactic| (refine w_body rfl rfl ?_; dsimp only [List.length_cons, List.length_nil, List.drop, List.append_nil, List.map_cons, List.map_nil, List.map, List.cons_append, List.nil_append, Nat.reduceAdd, Nat.reduceSub, List.replicate]))
local macro_rules | `(tactic| wtm_at "meth") => `(tactic| refine ⟨_, _, _, rfl, rfl, rfl, ?_⟩)
local macro_rules | `(tactic| wtm_at "w") => `(tactic| first | with_reducible refine w_seq ?_ | wtm_at "e")
local macro_rules | `(tactic| wtm_at "s") => `(tactic| ((repeat wtm_at "e"); (with_reducible refine w_seq ?_)))
local macro_rules | `(tactic| wtm_at "f") => `(tactic| ((repeat wtm_at "e"); (with_reducible show FP _ _)))
/-! words compared: the law's sides -/
theorem uniq_take {T : Type} [DecidableEq T] (ws : List T) (e : T) (C : Nat → Bool) (hC : ∀ k, C k = true ↔ ws.getD k e ∉ ws.take k) : ∀ m, m ≤ ws.length → ((List.range m).filter C).map (fun k => ws.getD k e) = uniq (ws.take m)
  | 0, _ => rfl
  | m + 1, h => by
    have ih := uniq_take ws e C hC m (by omega)
    have hm : m < ws.length := by omega
    have eg : ws.getD m e = ws[m] := by
      rw [List.getD_eq_getElem?_getD, List.getElem?_eq_getElem hm]
      rfl
    have eu : uniq (ws.take (m + 1)) = uniqA (uniq (ws.take m)) ws[m] := by
      unfold uniq
      rw [List.take_succ, List.getElem?_eq_getElem hm, List.foldl_append]
      rfl
    have hm2 := hC m
    rw [eg] at hm2
    rw [eu, List.range_succ, List.filter_append, List.map_append, ih]
    unfold uniqA
    by_cases z : ws[m] ∈ ws.take m
    · have hf : C m = false := by
        cases e : C m with
        | false => rfl
        | true => exact absurd z (hm2.mp e)
      rw [if_pos (uniq_mem.mpr z), List.filter_cons, hf]
      simp
    · rw [if_neg fun y => z (uniq_mem.mp y), List.filter_cons, hm2.mpr z]
      rw [if_pos rfl, List.map_cons, eg]
      rfl
theorem asc_eq {c : Nat → Nat} : ∀ {a b : List (List Nat)}, (a.Pairwise fun x y => ltW c x y = true) → (b.Pairwise fun x y => ltW c x y = true) → (∀ w, w ∈ a ↔ w ∈ b) → a = b
  | [], [], _, _, _ => rfl
  | [], y :: b, _, _, h => by have := (h y).mpr List.mem_cons_self; cases this
  | x :: a, [], _, _, h => by have := (h x).mp List.mem_cons_self; cases this
  | x :: a, y :: b, ha, hb, h => by
    have a1 := List.pairwise_cons.mp ha
    have b1 := List.pairwise_cons.mp hb
    have exy : x = y := by
      rcases List.mem_cons.mp ((h x).mp List.mem_cons_self) with e | e
      · exact e
      · rcases List.mem_cons.mp ((h y).mpr List.mem_cons_self) with e2 | e2
        · exact e2.symm
        · have h1 := b1.1 x e
          have h2 := a1.1 y e2
          rw [ltW_asym h1] at h2
          cases h2
    subst exy
    rw [asc_eq a1.2 b1.2 fun w => ?_]
    constructor
    · intro hw
      rcases List.mem_cons.mp ((h w).mp (List.mem_cons_of_mem _ hw)) with e | e
      · subst e
        have := a1.1 w hw
        rw [ltW_irr] at this
        cases this
      · exact e
    · intro hw
      rcases List.mem_cons.mp ((h w).mpr (List.mem_cons_of_mem _ hw)) with e | e
      · subst e
        have := b1.1 w hw
        rw [ltW_irr] at this
        cases this
      · exact e
theorem srtW_rev {c : Nat → Nat} {ws vs : List (List Nat)} (h : ∀ w, w ∈ ws ↔ w ∈ vs) : srtW c ws = srtW c vs :=
  asc_eq srtW_asc srtW_asc fun w => by rw [srtW_mem, srtW_mem]; exact h w
section
variable {n : Nat} {b : Int} {s : Sto} {Q : D → Sto → Prop} {E : XT} {ps ws : List Nat} {c : Nat → Nat} {r : En}
open PySem (PyData)
theorem q_lrank (hw : ∀ w ∈ ws, w ∈ ps) (hl : ws.length ≤ 100000) (h : Q (kD (keyW c ws)) s) : RP Q E (m__law_rank [.dct (byL ps fun i => nD (c i)), wD ws] s) := by
  wtm_at "body"
  unfold b__law_rank
  repeat wtm_at "e"
  refine q_lcost hw hl ?_
  repeat wtm_at "e"
  exact h
theorem w_sortL {i i0 : Nat} {y : Str} {te me : DE} (h : RP (fun x s1 => tabAt s1 i = some y ∧ ∃ l kd s3, lstOf s1 x = some l ∧ keysF (lamF te r i0) .non l [] s1 = .ok kd s3 ∧ Q (.lst (outK kd l)) s3) E (me r s)) : RP Q E (sortLM i y i0 te me r s) :=
  w_bind (h.mono (fun x s1 ⟨e0, l, kd, s3, e4, e5, h⟩ => by
    show RP Q E (if tabAt s1 i = some y then sortF (lamF te r i0) [.non, x] s1 else .bad)
    rw [if_pos e0]
    unfold sortF
    dsimp only
    rw [e4]
    dsimp only
    rw [e5]
    exact h) fun _ _ _ h => h)
theorem words_flat : ∀ l : List (List Nat), (l.map wD).all flatD = true
  | [] => rfl
  | w :: l => by rw [List.map_cons, List.all_cons, words_flat l]; rfl
theorem words_in (a : List Nat) : ∀ l : List (List Nat), (l.map wD).any (fun y => eqF y (wD a)) = decide (a ∈ l)
  | [] => by simp
  | w :: l => by
    rw [List.map_cons, List.any_cons, words_in a l]
    have e : eqF (wD w) (wD a) = decide (a = w) := by
      show (LS w == LS a) = _
      by_cases z : a = w
      · subst z
        simp
      · rw [decide_eq_false z]
        exact beq_eq_false_iff_ne.mpr fun y => z (LS_inj y).symm
    rw [e, Bool.eq_iff_iff]
    simp
theorem o_ninW {a : List Nat} {l : List (List Nat)} (h : Q (.bl (!decide (a ∈ l))) s) : RP Q E (inD true (wD a) (.lst (l.map wD)) s) := by
  refine RP.of (a := .bl (!decide (a ∈ l))) (s' := s) ?_ h
  unfold inD
  rw [show dctOf s (.lst (l.map wD)) = none from rfl]
  dsimp only
  rw [show seqOf s (.lst (l.map wD)) = some (l.map wD) from rfl]
  dsimp only
  rw [if_pos (by rw [words_flat]; rfl)]
  unfold inF
  rw [words_in]
  rfl
theorem word_ok (hw : ∀ w ∈ ws, w < 26) : PyData.strOk (LS ws) = true := by
  unfold PyData.strOk
  rw [← Array.all_toList, LS_cps]
  rw [List.all_eq_true]
  intro x hx
  obtain ⟨w, hwm, rfl⟩ := List.mem_map.mp hx
  have := hw w hwm
  exact decide_eq_true (by omega)
theorem wordRepr (h : ∀ w ∈ ws, w < 26) : (PySem.reprText (LS ws)).length ≤ 10 * ws.length + 2 := by
  rw [LS_CS]
  have := repr_len (cs := ws.map (97 + ·)) (fun x hx => by
    obtain ⟨w, hw, rfl⟩ := List.mem_map.mp hx
    have := h w hw
    omega)
  rw [List.length_map] at this
  exact this
theorem words_rd : ∀ (l : List (List Nat)) (n : Nat), (∀ v ∈ l, (∀ w ∈ v, w < 26) ∧ v.length ≤ 160) → l.length < n → ∃ ps, rdPs s (n + 1) (l.map wD) = some ps ∧ PyData.showableAll ps = true ∧ PyData.hasDictAll ps = false ∧ PyData.depthAll ps = 0 ∧ wtAll ps ≤ 2000 * l.length
  | [], n, _, _ => ⟨[], by simp only [List.map_nil, rdPs], rfl, rfl, rfl, by show 0 ≤ 2000 * 0; decide⟩
  | d :: l, 0, _, hn => by simp at hn
  | d :: l, n + 1, h, hn => by
    obtain ⟨ps, e2, b1, b2, b3, b4⟩ := words_rd l n (fun x hx => h x (by simp [hx])) (by simpa using hn)
    obtain ⟨h1, h2⟩ := h d List.mem_cons_self
    have h3 := wordRepr h1
    refine ⟨.str (LS d) :: ps, ?_, ?_, ?_, ?_, ?_⟩
    · simp only [List.map_cons, rdPs, rdP, e2]
      rfl
    · rw [PyData.showableAll, b1]
      rfl
    · rw [PyData.hasDictAll, b2]
      rfl
    · rw [PyData.depthAll, b3]
      rfl
    · rw [wtAll, wt, List.length_cons]
      omega
theorem words_ro {l : List (List Nat)} (h : ∀ v ∈ l, (∀ w ∈ v, w < 26) ∧ v.length ≤ 160) (hl : l.length ≤ 40) : RO s (.lst (l.map wD)) := by
  obtain ⟨ps, e, h1, h2, h3, h4⟩ := words_rd (s := s) l 97 h (by omega)
  refine ro_of (p := .list ps) (by simp only [rdP, e]; rfl) (by rw [PyData.showable]; exact h1) (by rw [PyData.hasDict]; exact h2) (by rw [PyData.depth]; omega) ?_
  rw [wt]
  omega
theorem words_rdC {k : Nat} {l : List D} (hs : s[k]? = some (some (.lst l))) : rdP s 99 (.cel k) = rdP s 99 (.lst l) := by
  simp only [rdP, hs]
theorem words_roC {k : Nat} {l : List D} (hs : s[k]? = some (some (.lst l))) (h : RO s (.lst l)) : RO s (.cel k) := by
  unfold RO at h ⊢
  rw [words_rdC hs]
  exact h
theorem words_rpC {k : Nat} {l : List D} (hs : s[k]? = some (some (.lst l))) : rpT s (.cel k) = rpT s (.lst l) := by
  unfold rpT
  rw [words_rdC hs]
theorem o_sliLL {l : List D} {i : Int} {m : Nat} (hi : i = (m : Int)) (hm : m ≤ l.length) (h : Q (.lst (l.take m)) s) : RP Q E (sliD false (.lst l) none (some i) s) := by
  subst hi
  unfold sliD
  dsimp only
  rw [show lstOf s (.lst l) = some l from rfl]
  dsimp only
  rw [cut_take (by omega), Int.toNat_natCast]
  exact h
/-- a value of any kind -/
def chkT : D → Bool
  | .str z => z.cps.toList.all (fun x => decide (x < 128)) && decide (z.cps.toList.length ≤ 1000)
  | .non | .bl _ | .int _ | .tup _ | .lst _ => true
  | _ => false
def Thing (s : Sto) (d : D) : Prop := (∃ t, tagD s d = some t ∧ isiT it0 t (.ty "str") = some false) ∨ ∃ cs, d = .str (CS cs) ∧ cs.length ≤ 1000000 ∧ ∀ x ∈ cs, x < 128
theorem chk_thing {d : D} (h : chkT d = true) : Thing s d := by
  cases d with
  | str z =>
    unfold chkT at h
    rw [Bool.and_eq_true, List.all_eq_true] at h
    have h2 := of_decide_eq_true h.2
    refine .inr ⟨z.cps.toList, by rw [← CS_of], by omega, fun x hx => of_decide_eq_true (h.1 x hx)⟩
  | non => exact .inl ⟨_, rfl, rfl⟩
  | bl b => exact .inl ⟨_, rfl, rfl⟩
  | int i => exact .inl ⟨_, rfl, rfl⟩
  | tup l => exact .inl ⟨_, rfl, rfl⟩
  | lst l => exact .inl ⟨_, rfl, rfl⟩
  | _ => cases h
theorem odd_thing {d : D} (h : Odd s d) : Thing s d := by
  rcases h with h | h | ⟨k, rfl, h⟩
  · exact chk_thing (List.all_eq_true.mp (show oddA.all chkT = true by decide +kernel) d h)
  · exact chk_thing (List.all_eq_true.mp (show oddB.all chkT = true by decide +kernel) d h)
  · refine .inl ⟨.bt "dict", ?_, rfl⟩
    rcases h with h | h <;> exact tag_cel h
/-- both sides say the same of it -/
theorem thing_both {d : D} (h : Thing s d) : ∃ v : Bool, (∀ (Q : D → Sto → Prop) (E : XT), Q (.bl v) s → RP Q E (m_is_word [.str (LS ps), d, .int 160] s)) ∧ ∀ (Q : D → Sto → Prop) (E : XT), Q (.bl v) s → RP Q E (m__law_is_word [.str (LS ps), d] s) := by
  rcases h with ⟨t, h1, h2⟩ | ⟨cs, rfl, h1, h2⟩
  · exact ⟨false, fun Q E h => q_isw_tag h1 h2 h, fun Q E h => q_lisw_tag h1 h2 h⟩
  · exact ⟨wordB ps cs, fun Q E h => q_isw_txt h1 h, fun Q E h => q_lisw_txt h1 h2 h⟩
theorem thing_txt {cs : List Nat} (h1 : cs.length ≤ 1000000) (h2 : ∀ x ∈ cs, x < 128) : Thing s (.str (CS cs)) := .inr ⟨cs, rfl, h1, h2⟩
theorem ro_bl {v : Bool} : RO s (.bl v) := ro_flat (.inr (.inl ⟨v, rfl⟩))
theorem ro_nat {k : Nat} (h : k ≤ 100000) : RO s (nD k) := ro_flat (.inr (.inr (.inl ⟨k, rfl, by
  rw [Int.natAbs_natCast]
  have : 100000 < 2 ^ 1000 := by decide +kernel
  omega⟩)))
theorem rp_true : rpT s (.bl true) = "True" := by
  unfold rpT
  rw [show rdP s 99 (.bl true) = some (.bool true) by simp only [rdP]]
  rfl
theorem costN9 (C : CostOk ps c) (hw : ∀ w ∈ ws, w ∈ ps) : costN c ws ≤ 9 * ws.length := by
  induction ws with
  | nil => exact Nat.zero_le _
  | cons i w ih =>
    have h1 := C.few i (hw i List.mem_cons_self)
    have h2 := ih fun j hj => hw j (List.mem_cons_of_mem _ hj)
    unfold costN at h2 ⊢
    rw [List.map_cons, List.sum_cons, List.length_cons]
    omega
theorem o_neWC {k : Nat} {l : List (List Nat)} (hs : s[k]? = some (some (.lst (l.map wD)))) (hl : ∀ v ∈ l, ∀ w ∈ v, w < 26) (h : Q (.bl false) s) : RP Q E (neD (.cel k) (.lst (l.map wD)) s) := by
  have e : l.map wD = (l.map LS).map .str := by rw [List.map_map]; rfl
  rw [e] at hs ⊢
  exact o_neSSC hs (fun w hw => by
    obtain ⟨v, hv, rfl⟩ := List.mem_map.mp hw
    exact word_ok (hl v hv)) h
theorem srtW_two (w : List Nat) : srtW c [w, w] = [w] := asc_eq srtW_asc (List.pairwise_singleton _ _) fun v => by rw [srtW_mem]; simp
theorem srtW_nil : srtW c [] = [] := asc_eq srtW_asc List.Pairwise.nil fun v => by rw [srtW_mem]
theorem app_get {s : Sto} {l : List D} : (s ++ [some (Ct.lst l)])[s.length]? = some (some (.lst l)) := by
  rw [List.getElem?_append_right (Nat.le_refl _)]
  simp
end
end G
set_option Elab.async false
set_option linter.all false
set_option maxRecDepth 100000
set_option maxHeartbeats 4000000
namespace G
open Mp Pl
open PySem (Str sizeLine)
local macro_rules | `(tactic| wtm_at "e") => `(tactic| first
  | with_reducible refine w_set ?_
  | with_reducible refine w_bin ?_
  | ((with_reducible refine w_v (d := ?dv) ?hv ?_); (case hv => exact rfl))
  | with_reducible refine w_c ?_
  | with_reducible refine w_cons ?_
  | with_reducible refine w_nil ?_
  | with_reducible refine w_arg ?_
  | with_reducible refine w_call ?_
  | with_reducible refine w_if ?_
  | with_reducible refine w_ret ?_
  | with_reducible refine w_skip ?_
  | with_reducible refine w_bl ?_
  | with_reducible refine w_tru ?_
  | with_reducible refine w_attr ?_
  | with_reducible refine w_meth ?_
  | with_reducible refine w_chain ?_
  | with_reducible refine w_and ?_
  | with_reducible refine w_or ?_
  | with_reducible refine w_not ?_
  | with_reducible refine w_notT ?_
  | with_reducible refine w_andT ?_
  | with_reducible refine w_orT ?_
  | with_reducible refine w_ifM ?_
  | with_reducible refine w_expr ?_
  | with_reducible refine w_un ?_
  | with_reducible refine w_par2 ?_
  | with_reducible refine w_par3 ?_
  | with_reducible refine w_asg ?_
  | with_reducible refine w_aug ?_
  | with_reducible refine w_sub ?_
  | with_reducible refine w_fld ?_
  | with_reducible refine w_raise ?_
  | with_reducible refine w_raise0 ?_
  | with_reducible refine w_try ?_
  | with_reducible refine w_make ?_
  | with_reducible refine w_tryAs ?_
  | with_reducible refine w_exn ?_
  | ((with_reducible refine o_isx (b := ?bv) ?h1 ?_); (case h1 => exact rfl))
  | with_reducible refine w_superS ?_
  | with_reducible refine w_super ?_
  | with_reducible refine w_star ?_
  | with_reducible refine w_for0 ?_
  | with_reducible refine w_lc0 ?_
  | with_reducible refine w_lc20 ?_
  | with_reducible refine w_seqJ ?_
  | with_reducible refine w_starC ?_
  | with_reducible refine w_spr ?_
  | with_reducible refine w_kwA ?_
  | with_reducible refine w_kwM ?_
  | with_reducible refine w_sprK ?_
  | with_reducible refine w_get ?_
  | with_reducible refine w_makeL ?_
  | with_reducible refine w_tryN ?_
  | ((with_reducible refine o_own0 ?hv ?_); (case hv => exact rfl))
  | ((with_reducible refine o_eqO0 ?hv ?_); (case hv => exact rfl))
  | with_reducible refine w_seqI ?_
  | with_reducible refine w_argI ?_
  | with_reducible refine w_opt ?_
  | with_reducible refine w_sli ?_
  | with_reducible refine w_pure ?_
  | with_reducible refine w_disp ?_
  | with_reducible refine w_pairs1 ?_
  | with_reducible refine w_pairs0 ?_
  | with_reducible refine w_retN ?_
  | with_reducible refine w_cnt ?_
  | with_reducible refine w_brk ?_
  | with_reducible refine o_addI ?_
  | with_reducible refine o_addI' ?_
  | with_reducible refine o_sub ?_
  | with_reducible refine o_lt ?_
  | with_reducible refine o_le ?_
  | with_reducible refine o_gt ?_
  | with_reducible refine o_ge ?_
  | with_reducible refine o_eqI ?_
  | with_reducible refine o_neI ?_
  | with_reducible refine o_eqS ?_
  | with_reducible refine o_neS ?_
  | with_reducible refine o_int ?_
  | with_reducible refine o_intB ?_
  | with_reducible refine o_neg ?_
  | with_reducible refine o_abs ?_
  | with_reducible refine o_newL ?_
  | with_reducible refine o_max2 ?_
  | with_reducible refine o_min2 ?_
  | with_reducible refine o_lenL ?_
  | with_reducible refine o_lenT ?_
  | ((with_reducible refine o_tup ?hv ?_); (case hv => first | exact Nat.le_of_ble_eq_true rfl | assumption))
  | ((with_reducible refine o_lst ?hv ?_); (case hv => first | exact Nat.le_of_ble_eq_true rfl | assumption))
  | ((with_reducible refine o_isi (t := ?tv) (b := ?bv) ?h1 ?h2 ?_); (case h1 => exact rfl); (case h2 => exact rfl))
  | ((with_reducible refine o_fld (C := ?cv) (fs := ?fv) (d := ?dv) ?h1 ?h2 ?h3 ?_); (case h1 => exact rfl); (case h2 => exact rfl); (case h3 => exact rfl))
  | ((with_reducible refine Exists.intro ?kv (And.intro ?ha ?_)); (case ha => exact rfl)))
local macro_rules | `(tactic| wtm_at "body") => `(tactic| (refine w_body rfl rfl ?_; dsimp only [List.length_cons, List.length_nil, List.drop, List.append_nil, List.map_cons, List.map_nil, List.map, List.cons_append, List.nil_append, Nat.reduceAdd, Nat.reduceSub, List.replicate]))
local macro_rules | `(tactic| wtm_at "meth") => `(tactic| refine ⟨_, _, _, rfl, rfl, rfl, ?_⟩)
local macro_rules | `(tactic| wtm_at "w") => `(tactic| first | with_reducible refine w_seq ?_ | wtm_at "e")
local macro_rules | `(tactic| wtm_at "s") => `(tactic| ((repeat wtm_at "e"); (with_reducible refine w_seq ?_)))
local macro_rules | `(tactic| wtm_at "f") => `(tactic| ((repeat wtm_at "e"); (with_reducible show FP _ _)))
section
theorem law_ok {ns : List Int} : ∃ s', m_law [.rol (ns.map .int)] (s0T tl0) = .ok (.bl true) s' := by
  have hz : sizeLine = 16777216 := by decide
  suffices hw : RP (fun d _ => d = .bl true) noX (m_law [.rol (ns.map .int)] (s0T tl0)) by
    obtain ⟨d, s', e, rfl⟩ := hw.ex
    exact ⟨s', e⟩
  have e00 : (s0T tl0) = [some (.tab "law")] := rfl
  rw [e00]
  wtm_at "body"
  unfold b_law
  wtm_at "s"
  repeat wtm_at "e"
  refine q_pen fun c0 s0 pen0 es0 => ?_
  have t0 : s0[0]? = some (some (.tab "law")) := by rw [es0]; rfl
  wtm_at "s"
  repeat wtm_at "e"
  refine w_range1 (by decide) (by decide) ?_
  refine w_for (fun i r s' => Pen s' 1 (1000 * i) ∧ s'[0]? = some (some (.tab "law")) ∧ ∃ x2 x3 x4 x5 x6 x7 x8 x9 x10 x11 x12 x13 : Option D, r = [some (.rol (ns.map .int)), some (.cel 1), x2, x3, x4, x5, x6, x7, x8, x9, x10, x11, x12, x13]) rfl ⟨pen0.mono (by simp), t0, _, _, _, _, _, _, _, _, _, _, _, _, rfl⟩ ?_ ?_
  rotate_left
  · rintro r s' ⟨_, _, x2, x3, x4, x5, x6, x7, x8, x9, x10, x11, x12, x13, rfl⟩
    repeat wtm_at "e"
    rfl
  rintro i d r s hd ⟨pen, ht0, x2, x3, x4, x5, x6, x7, x8, x9, x10, x11, x12, x13, rfl⟩
  obtain ⟨hi, rfl⟩ := intL_get hd
  have hi12 : i < 12 := hi
  have hB := pen.lt
  have tb : ∀ {s' : Sto} {b : Int}, PH 1 s s' b → s'[0]? = some (some (.tab "law")) := fun ph => by
    rw [ph.fr.2 0 (by omega) (by decide)]
    exact ht0
  refine ⟨_, rfl, ?_⟩
  wtm_at "s"
  repeat wtm_at "e"
  refine q_lettered pen (by omega) (by decide) (by decide) fun ps c s1 C ph1 => ?_
  have lp := C.lets
  have h4 := lp.few
  have h1p := lp.pos
  wtm_at "s"
  repeat wtm_at "e"
  refine q_made_order C ph1.pen (by omega) fun s2 ph2 => ?_
  have ph2 : PH 1 s s2 (1000 * i + 40) := ph1.go ph2 (by omega)
  repeat wtm_at "e"
  refine q_long_word C ph2.pen (by omega) fun w s3 hw hwl pf3 => ?_
  have ph3 : PH 1 s s3 (1000 * i + 100) := ph2.go pf3.ph (by omega)
  repeat wtm_at "e"
  wtm_at "s"
  repeat wtm_at "e"
  refine w_range1 (by decide) (by decide) ?_
  refine w_lcH (m := 4) wD (fun v => (∀ i ∈ v, i ∈ ps) ∧ v.length ≤ 160) 90 ph3.pen (by decide) (by decide) (fun j s1' R hj p1 hR => ?_) fun us s4 hul hus ph4 => ?_
  · repeat wtm_at "e"
    refine q_beside C p1 (by omega) hw hwl fun vs s' hv hvl ph => ?_
    exact hR vs s' ⟨hv, hvl⟩ (ph.mono (by omega))
  have ph4 : PH 1 s s4 (1000 * i + 480) := ph3.go ph4 (by omega)
  have ht4 := tb ph4
  repeat wtm_at "e"
  refine o_addL (by rw [List.length_map]; simp; omega) ?_
  obtain ⟨W, eW⟩ : ∃ W, W = w :: us := ⟨_, rfl⟩
  rw [show [wD w] ++ us.map wD = W.map wD by rw [eW]; rfl]
  have hW : ∀ v ∈ W, (∀ i ∈ v, i ∈ ps) ∧ v.length ≤ 160 := by
    rw [eW]
    intro v hv
    rcases List.mem_cons.mp hv with rfl | hv
    · exact ⟨hw, hwl⟩
    · exact hus v hv
  have hW5 : W.length = 5 := by rw [eW, List.length_cons, hul]
  have hW26 : ∀ v ∈ W, (∀ i ∈ v, i < 26) ∧ v.length ≤ 160 := fun v hv => ⟨fun i hi => lp.lt i ((hW v hv).1 i hi), (hW v hv).2⟩
  wtm_at "f"
  with_reducible refine w_mid (fun r s' => s' = s4 ∧ ∃ x5 x12 : Option D, r = [some (.rol (ns.map .int)), some (.cel 1), some (.int (0 + i)), some (.dct (byL ps fun i => nD (c i))), some (.lst (W.map wD)), x5, x6, x7, x8, x9, some (ordD ps c), some (wD w), x12, x13]) ?_ ?_
  · repeat wtm_at "e"
    refine w_for (fun j r s' => s' = s4 ∧ ∃ x5 x12 : Option D, r = [some (.rol (ns.map .int)), some (.cel 1), some (.int (0 + i)), some (.dct (byL ps fun i => nD (c i))), some (.lst (W.map wD)), x5, x6, x7, x8, x9, some (ordD ps c), some (wD w), x12, x13]) rfl ⟨rfl, _, _, rfl⟩ ?_ ?_
    rotate_left
    · rintro r s' ⟨rfl, y5, y12, rfl⟩
      exact ⟨rfl, _, _, rfl⟩
    rintro j d r s' hd ⟨rfl, y5, y12, rfl⟩
    obtain ⟨u, hu, rfl⟩ := List.mem_map.mp (List.mem_of_getElem? hd)
    obtain ⟨hu1, hu2⟩ := hW u hu
    refine ⟨_, rfl, ?_⟩
    wtm_at "f"
    with_reducible refine w_mid (fun r s1 => s1 = s' ∧ r = [some (.rol (ns.map .int)), some (.cel 1), some (.int (0 + i)), some (.dct (byL ps fun i => nD (c i))), some (.lst (W.map wD)), some (wD u), x6, x7, x8, x9, some (ordD ps c), some (wD w), y12, x13]) ?_ ?_
    · repeat wtm_at "e"
      refine ⟨_, _, _, rfl, rfl, rfl, ?_⟩
      repeat wtm_at "e"
      refine q_cost lp hu1 hu2 ?_
      repeat wtm_at "e"
      refine o_reprX (ro_nat (by have := costN9 C hu1; omega)) ?_
      repeat wtm_at "e"
      refine q_lcost hu1 (by omega) ?_
      repeat wtm_at "e"
      refine o_reprX (ro_nat (by have := costN9 C hu1; omega)) ?_
      repeat wtm_at "e"
      refine ⟨fun _ => ?_, fun z => absurd z (by simp)⟩
      repeat wtm_at "e"
      refine o_inO (q_is_word hu1 hu2 (by omega) ⟨true, rfl, ?_⟩)
      repeat wtm_at "e"
      refine o_reprX ro_bl ?_
      rw [rp_true]
      repeat wtm_at "e"
      refine ⟨fun z => absurd z (by simp), fun _ => ?_⟩
      repeat wtm_at "e"
      exact ⟨rfl, rfl⟩
    rintro r s1 ⟨rfl, rfl⟩
    repeat wtm_at "e"
    refine w_for (fun j r s' => s' = s1 ∧ ∃ x12 : Option D, r = [some (.rol (ns.map .int)), some (.cel 1), some (.int (0 + i)), some (.dct (byL ps fun i => nD (c i))), some (.lst (W.map wD)), some (wD u), x6, x7, x8, x9, some (ordD ps c), some (wD w), x12, x13]) rfl ⟨rfl, _, rfl⟩ ?_ ?_
    rotate_left
    · rintro r s' ⟨rfl, z12, rfl⟩
      exact ⟨rfl, _, _, rfl⟩
    rintro j2 d2 r s2 hd2 ⟨rfl, z12, rfl⟩
    obtain ⟨v, hv, rfl⟩ := List.mem_map.mp (List.mem_of_getElem? hd2)
    obtain ⟨hv1, hv2⟩ := hW v hv
    refine ⟨_, rfl, ?_⟩
    repeat wtm_at "e"
    refine ⟨_, _, _, rfl, rfl, rfl, ?_⟩
    repeat wtm_at "e"
    refine q_is_before lp hu1 hu2 hv1 hv2 ?_
    repeat wtm_at "e"
    refine o_reprX ro_bl ?_
    repeat wtm_at "e"
    refine q_lrank hu1 (by omega) ?_
    repeat wtm_at "e"
    refine q_lrank hv1 (by omega) ?_
    refine o_ltK ?_
    rw [show ltKP ((keyW c u).1, (keyW c u).2) ((keyW c v).1, (keyW c v).2) = ltW c u v from ltKP_keyW c u v]
    repeat wtm_at "e"
    refine o_reprX ro_bl ?_
    repeat wtm_at "e"
    refine ⟨fun z => absurd z (by simp), fun _ => ?_⟩
    repeat wtm_at "e"
    exact ⟨rfl, _, rfl⟩
  rintro r s5 ⟨rfl, x5, x12, rfl⟩
  wtm_at "s"
  repeat wtm_at "e"
  refine w_range1 (by decide) (by decide) ?_
  refine w_lcY (List.range 5) (fun k => .int (0 + (k : Nat))) (fun k => wD (W.getD k [])) (fun k => !decide (W.getD k [] ∈ W.take k)) rfl rfl (by decide) (fun k hk => ⟨_, rfl, ?_, fun _ => ?_⟩) ?_
  · have hk := List.mem_range.mp hk
    have g : (W.map wD)[k]? = some (wD (W.getD k [])) := by
      rw [List.getElem?_map, List.getD_eq_getElem?_getD, List.getElem?_eq_getElem (by omega)]
      rfl
    repeat wtm_at "e"
    refine o_idxL (k := k) (by omega) g ?_
    repeat wtm_at "e"
    refine o_sliLL (m := k) (by omega) (by rw [List.length_map]; omega) ?_
    rw [← List.map_take]
    refine o_ninW ?_
    repeat wtm_at "e"
    exact ⟨rfl, rfl⟩
  · have hk := List.mem_range.mp hk
    have g : (W.map wD)[k]? = some (wD (W.getD k [])) := by
      rw [List.getElem?_map, List.getD_eq_getElem?_getD, List.getElem?_eq_getElem (by omega)]
      rfl
    repeat wtm_at "e"
    refine o_idxL (k := k) (by omega) g ?_
    exact ⟨rfl, rfl⟩
  repeat wtm_at "e"
  have eU : ((List.range 5).filter fun k => !decide (W.getD k [] ∈ W.take k)).map (fun k => wD (W.getD k [])) = (uniq W).map wD := by
    have := uniq_take W [] (fun k => !decide (W.getD k [] ∈ W.take k)) (fun k => by simp) 5 (by omega)
    rw [show W.take 5 = W from List.take_of_length_le (by omega)] at this
    rw [← this, List.map_map]
    rfl
  rw [eU]
  have hU : ∀ v ∈ uniq W, (∀ i ∈ v, i ∈ ps) ∧ v.length ≤ 160 := fun v hv => hW v (uniq_mem.mp hv)
  wtm_at "s"
  repeat wtm_at "e"
  refine w_sortL ?_
  repeat wtm_at "e"
  refine ⟨by unfold tabAt; rw [ht4], _, _, _, rfl, keysF_pure wD (keyW c) (fun v hv => ?_), ?_⟩
  · obtain ⟨h1, h2⟩ := hU v hv
    refine RP.eqn ?_
    unfold lamF
    dsimp only
    repeat wtm_at "e"
    refine q_lrank h1 (by omega) ⟨rfl, rfl⟩
  have eS : (fun a b : List Nat => !ltKP (keyW c b) (keyW c a)) = leC c := by
    funext a b
    rw [ltKP_keyW]
  rw [List.nil_append, outK_map, eS]
  rw [show (uniq W).mergeSort (leC c) = srtW c W from rfl]
  obtain ⟨a0, a1, a2, a3, a4, eW5⟩ : ∃ a0 a1 a2 a3 a4, W = [a0, a1, a2, a3, a4] := by
    match W, hW5 with
    | [a, b, c, d, e], _ => exact ⟨a, b, c, d, e, rfl⟩
  obtain ⟨S, eSS⟩ : ∃ S, S = srtW c W := ⟨_, rfl⟩
  rw [← eSS]
  have hS : ∀ v ∈ S, (∀ i ∈ v, i < 26) ∧ v.length ≤ 160 := fun v hv => hW26 v (by rw [eSS] at hv; exact srtW_mem.mp hv)
  have hS5 : S.length ≤ 5 := by rw [eSS, ← hW5]; exact srtW_len
  have eS1 : srtW c [a0, a1, a2, a3, a4] = S := by rw [eSS, eW5]
  have eS2 : srtW c [a4, a3, a2, a1, a0] = S := by
    rw [← eS1]
    exact srtW_rev fun v => by simp only [List.mem_cons, List.not_mem_nil, or_false]; constructor <;> (rintro (h | h | h | h | h) <;> simp [h])
  have hW1 : ∀ v ∈ [a0, a1, a2, a3, a4], (∀ i ∈ v, i ∈ ps) ∧ v.length ≤ 160 := fun v hv => hW v (by rw [eW5]; exact hv)
  have hW2 : ∀ v ∈ [a4, a3, a2, a1, a0], (∀ i ∈ v, i ∈ ps) ∧ v.length ≤ 160 := fun v hv => hW1 v (by
    simp only [List.mem_cons, List.not_mem_nil, or_false] at hv ⊢
    rcases hv with h | h | h | h | h <;> simp [h])
  clear hW hW26 hU eU eS
  rw [eW5]
  wtm_at "s"
  repeat wtm_at "e"
  refine ⟨_, _, _, rfl, rfl, rfl, ?_⟩
  repeat wtm_at "e"
  refine o_idxL (k := 0) rfl rfl ?_
  repeat wtm_at "e"
  refine o_idxL (k := 1) rfl rfl ?_
  repeat wtm_at "e"
  refine o_idxL (k := 2) rfl rfl ?_
  repeat wtm_at "e"
  refine o_idxL (k := 3) rfl rfl ?_
  repeat wtm_at "e"
  refine o_idxL (k := 4) rfl rfl ?_
  repeat wtm_at "e"
  refine q_sorted_words lp (ws := [a0, a1, a2, a3, a4]) hW1 (by simp) ?_
  rw [eS1]
  have g6 : (s5 ++ [some (Ct.lst (S.map wD))])[s5.length]? = some (some (.lst (S.map wD))) := app_get
  have ph6 : PH 1 s (s5 ++ [some (Ct.lst (S.map wD))]) (1000 * i + 480) := ph4.app
  have l6 : s.length ≤ s5.length := ph4.fr.1
  generalize s5.length = k5 at g6 l6 ⊢
  generalize (s5 ++ [some (Ct.lst (S.map wD))]) = s6 at g6 ph6 ⊢
  have k6 : k5 < s6.length := (List.getElem?_eq_some_iff.mp g6).1
  wtm_at "f"
  with_reducible refine w_mid (fun r s' => PH 1 s6 s' (1000 * i + 480) ∧ r = [some (.rol (ns.map .int)), some (.cel 1), some (.int (0 + i)), some (.dct (byL ps fun i => nD (c i))), some (.lst ([a0, a1, a2, a3, a4].map wD)), x5, some (.lst ((uniq [a0, a1, a2, a3, a4]).map wD)), some (.lst (S.map wD)), some (.cel k5), x9, some (ordD ps c), some (wD w), x12, x13]) ?_ ?_
  · repeat wtm_at "e"
    refine o_reprX (words_roC g6 (words_ro hS (by omega))) ?_
    rw [words_rpC g6]
    repeat wtm_at "e"
    refine o_reprX (words_ro hS (by omega)) ?_
    repeat wtm_at "e"
    refine ⟨fun _ => ?_, fun z => absurd z (by simp)⟩
    repeat wtm_at "e"
    refine ⟨_, _, _, rfl, rfl, rfl, ?_⟩
    repeat wtm_at "e"
    refine q_sorted_words lp (ws := []) (fun v hv => by cases hv) (by simp) ?_
    rw [srtW_nil]
    repeat wtm_at "e"
    refine o_neWC (l := []) app_get (fun v hv => by cases hv) ?_
    repeat wtm_at "e"
    refine ⟨fun _ => ?_, fun z => absurd z (by simp)⟩
    repeat wtm_at "e"
    refine ⟨_, _, _, rfl, rfl, rfl, ?_⟩
    repeat wtm_at "e"
    refine q_sorted_words lp (ws := [w, w]) (fun v hv => by
      have : v = w := by simpa using hv
      rw [this]
      exact ⟨hw, hwl⟩) (by simp) ?_
    rw [srtW_two]
    repeat wtm_at "e"
    refine o_neWC (l := [w]) app_get (fun v hv => by
      have : v = w := by simpa using hv
      rw [this]
      exact fun i hi => lp.lt i (hw i hi)) ?_
    repeat wtm_at "e"
    refine ⟨fun z => absurd z (by simp), fun _ => ?_⟩
    repeat wtm_at "e"
    exact ⟨((PH.of ph6.pen).app).app, rfl⟩
  rintro r s7 ⟨ph7, rfl⟩
  have g7 : s7[k5]? = some (some (.lst (S.map wD))) := by
    rw [ph7.fr.2 k5 k6 (by omega)]
    exact g6
  wtm_at "s"
  repeat wtm_at "e"
  refine w_bm ?_
  repeat wtm_at "e"
  refine ⟨by unfold isLstD lstOf lstX; dsimp only; rw [g7]; rfl, ?_⟩
  repeat wtm_at "e"
  refine o_app (l := S.map wD) g7 (by rw [List.length_map]; omega) ?_
  have ph8 : PH 1 s (s7.set k5 (some (.lst (S.map wD ++ [D.str (Str.ofString "")])))) (1000 * i + 480) := (ph6.go ph7 (Int.le_refl _)).set l6 hB
  generalize (s7.set k5 (some (.lst (S.map wD ++ [D.str (Str.ofString "")])))) = s8 at ph8 ⊢
  wtm_at "f"
  with_reducible refine w_mid (fun r s' => PH 1 s s' (1000 * i + 480) ∧ r = [some (.rol (ns.map .int)), some (.cel 1), some (.int (0 + i)), some (.dct (byL ps fun i => nD (c i))), some (.lst ([a0, a1, a2, a3, a4].map wD)), x5, some (.lst ((uniq [a0, a1, a2, a3, a4]).map wD)), some (.lst (S.map wD)), some (.cel k5), x9, some (ordD ps c), some (wD w), x12, x13]) ?_ ?_
  · repeat wtm_at "e"
    refine ⟨_, _, _, rfl, rfl, rfl, ?_⟩
    repeat wtm_at "e"
    refine o_idxL (k := 0) rfl rfl ?_
    repeat wtm_at "e"
    refine o_idxL (k := 1) rfl rfl ?_
    repeat wtm_at "e"
    refine o_idxL (k := 2) rfl rfl ?_
    repeat wtm_at "e"
    refine o_idxL (k := 3) rfl rfl ?_
    repeat wtm_at "e"
    refine o_idxL (k := 4) rfl rfl ?_
    repeat wtm_at "e"
    refine q_sorted_words lp (ws := [a0, a1, a2, a3, a4]) hW1 (by simp) ?_
    rw [eS1]
    repeat wtm_at "e"
    refine o_neWC (l := S) app_get (fun v hv => (hS v hv).1) ?_
    repeat wtm_at "e"
    refine ⟨fun z => (by cases z), fun _ => ?_⟩
    repeat wtm_at "e"
    exact ⟨ph8.app, rfl⟩
  rintro r s9 ⟨ph9, rfl⟩
  wtm_at "f"
  with_reducible refine w_mid (fun r s' => PH 1 s s' (1000 * i + 480) ∧ r = [some (.rol (ns.map .int)), some (.cel 1), some (.int (0 + i)), some (.dct (byL ps fun i => nD (c i))), some (.lst ([a0, a1, a2, a3, a4].map wD)), x5, some (.lst ((uniq [a0, a1, a2, a3, a4]).map wD)), some (.lst (S.map wD)), some (.cel k5), x9, some (ordD ps c), some (wD w), x12, x13]) ?_ ?_
  · repeat wtm_at "e"
    refine ⟨_, _, _, rfl, rfl, rfl, ?_⟩
    repeat wtm_at "e"
    refine o_idxL (k := 4) rfl rfl ?_
    repeat wtm_at "e"
    refine o_idxL (k := 3) rfl rfl ?_
    repeat wtm_at "e"
    refine o_idxL (k := 2) rfl rfl ?_
    repeat wtm_at "e"
    refine o_idxL (k := 1) rfl rfl ?_
    repeat wtm_at "e"
    refine o_idxL (k := 0) rfl rfl ?_
    repeat wtm_at "e"
    refine q_sorted_words lp (ws := [a4, a3, a2, a1, a0]) hW2 (by simp) ?_
    rw [eS2]
    repeat wtm_at "e"
    refine o_neWC (l := S) app_get (fun v hv => (hS v hv).1) ?_
    repeat wtm_at "e"
    refine ⟨fun z => (by cases z), fun _ => ?_⟩
    repeat wtm_at "e"
    exact ⟨ph9.app, rfl⟩
  rintro r s10 ⟨ph10, rfl⟩
  have hw26 : ∀ j ∈ w, j < 26 := fun j hj => lp.lt j (hw j hj)
  repeat wtm_at "e"
  refine q_odd ph10.pen (by omega) fun d s11 hod p11 f11 l11 => ?_
  have ph11 : PH 1 s s11 (1000 * i + 481) := ph10.go ⟨p11, f11⟩ (by omega)
  repeat wtm_at "e"
  refine o_addS (by rw [LS_len, show (Str.ofString "A").length = 1 from rfl]; omega) ?_
  rw [show LS w ++ Str.ofString "A" = CS (w.map (97 + ·) ++ [65]) by rw [LS_CS, show Str.ofString "A" = CS [65] by decide +kernel, CS_app]]
  repeat wtm_at "e"
  refine o_sliS (by rw [LS_len]; omega) ?_
  rw [show (some (159 : Int)) = some ((159 : Nat) : Int) from rfl, LS_cutK]
  refine o_addS (by rw [LS_len, List.length_take, show (Str.ofString "!!").length = 2 from rfl]; omega) ?_
  rw [show LS (w.take 159) ++ Str.ofString "!!" = CS ((w.take 159).map (97 + ·) ++ [33, 33]) by rw [LS_CS, show Str.ofString "!!" = CS [33, 33] by decide +kernel, CS_app]]
  repeat wtm_at "e"
  refine o_listXK (m := byL ps fun i => nD (c i)) rfl ?_
  repeat wtm_at "e"
  rw [show ((byL ps fun i => nD (c i)).map fun p => keyV p.1) = ps.map chD by unfold byL; rw [List.map_map]; rfl]
  have h0p : 0 < ps.length := h1p
  refine o_idxL (k := 0) (d := chD ps[0]) rfl (by rw [List.getElem?_map, List.getElem?_eq_getElem h0p]; rfl) ?_
  rw [show chD ps[0] = .str (LS [ps[0]]) from rfl]
  with_reducible refine w_c ?_
  refine o_mulX (n := 161) rfl (by decide) (by decide) (by rw [LS_len]; simp) (by rw [LS_len]; simp) ?_
  rw [LS_rep]
  repeat wtm_at "e"
  refine o_addS (by rw [LS_len, LS_len]; simp; omega) ?_
  rw [LS_app]
  repeat wtm_at "e"
  refine o_sliS (by rw [LS_len]; simp; omega) ?_
  rw [show (some (161 : Int)) = some ((161 : Nat) : Int) from rfl, LS_cutK]
  have hz26 : ∀ j ∈ (w ++ (List.replicate 161 [ps[0]]).flatten).take 161, j < 26 := fun j hj => by
    rcases List.mem_append.mp (List.mem_of_mem_take hj) with h | h
    · exact hw26 j h
    · have : j = ps[0] := by simpa using h
      rw [this]
      exact lp.lt _ (List.getElem_mem h0p)
  have hzl : ((w ++ (List.replicate 161 [ps[0]]).flatten).take 161).length ≤ 161 := by
    rw [List.length_take]
    omega
  generalize (w ++ (List.replicate 161 [ps[0]]).flatten).take 161 = zs at hz26 hzl ⊢
  repeat wtm_at "e"
  refine o_listXS (by omega) ?_
  repeat wtm_at "e"
  have th : ∀ d' ∈ [d, D.str (CS (w.map (97 + ·) ++ [65])), D.str (CS ((w.take 159).map (97 + ·) ++ [33, 33])), D.str (LS zs), D.lst (w.map chD)], Thing s11 d' := by
    intro d' hd'
    simp only [List.mem_cons, List.not_mem_nil, or_false] at hd'
    rcases hd' with rfl | rfl | rfl | rfl | rfl
    · exact odd_thing hod
    · refine thing_txt (by rw [List.length_append, List.length_map]; simp; omega) fun x hx => ?_
      rcases List.mem_append.mp hx with h | h
      · obtain ⟨j, hj, rfl⟩ := List.mem_map.mp h
        have := hw26 j hj
        omega
      · have : x = 65 := by simpa using h
        omega
    · refine thing_txt (by rw [List.length_append, List.length_map, List.length_take]; simp; omega) fun x hx => ?_
      rcases List.mem_append.mp hx with h | h
      · obtain ⟨j, hj, rfl⟩ := List.mem_map.mp h
        have := hw26 j (List.mem_of_mem_take hj)
        omega
      · have : x = 33 := by simpa using h
        omega
    · rw [LS_CS]
      refine thing_txt (by rw [List.length_map]; omega) fun x hx => ?_
      obtain ⟨j, hj, rfl⟩ := List.mem_map.mp hx
      have := hz26 j hj
      omega
    · exact .inl ⟨_, rfl, rfl⟩
  refine w_for (fun j r s' => s' = s11 ∧ ∃ x9 : Option D, r = [some (.rol (ns.map .int)), some (.cel 1), some (.int (0 + i)), some (.dct (byL ps fun i => nD (c i))), some (.lst ([a0, a1, a2, a3, a4].map wD)), x5, some (.lst ((uniq [a0, a1, a2, a3, a4]).map wD)), some (.lst (S.map wD)), some (.cel k5), x9, some (ordD ps c), some (wD w), x12, x13]) rfl ⟨rfl, _, rfl⟩ ?_ ?_
  rotate_left
  · rintro r s' ⟨rfl, y9, rfl⟩
    exact ⟨ph11.pen.mono (by rw [Int.natCast_succ]; omega), tb ph11, _, _, _, _, _, _, _, _, _, _, _, _, rfl⟩
  rintro j d' r s' hd' ⟨rfl, y9, rfl⟩
  have ht := th d' (List.mem_of_getElem? hd')
  obtain ⟨v, hv1, hv2⟩ := thing_both (ps := ps) ht
  refine ⟨_, rfl, ?_⟩
  repeat wtm_at "e"
  refine o_inO (hv1 _ _ ⟨v, rfl, ?_⟩)
  repeat wtm_at "e"
  refine o_reprX ro_bl ?_
  repeat wtm_at "e"
  refine w_bm ?_
  repeat wtm_at "e"
  refine ⟨rfl, ?_⟩
  repeat wtm_at "e"
  refine o_listXK (m := byL ps fun i => nD (c i)) rfl ?_
  repeat wtm_at "e"
  rw [show ((byL ps fun i => nD (c i)).map fun p => keyV p.1) = ps.map chD by unfold byL; rw [List.map_map]; rfl]
  refine join_chs ps (by omega) rfl ?_
  repeat wtm_at "e"
  refine hv2 _ _ ?_
  repeat wtm_at "e"
  refine o_reprX ro_bl ?_
  repeat wtm_at "e"
  refine ⟨fun z => absurd z (by simp), fun _ => ?_⟩
  repeat wtm_at "e"
  exact ⟨rfl, _, rfl⟩
end
end G
set_option Elab.async false
set_option linter.all false
set_option maxRecDepth 100000
set_option maxHeartbeats 0
theorem PySem.Challenge.cw_firstanswers_k09_words_compared_holds : PySem.Challenge.rw_firstanswers_k09_words_compared.Holds := by
  exact G.fin G.m_law (fun Z TB => G.f_law Z TB) fun ns => G.law_ok
