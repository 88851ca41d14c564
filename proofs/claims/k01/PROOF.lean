import PyProof.Rows.All
import Wide.All
import OpenK.AllK
import Wide.FinOn
import HandS.ForMost
import HandS.ForExc
import HandS.Wide
import HandS.Zip
import HandS.CallSlots
import HandS.HeadHook1
import HandS.HeadHook2
import HandS.Lambda
import HandS.Flow
import HandS.TupAny
import HandS.IsInst
import HandS.Style
import HandS.Property
import HandS.Star
import HandS.ExcInit
import HandS.TryMany
import HandS.HeadWalk
import KE.KExcInit
import HandS.ExcField
import KE.KSuper
import HandS.NestedK
import HandS.RaiseMore
import HandS.Deep
import HandS.Ends
import HandS.EndBits
import HandS.Head0
import HandS.Head1
import HandS.Head2
import HandS.HeadEnd
import HandS.ExcIs
import HandS.DictComp
import HandS.SortInts
import HandS.More
import HandS.Dict
import HandS.Conv
import HandS.HeadNt
import PyProof.DictUpdate
import HandS.SlotsOwn
import HandS.TupMul
import HandS.DictEq
import PyProof.Rows.SortShellAny
import KE.SortKeyHeap
import HandS.Exc
import HandS.ExcValue
import HandS.TupLe
import HandS.ListItems
import KE.KDictList
import PyProof.Rows.StrOr
import PyProof.ReprRoads
import OpenK.KOwn
import KE.GoesRaise
import PyProof.EnumMake
import PyProof.Draws
import KE.GoesMore
import KE.GoesZip
import KE.GoesEnum
import HandS.Replace
import PyProof.ListStr
import KE.KDictZip
import HandS.FStr
import HandS.DeepEq
import PyProof.StrReplace2
import PyProof.FString
import HandS.DictTup
import KE.DataMinMax
import HandS.New0
import KE.IntTextLaws
import PyProof.Rows.ReprOcc
import PySem.Challenge.RW_firstanswers_k01_fields
set_option Elab.async false
set_option linter.all false
set_option maxRecDepth 100000
set_option maxHeartbeats 0
namespace G
open PySem PySem.W PySem.Calls PyProof.Rows
theorem okl (H : (OpenLaw.row PySem.Challenge.rw_firstanswers_k01_fields).wellSaid = true → (OpenLaw.row PySem.Challenge.rw_firstanswers_k01_fields).Holds) : PySem.Challenge.rw_firstanswers_k01_fields.Holds := by
  w_on; o_law
  exact H (by assumption)
end G
set_option Elab.async false
set_option linter.all false
set_option maxRecDepth 100000
set_option maxHeartbeats 4000000
/-! Mp: data trees over the hand layer. A def's text becomes a plain function on data; this part: data, worlds, what is wanted behind a computation. -/
namespace Mp
open PySem PySem.Spec PyProof.Rows L2
/-! ### data -/
inductive D where
  | non | bl (b : Bool) | int (i : Int) | str (z : Str)
  | ty (n : String)
  | glo (x : Str)
  | tup (l : List D) | lst (l : List D) | rol (l : List D)
  | dct (l : List (Key × D))
  | ins (C : Str) (fs : List (Str × D))
  | exn (a : Addr) (d : Option Addr) (C : Str) (fs : List (Str × D))
  | cel (n : Nat)
  | clo (f c : Addr) (q : Str) (t : L2.St) (r : List (Option D))
  | kot (l : List D)
/-- what a mutable cell holds -/
inductive Ct where
  | lst (l : List D) | dct (l : List (Key × D)) | ins (C : Str) (fs : List (Str × D)) | rod (l : List (Key × D)) | tab (x : Str) | dtt (l : List (List Key × D))
abbrev Sto := List (Option Ct)
abbrev En := List (Option D)
inductive Res (T : Type) where
  | ok (a : T) (s : Sto) | exc (C : Str) (fs : List (Str × D)) (s : Sto) | bad
abbrev DM (T : Type) := En → Sto → Res T
abbrev DE := DM D
inductive Fl where
  | nx (r : En) (s : Sto) | rt (d : D) (s : Sto) | bk (r : En) (s : Sto) | ct (r : En) (s : Sto)
  | exc (C : Str) (fs : List (Str × D)) (r : En) (s : Sto) | bad
abbrev DS := En → Sto → Fl
abbrev DG := D → En → Sto → Option (En × Sto)
def bindM {T U : Type} (m : DM T) (f : T → DM U) : DM U := fun r s => match m r s with
  | .ok a s' => f a r s'
  | .exc C fs s' => .exc C fs s'
  | .bad => .bad
def pureM {T : Type} (a : T) : DM T := fun _ s => .ok a s
/-! ### worlds -/
structure Wd where
  A : Nat → Option Addr
  Z : Addr → Prop
  P : Addr → Prop
  H : Hp
abbrev Frag := PySem.W.Frag
/-- a written list, tuple -/
def KL (K : Frag) (a : Addr) (xs : List V) : Prop := ∃ (o : Obj) (its : Array Value) (n : Nat), K.lookup a = some o ∧ o.cls = .type "list" ∧ o.dict = none ∧ o.data = .seq its n ∧ its.size ≤ sizeLine ∧ Vals xs its.toList
def KT (K : Frag) (a : Addr) (xs : List V) : Prop := ∃ (o : Obj) (its : Array Value) (n : Nat), K.lookup a = some o ∧ o.cls = .type "tuple" ∧ o.data = .seq its n ∧ its.size ≤ sizeLine ∧ Vals xs its.toList
def LAt (K : Frag) (w : Wd) (a : Addr) (xs : List V) : Prop := (w.Z a ∧ Rd w.H a (.lst xs)) ∨ KL K a xs
def TAt (_K : Frag) (w : Wd) (a : Addr) (xs : List V) : Prop := w.Z a ∧ w.H a = some (.tup xs)
theorem LAt.sq {K : Frag} {w : Wd} {a : Addr} {xs : List V} (h : LAt K w a xs) : SqL K w.H a xs := h.elim (fun h => .inl h.2) .inr
theorem TAt.sq {K : Frag} {w : Wd} {a : Addr} {xs : List V} (h : TAt K w a xs) : SqT K w.H a xs := .inl (Rd.of h.2)
/-- all that Rep leans on is kept -/
structure Ex0 (w w' : Wd) : Prop where
  A : ∀ n a, w.A n = some a → w'.A n = some a
  Z : ∀ a, w.Z a → w'.Z a
  H : ∀ a, w.Z a → w'.H a = w.H a
/-- .. and what is pinned -/
structure Ext (w w' : Wd) : Prop extends Ex0 w w' where
  P : ∀ a, w.P a → w'.P a
  HP : ∀ a, w.P a → w'.H a = w.H a
theorem Ext.refl (w : Wd) : Ext w w := ⟨⟨fun _ _ h => h, fun _ h => h, fun _ _ => rfl⟩, fun _ h => h, fun _ _ => rfl⟩
theorem Ext.trans {a b c : Wd} (h : Ext a b) (k : Ext b c) : Ext a c := ⟨⟨fun n x e => k.A n x (h.A n x e), fun x e => k.Z x (h.Z x e), fun x e => (k.H x (h.Z x e)).trans (h.H x e)⟩, fun x e => k.P x (h.P x e), fun x e => (k.HP x (h.P x e)).trans (h.HP x e)⟩
theorem Ex0.rd {w w' : Wd} (e : Ex0 w w') {a : Addr} {u : HO} (z : w.Z a) (h : Rd w.H a u) : Rd w'.H a u := by
  unfold Rd at h ⊢
  rw [e.H a z]
  exact h
theorem LAt.ex0 {K : Frag} {w w' : Wd} (e : Ex0 w w') {a : Addr} {xs : List V} (h : LAt K w a xs) : LAt K w' a xs := h.elim (fun h => .inl ⟨e.Z a h.1, e.rd h.1 h.2⟩) .inr
theorem TAt.ex0 {K : Frag} {w w' : Wd} (e : Ex0 w w') {a : Addr} {xs : List V} (h : TAt K w a xs) : TAt K w' a xs := ⟨e.Z a h.1, (e.H a h.1).trans h.2⟩
theorem LAt.ext {K : Frag} {w w' : Wd} (e : Ext w w') {a : Addr} {xs : List V} (h : LAt K w a xs) : LAt K w' a xs := h.ex0 e.toEx0
theorem TAt.ext {K : Frag} {w w' : Wd} (e : Ext w w') {a : Addr} {xs : List V} (h : TAt K w a xs) : TAt K w' a xs := h.ex0 e.toEx0
mutual
inductive Rep (K : Frag) (w : Wd) : V → D → Prop
  | non : Rep K w .non .non
  | bl (b : Bool) : Rep K w (.bl b) (.bl b)
  | int (i : Int) : Rep K w (.int i) (.int i)
  | str (z : Str) : Rep K w (.str z) (.str z)
  | ty (n : String) : Rep K w (.ty n) (.ty n)
  | glo (x : Str) : Rep K w (.ref (He.ga K x)) (.glo x)
  | tup {a : Addr} {vs : List V} {ds : List D} : TAt K w a vs → Reps K w vs ds → Rep K w (.ref a) (.tup ds)
  | lst {a : Addr} {vs : List V} {ds : List D} : w.Z a → w.H a = some (.lst vs) → Reps K w vs ds → Rep K w (.ref a) (.lst ds)
  | rol {a : Addr} {vs : List V} {ds : List D} : LAt K w a vs → Reps K w vs ds → Rep K w (.ref a) (.rol ds)
  | dct {a : Addr} {o : Obj} {ks : List Key} {vs : List V} {ds : List D} : w.Z a → w.H a = some (.frz o (.dK (ks.zip vs))) → ks.length = vs.length → Reps K w vs ds → Rep K w (.ref a) (.dct (ks.zip ds))
  | ins {a dx : Addr} {C : Str} {ks : List Str} {vs : List V} {ds : List D} : w.Z a → w.H a = some (.ins (He.ga K C) dx (ks.zip vs)) → ks.length = vs.length → Reps K w vs ds → Rep K w (.ref a) (.ins C (ks.zip ds))
  | exn0 {a : Addr} {C : Str} : Rep K w (.ref a) (.exn a none C [])
  | exn {a dx : Addr} {C : Str} {ks : List Str} {vs : List V} {ds : List D} : w.Z dx → w.H dx = some (.xd (ks.zip vs)) → ks.length = vs.length → Reps K w vs ds → Rep K w (.ref a) (.exn a (some dx) C (ks.zip ds))
  | cel {n : Nat} {a : Addr} : w.A n = some a → Rep K w (.ref a) (.cel n)
  | clo {f c : Addr} {q : Str} {t : L2.St} {r : List (Option D)} : w.Z c → w.H c = some (LamX.CodeO c q) → RepE K w t r → Rep K w (.ref f) (.clo f c q t r)
  | kot {a : Addr} {vs : List V} {ds : List D} : KT K a vs → Reps K w vs ds → Rep K w (.ref a) (.kot ds)
inductive Reps (K : Frag) (w : Wd) : List V → List D → Prop
  | nil : Reps K w [] []
  | cons {v : V} {d : D} {vs : List V} {ds : List D} : Rep K w v d → Reps K w vs ds → Reps K w (v :: vs) (d :: ds)
inductive RepE (K : Frag) (w : Wd) : List (Option V) → List (Option D) → Prop
  | nil : RepE K w [] []
  | non {v : Option V} {t : List (Option V)} {r : List (Option D)} : RepE K w t r → RepE K w (v :: t) (none :: r)
  | som {v : V} {d : D} {t : List (Option V)} {r : List (Option D)} : Rep K w v d → RepE K w t r → RepE K w (some v :: t) (some d :: r)
end
mutual
theorem Rep.ex0 {K : Frag} {w w' : Wd} (e : Ex0 w w') : ∀ {v : V} {d : D}, Rep K w v d → Rep K w' v d
  | _, _, .non => .non
  | _, _, .bl b => .bl b
  | _, _, .int i => .int i
  | _, _, .str z => .str z
  | _, _, .ty n => .ty n
  | _, _, .glo x => .glo x
  | _, _, .tup h r => .tup (h.ex0 e) (r.ex0 e)
  | _, _, .lst z h r => .lst (e.Z _ z) ((e.H _ z).trans h) (r.ex0 e)
  | _, _, .rol h r => .rol (h.ex0 e) (r.ex0 e)
  | _, _, .dct z h l r => .dct (e.Z _ z) ((e.H _ z).trans h) l (r.ex0 e)
  | _, _, .ins z h l r => .ins (e.Z _ z) ((e.H _ z).trans h) l (r.ex0 e)
  | _, _, .exn0 => .exn0
  | _, _, .exn z h l r => .exn (e.Z _ z) ((e.H _ z).trans h) l (r.ex0 e)
  | _, _, .cel h => .cel (e.A _ _ h)
  | _, _, .clo z h r => .clo (e.Z _ z) ((e.H _ z).trans h) (r.ex0 e)
  | _, _, .kot h r => .kot h (r.ex0 e)
theorem Reps.ex0 {K : Frag} {w w' : Wd} (e : Ex0 w w') : ∀ {vs : List V} {ds : List D}, Reps K w vs ds → Reps K w' vs ds
  | _, _, .nil => .nil
  | _, _, .cons h r => .cons (h.ex0 e) (r.ex0 e)
theorem RepE.ex0 {K : Frag} {w w' : Wd} (e : Ex0 w w') : ∀ {t : List (Option V)} {r : List (Option D)}, RepE K w t r → RepE K w' t r
  | _, _, .nil => .nil
  | _, _, .non h => .non (h.ex0 e)
  | _, _, .som h r => .som (h.ex0 e) (r.ex0 e)
end
theorem Rep.ext {K : Frag} {w w' : Wd} (e : Ext w w') {v : V} {d : D} (h : Rep K w v d) : Rep K w' v d := h.ex0 e.toEx0
theorem Reps.ext {K : Frag} {w w' : Wd} (e : Ext w w') {v : List V} {d : List D} (h : Reps K w v d) : Reps K w' v d := h.ex0 e.toEx0
theorem Reps.length {K : Frag} {w : Wd} : ∀ {vs : List V} {ds : List D}, Reps K w vs ds → vs.length = ds.length
  | _, _, .nil => rfl
  | _, _, .cons _ r => congrArg (· + 1) r.length
theorem Reps.get {K : Frag} {w : Wd} : ∀ {vs : List V} {ds : List D} {i : Nat} {d : D}, Reps K w vs ds → ds[i]? = some d → ∃ v, vs[i]? = some v ∧ Rep K w v d
  | _, _, _, _, .nil, h => by simp at h
  | _, _, 0, _, .cons h _, e => by
    simp at e
    subst e
    exact ⟨_, rfl, h⟩
  | _, _, i + 1, _, .cons _ r, e => by
    simp at e
    obtain ⟨v, h1, h2⟩ := r.get e
    exact ⟨v, by simpa using h1, h2⟩
theorem Reps.append {K : Frag} {w : Wd} : ∀ {vs us : List V} {ds es : List D}, Reps K w vs ds → Reps K w us es → Reps K w (vs ++ us) (ds ++ es)
  | _, _, _, _, .nil, r => r
  | _, _, _, _, .cons h t, r => .cons h (t.append r)
theorem Reps.set {K : Frag} {w : Wd} {v : V} {d : D} (r : Rep K w v d) : ∀ {vs : List V} {ds : List D} (i : Nat), Reps K w vs ds → Reps K w (vs.set i v) (ds.set i d)
  | _, _, _, .nil => .nil
  | _, _, 0, .cons _ t => .cons r t
  | _, _, i + 1, .cons h t => .cons h (t.set r i)
theorem Reps.drop {K : Frag} {w : Wd} : ∀ {vs : List V} {ds : List D} (n : Nat), Reps K w vs ds → Reps K w (vs.drop n) (ds.drop n)
  | _, _, 0, r => r
  | _, _, _ + 1, .nil => .nil
  | _, _, n + 1, .cons _ t => t.drop n
theorem Reps.take {K : Frag} {w : Wd} : ∀ {vs : List V} {ds : List D} (n : Nat), Reps K w vs ds → Reps K w (vs.take n) (ds.take n)
  | _, _, 0, _ => .nil
  | _, _, _ + 1, .nil => .nil
  | _, _, n + 1, .cons h t => .cons h (t.take n)
/-! ### pairs -/
inductive KVR (K : Frag) (w : Wd) {T : Type} : List (T × V) → List (T × D) → Prop
  | nil : KVR K w [] []
  | cons {k : T} {v : V} {d : D} {l : List (T × V)} {m : List (T × D)} : Rep K w v d → KVR K w l m → KVR K w ((k, v) :: l) ((k, d) :: m)
section
variable {K : Frag} {w w' : Wd} {T : Type}
theorem KVR.ex0 (e : Ex0 w w') : ∀ {l : List (T × V)} {m : List (T × D)}, KVR K w l m → KVR K w' l m
  | _, _, .nil => .nil
  | _, _, .cons h r => .cons (h.ex0 e) (r.ex0 e)
theorem KVR.ext (e : Ext w w') {l : List (T × V)} {m : List (T × D)} (h : KVR K w l m) : KVR K w' l m := h.ex0 e.toEx0
theorem KVR.of_zip : ∀ {ks : List T} {vs : List V} {ds : List D}, ks.length = vs.length → Reps K w vs ds → KVR K w (ks.zip vs) (ks.zip ds)
  | [], _, _, _, _ => .nil
  | k :: ks, _, _, hl, .nil => by cases hl
  | k :: ks, _, _, hl, .cons h r => .cons h (KVR.of_zip (by simpa using hl) r)
theorem KVR.to_zip : ∀ {l : List (T × V)} {m : List (T × D)}, KVR K w l m → ∃ (ks : List T) (vs : List V) (ds : List D), l = ks.zip vs ∧ m = ks.zip ds ∧ ks.length = vs.length ∧ Reps K w vs ds
  | _, _, .nil => ⟨[], [], [], rfl, rfl, rfl, .nil⟩
  | _, _, .cons (k := k) h r => by
    obtain ⟨ks, vs, ds, rfl, rfl, hl, hr⟩ := r.to_zip
    exact ⟨k :: ks, _ :: vs, _ :: ds, rfl, rfl, by simp [hl], .cons h hr⟩
theorem KVR.length : ∀ {l : List (T × V)} {m : List (T × D)}, KVR K w l m → l.length = m.length
  | _, _, .nil => rfl
  | _, _, .cons _ r => congrArg (· + 1) r.length
theorem KVR.keys : ∀ {l : List (T × V)} {m : List (T × D)}, KVR K w l m → l.map (·.1) = m.map (·.1)
  | _, _, .nil => rfl
  | _, _, .cons _ r => by simp [r.keys]
theorem KVR.vals : ∀ {l : List (T × V)} {m : List (T × D)}, KVR K w l m → Reps K w (l.map (·.2)) (m.map (·.2))
  | _, _, .nil => .nil
  | _, _, .cons h r => .cons h r.vals
theorem Rep.insK {a dx : Addr} {C : Str} {l : List (Str × V)} {m : List (Str × D)} (z : w.Z a) (h : w.H a = some (.ins (He.ga K C) dx l)) (r : KVR K w l m) : Rep K w (.ref a) (.ins C m) := by
  obtain ⟨ks, vs, ds, rfl, rfl, hl, hr⟩ := r.to_zip
  exact .ins z h hl hr
theorem Rep.dct_inv {v : V} {m : List (Key × D)} (h : Rep K w v (.dct m)) : ∃ a o l, v = .ref a ∧ w.Z a ∧ w.H a = some (.frz o (.dK l)) ∧ KVR K w l m := by
  cases h with
  | dct z h hl r => exact ⟨_, _, _, rfl, z, h, KVR.of_zip hl r⟩
theorem Rep.ins_inv {v : V} {C : Str} {m : List (Str × D)} (h : Rep K w v (.ins C m)) : ∃ a dx l, v = .ref a ∧ w.Z a ∧ w.H a = some (.ins (He.ga K C) dx l) ∧ KVR K w l m := by
  cases h with
  | ins z h hl r => exact ⟨_, _, _, rfl, z, h, KVR.of_zip hl r⟩
end
/-! ### the store, the slots -/
/-- the code object of a def of the module, its table, the name of the lambdas in it -/
def codeV (K : Frag) (x : Str) : Value := match K.lookup (He.ga K x) with
  | some ⟨_, _, .func fd, _⟩ => fd.code
  | _ => .none
def codeA (K : Frag) (x : Str) : Addr := match codeV K x with
  | .ref c => c
  | _ => 0
def tabA (K : Frag) (x : Str) : Addr := match K.lookup (codeA K x) with
  | some ⟨_, _, .fields vs, _⟩ => (match (vs[11]? : Option Value) with
    | some (.ref P) => P
    | _ => 0)
  | _ => 0
def lamQ (x : Str) : Str := x ++ ".<locals>." ++ "<lambda>"
def CtR (K : Frag) (w : Wd) (a : Addr) : Ct → Prop
  | .lst ds => ∃ vs, w.H a = some (.lst vs) ∧ Reps K w vs ds
  | .dct m => ∃ l, w.H a = some (.dK l) ∧ KVR K w l m
  | .ins C m => ∃ (dx : Addr) (l : List (Str × V)), w.H a = some (.ins (He.ga K C) dx l) ∧ KVR K w l m
  | .rod m => ∃ (o : Obj) (l : List (Key × V)), w.Z a ∧ w.H a = some (.frz o (.dK l)) ∧ KVR K w l m
  | .dtt m => ∃ l, w.H a = some (.dT l) ∧ KVR K w l m
  | .tab x => a = tabA K x ∧ ∃ ps : Array Value, w.H a = some (.tbl ps) ∧ TriplesOk ps.toList ∧ ∀ (pos : Pos) (cv : Value), codeAmong pos ps.toList = some cv → ∃ c, cv = .ref c ∧ w.Z c ∧ w.H c = some (LamX.CodeO c (lamQ x))
/-- but for read-only ones, cells are not frozen -/
def NZ (w : Wd) (a : Addr) : Ct → Prop
  | .rod _ => True
  | _ => ¬ w.Z a
theorem NZ.mono {w w' : Wd} {a : Addr} (k : w'.Z a → w.Z a) : ∀ {c : Ct}, NZ w a c → NZ w' a c
  | .lst _, h => fun z => h (k z)
  | .dct _, h => fun z => h (k z)
  | .ins _ _, h => fun z => h (k z)
  | .tab _, h => fun z => h (k z)
  | .dtt _, h => fun z => h (k z)
  | .rod _, _ => trivial
theorem NZ.of {w : Wd} {a : Addr} (h : ¬ w.Z a) : ∀ {c : Ct}, NZ w a c
  | .lst _ => h
  | .dct _ => h
  | .ins _ _ => h
  | .tab _ => h
  | .dtt _ => h
  | .rod _ => trivial
structure StR (K : Frag) (w : Wd) (s : Sto) : Prop where
  at_ : ∀ n ct, s[n]? = some (some ct) → ∃ a, w.A n = some a ∧ NZ w a ct ∧ CtR K w a ct
  np : ∀ n ct a, s[n]? = some (some ct) → w.A n = some a → ¬ w.P a
  pz : ∀ a, w.P a → ¬ w.Z a ∧ w.H a ≠ none
  inj : ∀ n m a c d, s[n]? = some (some c) → s[m]? = some (some d) → w.A n = some a → w.A m = some a → n = m
  fz : ∀ a, w.Z a → w.H a ≠ none
  new : ∀ n, s.length ≤ n → w.A n = none
  pt : ∀ a, w.P a → ∀ xs, w.H a ≠ some (.tup xs)
theorem StR.ptk {K : Frag} {w w' : Wd} {s : Sto} (st : StR K w s) (hP : ∀ a, w'.P a → w.P a) (hH : ∀ a, w'.P a → w'.H a = w.H a) : ∀ a, w'.P a → ∀ xs, w'.H a ≠ some (.tup xs) := fun a z xs q => st.pt a (hP a z) xs ((hH a z).symm.trans q)
def EnvR (K : Frag) (w : Wd) (r : En) (t : L2.St) : Prop := r.length = t.length ∧ ∀ (i : Nat) (d : D), r[i]? = some (some d) → ∃ v, t[i]? = some (some v) ∧ Rep K w v d
theorem EnvR.ex0 {K : Frag} {w w' : Wd} (e : Ex0 w w') {r : En} {t : L2.St} (h : EnvR K w r t) : EnvR K w' r t := ⟨h.1, fun i d q => let ⟨v, h1, h2⟩ := h.2 i d q; ⟨v, h1, h2.ex0 e⟩⟩
theorem EnvR.ext {K : Frag} {w w' : Wd} (e : Ext w w') {r : En} {t : L2.St} (h : EnvR K w r t) : EnvR K w' r t := h.ex0 e.toEx0
theorem EnvR.set {K : Frag} {w : Wd} {r : En} {t : L2.St} (h : EnvR K w r t) {v : V} {d : D} (q : Rep K w v d) (i : Nat) : EnvR K w (r.set i (some d)) (t.set i (some v)) := by
  refine ⟨by rw [List.length_set, List.length_set, h.1], fun j e hj => ?_⟩
  by_cases hij : i = j
  · subst hij
    by_cases hl : i < r.length
    · rw [List.getElem?_set_self hl] at hj
      cases hj
      exact ⟨v, by rw [List.getElem?_set_self (h.1 ▸ hl)], q⟩
    · rw [List.getElem?_eq_none (by rw [List.length_set]; omega)] at hj
      cases hj
  · rw [List.getElem?_set_ne hij] at hj
    obtain ⟨u, h1, h2⟩ := h.2 j e hj
    exact ⟨u, by rw [List.getElem?_set_ne hij]; exact h1, h2⟩
theorem EnvR.unset {K : Frag} {w : Wd} {r : En} {t : L2.St} (h : EnvR K w r t) (i : Nat) : EnvR K w (r.set i none) (t.set i none) := by
  refine ⟨by rw [List.length_set, List.length_set, h.1], fun j e hj => ?_⟩
  by_cases hij : i = j
  · subst hij
    by_cases hl : i < r.length
    · rw [List.getElem?_set_self hl] at hj
      cases hj
    · rw [List.getElem?_eq_none (by rw [List.length_set]; omega)] at hj
      cases hj
  · rw [List.getElem?_set_ne hij] at hj
    obtain ⟨u, h1, h2⟩ := h.2 j e hj
    exact ⟨u, by rw [List.getElem?_set_ne hij]; exact h1, h2⟩
/-! ### worlds that go on -/
/-- a new object, frozen at once -/
def Wd.frz (w : Wd) (p : Addr) (o : HO) : Wd := ⟨w.A, fun a => w.Z a ∨ a = p, w.P, upd w.H p o⟩
theorem Wd.frz_ext {K : Frag} {w : Wd} {s : Sto} (st : StR K w s) {p : Addr} {o : HO} (h : w.H p = none) : Ext w (w.frz p o) :=
  ⟨⟨fun _ _ h => h, fun _ h => .inl h, fun a z => upd_ne fun e => st.fz a z (e ▸ h)⟩, fun _ h => h, fun a z => upd_ne fun e => (st.pz a z).2 (e ▸ h)⟩
theorem CtR.sam0 {K : Frag} {w w' : Wd} (e : Ex0 w w') {a : Addr} (h : w'.H a = w.H a) : ∀ {c : Ct}, CtR K w a c → CtR K w' a c
  | .lst _, ⟨vs, h1, h2⟩ => ⟨vs, h.trans h1, h2.ex0 e⟩
  | .dct _, ⟨l, h1, h2⟩ => ⟨l, h.trans h1, h2.ex0 e⟩
  | .ins _ _, ⟨dx, l, h1, h2⟩ => ⟨dx, l, h.trans h1, h2.ex0 e⟩
  | .rod _, ⟨o, l, z, h1, h2⟩ => ⟨o, l, e.Z _ z, h.trans h1, h2.ex0 e⟩
  | .dtt _, ⟨l, h1, h2⟩ => ⟨l, h.trans h1, h2.ex0 e⟩
  | .tab _, ⟨e0, ps, h1, h2, h3⟩ => ⟨e0, ps, h.trans h1, h2, fun pos cv hc => let ⟨c, c1, c2, c3⟩ := h3 pos cv hc; ⟨c, c1, e.Z _ c2, (e.H _ c2).trans c3⟩⟩
theorem CtR.same {K : Frag} {w w' : Wd} (e : Ext w w') {a : Addr} (h : w'.H a = w.H a) {c : Ct} (q : CtR K w a c) : CtR K w' a c := q.sam0 e.toEx0 h
theorem CtR.some {K : Frag} {w : Wd} {a : Addr} : ∀ {c : Ct}, CtR K w a c → ∃ o, w.H a = some o ∧ True
  | .lst _, ⟨_, h, _⟩ => ⟨_, h, trivial⟩
  | .dct _, ⟨_, h, _⟩ => ⟨_, h, trivial⟩
  | .ins _ _, ⟨_, _, h, _⟩ => ⟨_, h, trivial⟩
  | .rod _, ⟨_, _, _, h, _⟩ => ⟨_, h, trivial⟩
  | .dtt _, ⟨_, h, _⟩ => ⟨_, h, trivial⟩
  | .tab _, ⟨_, _, h, _⟩ => ⟨_, h, trivial⟩
theorem Wd.frz_st {K : Frag} {w : Wd} {s : Sto} (st : StR K w s) {p : Addr} {o : HO} (h : w.H p = none) : StR K (w.frz p o) s := by
  have e := Wd.frz_ext st (o := o) h
  refine ⟨fun n ct q => ?_, st.np, fun a z => ?_, st.inj, fun a z => ?_, st.new, st.ptk (fun _ h => h) e.HP⟩
  · obtain ⟨a, h1, h2, h3⟩ := st.at_ n ct q
    obtain ⟨ob, ho, _⟩ := h3.some
    have ne : a ≠ p := ne_of_none ho h
    exact ⟨a, h1, h2.mono (w' := w.frz p o) fun (z : w.Z a ∨ a = p) => Or.elim z id fun q => absurd q ne, h3.same e (upd_ne ne)⟩
  · have ne : a ≠ p := fun q => (st.pz a z).2 (q ▸ h)
    exact ⟨fun q => q.elim (st.pz a z).1 ne, by rw [show (w.frz p o).H a = w.H a from upd_ne ne]; exact (st.pz a z).2⟩
  · by_cases hp : a = p
    · show upd w.H p o a ≠ none
      rw [hp, upd_same]
      exact fun z => nomatch z
    · show upd w.H p o a ≠ none
      rw [upd_ne hp]
      exact st.fz a (z.elim id fun z => absurd z hp)
theorem Wd.frz_z {w : Wd} {p : Addr} {o : HO} : (w.frz p o).Z p := .inr rfl
theorem Wd.frz_h {w : Wd} {p : Addr} {o : HO} : (w.frz p o).H p = some o := upd_same
/-- a new object that is nobody's (an own dict) -/
def Wd.put (w : Wd) (p : Addr) (o : HO) : Wd := ⟨w.A, w.Z, w.P, upd w.H p o⟩
theorem Wd.put_ext {K : Frag} {w : Wd} {s : Sto} (st : StR K w s) {p : Addr} {o : HO} (h : w.H p = none) : Ext w (w.put p o) :=
  ⟨⟨fun _ _ h => h, fun _ h => h, fun a z => upd_ne fun e => st.fz a z (e ▸ h)⟩, fun _ h => h, fun a z => upd_ne fun e => (st.pz a z).2 (e ▸ h)⟩
theorem Wd.put_st {K : Frag} {w : Wd} {s : Sto} (st : StR K w s) {p : Addr} {o : HO} (h : w.H p = none) : StR K (w.put p o) s := by
  have e := Wd.put_ext st (o := o) h
  refine ⟨fun n ct q => ?_, st.np, fun a z => ?_, st.inj, fun a z => ?_, st.new, st.ptk (fun _ h => h) e.HP⟩
  · obtain ⟨a, h1, h2, h3⟩ := st.at_ n ct q
    obtain ⟨ob, ho, _⟩ := h3.some
    have ne : a ≠ p := ne_of_none ho h
    exact ⟨a, h1, h2, h3.same e (upd_ne ne)⟩
  · have ne : a ≠ p := fun q => (st.pz a z).2 (q ▸ h)
    exact ⟨(st.pz a z).1, by rw [show (w.put p o).H a = w.H a from upd_ne ne]; exact (st.pz a z).2⟩
  · show upd w.H p o a ≠ none
    by_cases hp : a = p
    · rw [hp, upd_same]
      exact fun z => nomatch z
    · rw [upd_ne hp]
      exact st.fz a z
/-- a cell's object is changed -/
theorem Wd.mut_ext {w : Wd} {a : Addr} {o : HO} (h : ¬ w.Z a) (hP : ¬ w.P a) : Ext w (w.put a o) :=
  ⟨⟨fun _ _ h => h, fun _ h => h, fun b z => upd_ne fun e => h (e ▸ z)⟩, fun _ h => h, fun b z => upd_ne fun e => hP (e ▸ z)⟩
theorem Wd.mut_st {K : Frag} {w : Wd} {s : Sto} (st : StR K w s) {n : Nat} {c c' : Ct} {a : Addr} {o : HO} (hn : s[n]? = some (some c)) (ha : w.A n = some a) (hz : ¬ w.Z a) (hc : CtR K (w.put a o) a c') : StR K (w.put a o) (s.set n (some c')) := by
  obtain ⟨a', h1, h2, h3⟩ := st.at_ n c hn
  have ea : a' = a := Option.some.inj (h1.symm.trans ha)
  subst ea
  have hl : n < s.length := (List.getElem?_eq_some_iff.mp hn).1
  have hP := st.np n c a' hn ha
  have e : Ext w (w.put a' o) := Wd.mut_ext hz hP
  have back : ∀ m d, (s.set n (some c'))[m]? = some (some d) → ∃ d', s[m]? = some (some d') := fun m d q => by
    by_cases hm : n = m
    · subst hm
      exact ⟨c, hn⟩
    · rw [List.getElem?_set_ne hm] at q
      exact ⟨d, q⟩
  refine ⟨fun m ct q => ?_, fun m ct b q hb => (back m ct q).elim fun d' q' => st.np m d' b q' hb, fun b z => ⟨(st.pz b z).1, ?_⟩, fun m k b x y qm qk => ?_, fun b z => ?_, fun m hm => st.new m (by rw [List.length_set] at hm; exact hm), st.ptk (fun _ h => h) e.HP⟩
  · by_cases hm : n = m
    · subst hm
      rw [List.getElem?_set_self hl] at q
      cases q
      exact ⟨a', ha, NZ.of hz, hc⟩
    · rw [List.getElem?_set_ne hm] at q
      obtain ⟨b, k1, k2, k3⟩ := st.at_ m ct q
      have ne : b ≠ a' := fun z => hm (st.inj n m a' c ct hn q ha (z ▸ k1))
      exact ⟨b, k1, k2, k3.same e (upd_ne ne)⟩
  · rw [show (w.put a' o).H b = w.H b from upd_ne fun q => hP (q ▸ z)]
    exact (st.pz b z).2
  · obtain ⟨x', qx⟩ := back m x qm
    obtain ⟨y', qy⟩ := back k y qk
    exact st.inj m k b x' y' qx qy
  · show upd w.H a' o b ≠ none
    by_cases hb : b = a'
    · rw [hb, upd_same]
      exact fun z => nomatch z
    · rw [upd_ne hb]
      exact st.fz b z
/-- a new cell -/
def Wd.cell (w : Wd) (n : Nat) (p : Addr) (o : HO) : Wd := ⟨fun m => if m = n then some p else w.A m, w.Z, w.P, upd w.H p o⟩
theorem Wd.cell_ext {K : Frag} {w : Wd} {s : Sto} (st : StR K w s) {p : Addr} {o : HO} (h : w.H p = none) : Ext w (w.cell s.length p o) :=
  ⟨⟨fun m a q => by
    have ne : ¬ m = s.length := fun z => by
      rw [st.new m (by omega)] at q
      exact nomatch q
    show (if m = s.length then some p else w.A m) = some a
    rw [if_neg ne]
    exact q, fun _ h => h, fun a z => upd_ne fun e => st.fz a z (e ▸ h)⟩, fun _ h => h, fun a z => upd_ne fun e => (st.pz a z).2 (e ▸ h)⟩
theorem Wd.cell_st {K : Frag} {w : Wd} {s : Sto} (st : StR K w s) {p : Addr} {o : HO} {c : Ct} (h : w.H p = none) (hc : CtR K (w.cell s.length p o) p c) : StR K (w.cell s.length p o) (s ++ [some c]) := by
  have e := Wd.cell_ext st (o := o) h
  have old : ∀ m ct, m < s.length → s[m]? = some (some ct) → ∃ a, w.A m = some a ∧ NZ w a ct ∧ CtR K w a ct ∧ a ≠ p := fun m ct _ q => by
    obtain ⟨a, h1, h2, h3⟩ := st.at_ m ct q
    obtain ⟨ob, ho, _⟩ := h3.some
    exact ⟨a, h1, h2, h3, ne_of_none ho h⟩
  have at' : ∀ m ct, (s ++ [some c])[m]? = some (some ct) → (m < s.length ∧ s[m]? = some (some ct)) ∨ (m = s.length ∧ ct = c) := fun m ct q => by
    by_cases hm : m < s.length
    · rw [List.getElem?_append_left hm] at q
      exact .inl ⟨hm, q⟩
    · rw [List.getElem?_append_right (by omega)] at q
      by_cases h0 : m - s.length = 0
      · rw [h0] at q
        exact .inr ⟨by omega, by simpa using q.symm⟩
      · rw [List.getElem?_eq_none (by simp; omega)] at q
        cases q
  have nz : ¬ w.Z p := fun z => st.fz p z h
  have AtN : (w.cell s.length p o).A s.length = some p := if_pos rfl
  have AtO : ∀ m, m < s.length → (w.cell s.length p o).A m = w.A m := fun m hm => if_neg (by omega)
  refine ⟨fun m ct q => ?_, fun m ct b q hb => ?_, fun b z => ⟨(st.pz b z).1, ?_⟩, fun m k b x y qm qk hm hk => ?_, fun b z => ?_, fun m hm => ?_, st.ptk (fun _ h => h) e.HP⟩
  · rcases at' m ct q with ⟨hm, q⟩ | ⟨rfl, rfl⟩
    · obtain ⟨a, h1, h2, h3, ne⟩ := old m ct hm q
      exact ⟨a, (AtO m hm).trans h1, h2, h3.same e (upd_ne ne)⟩
    · exact ⟨p, AtN, NZ.of nz, hc⟩
  · rcases at' m ct q with ⟨lm, q'⟩ | ⟨rfl, rfl⟩
    · rw [AtO m lm] at hb
      exact st.np m ct b q' hb
    · rw [AtN] at hb
      cases hb
      exact fun z => (st.pz p z).2 h
  · rw [show (w.cell s.length p o).H b = w.H b from upd_ne fun q => (st.pz b z).2 (q ▸ h)]
    exact (st.pz b z).2
  · rcases at' m x qm with ⟨lm, qm'⟩ | ⟨rfl, rfl⟩
    · rcases at' k y qk with ⟨lk, qk'⟩ | ⟨rfl, rfl⟩
      · rw [AtO m lm] at hm
        rw [AtO k lk] at hk
        exact st.inj m k b x y qm' qk' hm hk
      · obtain ⟨a, h1, _, _, ne⟩ := old m x lm qm'
        rw [AtO m lm, h1] at hm
        rw [AtN] at hk
        exact absurd ((Option.some.inj hm).trans (Option.some.inj hk).symm) ne
    · rcases at' k y qk with ⟨lk, qk'⟩ | ⟨rfl, rfl⟩
      · obtain ⟨a, h1, _, _, ne⟩ := old k y lk qk'
        rw [AtO k lk, h1] at hk
        rw [AtN] at hm
        exact absurd ((Option.some.inj hk).trans (Option.some.inj hm).symm) ne
      · rfl
  · show upd w.H p o b ≠ none
    by_cases hb : b = p
    · rw [hb, upd_same]
      exact fun z => nomatch z
    · rw [upd_ne hb]
      exact st.fz b z
  · have hm' : s.length + 1 ≤ m := by
      rw [List.length_append] at hm
      exact hm
    show (if m = s.length then some p else w.A m) = none
    rw [if_neg (by omega)]
    exact st.new m (by omega)
/-- a cell is frozen -/
def Wd.ice (w : Wd) (a : Addr) : Wd := ⟨w.A, fun b => w.Z b ∨ b = a, w.P, w.H⟩
theorem Wd.ice_ext {w : Wd} {a : Addr} : Ext w (w.ice a) := ⟨⟨fun _ _ h => h, fun _ h => .inl h, fun _ _ => rfl⟩, fun _ h => h, fun _ _ => rfl⟩
theorem Wd.ice_st {K : Frag} {w : Wd} {s : Sto} (st : StR K w s) {n : Nat} {c : Ct} {a : Addr} (hn : s[n]? = some (some c)) (ha : w.A n = some a) : StR K (w.ice a) (s.set n none) := by
  obtain ⟨a', h1, h2, h3⟩ := st.at_ n c hn
  have ea : a' = a := Option.some.inj (h1.symm.trans ha)
  subst ea
  have hl : n < s.length := (List.getElem?_eq_some_iff.mp hn).1
  have back : ∀ m d, (s.set n none)[m]? = some (some d) → m ≠ n ∧ s[m]? = some (some d) := fun m d q => by
    by_cases hm : n = m
    · subst hm
      rw [List.getElem?_set_self hl] at q
      cases q
    · rw [List.getElem?_set_ne hm] at q
      exact ⟨fun z => hm z.symm, q⟩
  refine ⟨fun m ct q => ?_, fun m ct b q => st.np m ct b (back m ct q).2, fun b z => ⟨fun q => q.elim (st.pz b z).1 fun e => st.np n c a' hn ha (e ▸ z), (st.pz b z).2⟩, fun m k b x y qm qk => st.inj m k b x y (back m x qm).2 (back k y qk).2, fun b z => ?_, fun m hm => st.new m (by rw [List.length_set] at hm; exact hm), st.ptk (fun _ h => h) (fun _ _ => rfl)⟩
  · obtain ⟨hm, q⟩ := back m ct q
    obtain ⟨b, k1, k2, k3⟩ := st.at_ m ct q
    have ne : b ≠ a' := fun z => hm (st.inj m n a' ct c q hn (z ▸ k1) ha)
    exact ⟨b, k1, k2.mono (w' := w.ice a') fun (z : w.Z b ∨ b = a') => Or.elim z id fun q => absurd q ne, k3.same Wd.ice_ext rfl⟩
  · rcases z with z | z
    · exact st.fz b z
    · obtain ⟨ob, ho, _⟩ := h3.some
      show w.H b ≠ none
      rw [z, ho]
      exact fun z => nomatch z
/-- a cell is locked: read by everybody, written by nobody -/
def Wd.lock (w : Wd) (a : Addr) (o : HO) : Wd := ⟨w.A, fun b => w.Z b ∨ b = a, w.P, upd w.H a o⟩
theorem Wd.lock_ext {w : Wd} {a : Addr} {o : HO} (h : ¬ w.Z a) (hP : ¬ w.P a) : Ext w (w.lock a o) :=
  ⟨⟨fun _ _ h => h, fun _ h => .inl h, fun b z => upd_ne fun e => h (e ▸ z)⟩, fun _ h => h, fun b z => upd_ne fun e => hP (e ▸ z)⟩
theorem Wd.lock_st {K : Frag} {w : Wd} {s : Sto} (st : StR K w s) {n : Nat} {c : Ct} {m : List (Key × D)} {a : Addr} {o : HO} (hn : s[n]? = some (some c)) (ha : w.A n = some a) (hz : ¬ w.Z a) (hc : CtR K (w.lock a o) a (.rod m)) : StR K (w.lock a o) (s.set n (some (.rod m))) := by
  have hl : n < s.length := (List.getElem?_eq_some_iff.mp hn).1
  have hP := st.np n c a hn ha
  have e : Ext w (w.lock a o) := Wd.lock_ext hz hP
  have back : ∀ m' d, (s.set n (some (.rod m)))[m']? = some (some d) → ∃ d', s[m']? = some (some d') := fun m' d q => by
    by_cases hm : n = m'
    · subst hm
      exact ⟨c, hn⟩
    · rw [List.getElem?_set_ne hm] at q
      exact ⟨d, q⟩
  refine ⟨fun m' ct q => ?_, fun m' ct b q hb => (back m' ct q).elim fun d' q' => st.np m' d' b q' hb, fun b z => ⟨fun q => Or.elim q (st.pz b z).1 fun e => hP (e ▸ z), ?_⟩, fun m' k b x y qm qk => ?_, fun b z => ?_, fun m' hm => st.new m' (by rw [List.length_set] at hm; exact hm), st.ptk (fun _ h => h) e.HP⟩
  · by_cases hm : n = m'
    · subst hm
      rw [List.getElem?_set_self hl] at q
      cases q
      exact ⟨a, ha, trivial, hc⟩
    · rw [List.getElem?_set_ne hm] at q
      obtain ⟨b, k1, k2, k3⟩ := st.at_ m' ct q
      have ne : b ≠ a := fun z => hm (st.inj n m' a c ct hn q ha (z ▸ k1))
      exact ⟨b, k1, k2.mono (w' := w.lock a o) fun (z : w.Z b ∨ b = a) => Or.elim z id fun q => absurd q ne, k3.same e (upd_ne ne)⟩
  · rw [show (w.lock a o).H b = w.H b from upd_ne fun q => hP (q ▸ z)]
    exact (st.pz b z).2
  · obtain ⟨x', qx⟩ := back m' x qm
    obtain ⟨y', qy⟩ := back k y qk
    exact st.inj m' k b x' y' qx qy
  · show upd w.H a o b ≠ none
    by_cases hb : b = a
    · rw [hb, upd_same]
      exact fun z => nomatch z
    · rw [upd_ne hb]
      exact st.fz b (Or.elim z id fun q => absurd q hb)
/-! ### what is wanted behind -/
/-- an exception's own dict: its fields -/
def ExR (K : Frag) (w : Wd) : Option Addr → List (Str × D) → Prop
  | none, fs => fs = []
  | some a, fs => w.Z a ∧ ∃ l, w.H a = some (.xd l) ∧ KVR K w l fs
theorem Rep.exnK {K : Frag} {w : Wd} {a : Addr} {C : Str} : ∀ {d : Option Addr} {fs : List (Str × D)}, ExR K w d fs → Rep K w (.ref a) (.exn a d C fs)
  | none, _, h => by
    cases h
    exact .exn0
  | some dx, fs, ⟨z, l, h, r⟩ => by
    obtain ⟨ks, vs, ds, rfl, rfl, hl, hr⟩ := r.to_zip
    exact .exn z h hl hr
theorem Rep.exn_inv {K : Frag} {w : Wd} {v : V} {a : Addr} {C : Str} {d : Option Addr} {fs : List (Str × D)} (h : Rep K w v (.exn a d C fs)) : v = .ref a ∧ ExR K w d fs := by
  cases h with
  | exn0 => exact ⟨rfl, rfl⟩
  | exn z h hl r => exact ⟨rfl, z, _, h, KVR.of_zip hl r⟩
def Post {T U : Type} (K : Frag) (R : Wd → U → T → Prop) (w : Wd) (E : XK) (Q : U → Hp → Prop) : Res T → Prop
  | .ok a s' => ∀ x w', Ext w w' → StR K w' s' → R w' x a → Q x w'.H
  | .exc C fs s' => ∀ ed w', Ext w w' → StR K w' s' → ExR K w' ed fs → E (.ref (He.ga K C)) ed w'.H
  | .bad => False
theorem Post.ext {T U : Type} {K : Frag} {R : Wd → U → T → Prop} {w w1 : Wd} {E : XK} {Q : U → Hp → Prop} (e : Ext w w1) : ∀ {r : Res T}, Post K R w E Q r → Post K R w1 E Q r
  | .ok _ _, h => fun x w' e' => h x w' (e.trans e')
  | .exc _ _ _, h => fun x w' e' => h x w' (e.trans e')
  | .bad, h => h
def tM {T U : Type} (K : Frag) (R : Wd → U → T → Prop) (W : WX) (m : DM T) : L2.St → Hp → (U → Hp → Prop) → Prop := fun t H Q =>
  ∃ r s w, w.H = H ∧ EnvR K w r t ∧ StR K w s ∧ Post K R w (fun c d H' => W c d t H') Q (m r s)
abbrev tE (K : Frag) (W : WX) (m : DE) : TE := tM K (Rep K) W m
abbrev tT (K : Frag) (W : WX) (m : DM Bool) : TT := tM K (fun _ (b c : Bool) => b = c) W m
abbrev tA (K : Frag) (W : WX) (m : DM (List D)) : TA := tM K (Reps K) W m
theorem Post.bind {T T' U U' : Type} {K : Frag} {R : Wd → U → T → Prop} {R' : Wd → U' → T' → Prop} {w : Wd} {r : En} {t : L2.St} {s : Sto} {W : WX} {Q : U' → Hp → Prop} {P : U → Hp → Prop} {m : DM T} {f : T → DM T'}
    (hp : Post K R' w (fun c d H' => W c d t H') Q (bindM m f r s)) (env : EnvR K w r t) (st : StR K w s)
    (k : ∀ x a s1 w1, Ext w w1 → StR K w1 s1 → R w1 x a → Post K R' w1 (fun c d H' => W c d t H') Q (f a r s1) → P x w1.H) : tM K R W m t w.H P := by
  refine ⟨r, s, w, rfl, env, st, ?_⟩
  unfold bindM at hp
  cases e : m r s with
  | ok a s1 =>
    rw [e] at hp
    exact fun x w1 e1 st1 r1 => k x a s1 w1 e1 st1 r1 (Post.ext e1 hp)
  | exc C fs s1 =>
    rw [e] at hp
    exact hp
  | bad =>
    rw [e] at hp
    exact hp
theorem Post.pure {T U : Type} {K : Frag} {R : Wd → U → T → Prop} {w : Wd} {E : XK} {Q : U → Hp → Prop} {a : T} {s : Sto} {x : U} (hp : Post K R w E Q (.ok a s)) (st : StR K w s) (h : R w x a) : Q x w.H := hp x w (Ext.refl w) st h
section
variable {X : Cx} {e : Expr} {es : List Expr}
theorem PE.imp {t t' : TE} (h : PE X e t) (i : ∀ σ H Q, t' σ H Q → t σ H Q) : PE X e t' := ⟨fun pins s σ H Q I q => h.run pins s σ H Q I (i _ _ _ q)⟩
theorem PT.imp {t t' : TT} (h : PT X e t) (i : ∀ σ H Q, t' σ H Q → t σ H Q) : PT X e t' := ⟨fun pins s σ H Q I q => h.run pins s σ H Q I (i _ _ _ q)⟩
theorem PA.imp {t t' : TA} (h : PA X es t) (i : ∀ σ H Q, t' σ H Q → t σ H Q) : PA X es t' := ⟨fun pos pins s σ H Q I q => h.run pos pins s σ H Q I (i _ _ _ q)⟩
theorem PS.imp {st : Stmt} {t t' : TS} (h : PS X st t) (i : ∀ D σ H, t' D σ H → t D σ H) : PS X st t' := ⟨fun pins s σ H D I q => h.run pins s σ H D I (i _ _ _ q)⟩
theorem PSs.imp {st : List Stmt} {t t' : TS} (h : PSs X st t) (i : ∀ D σ H, t' D σ H → t D σ H) : PSs X st t' := ⟨fun pins s σ H D I q => h.run pins s σ H D I (i _ _ _ q)⟩
theorem OpR.or {f : Value → Value → Sem Value} {r1 r2 : R2} (h1 : OpR X f r1) (h2 : OpR X f r2) : OpR X f (fun x y H Q => r1 x y H Q ∨ r2 x y H Q) := fun pins s σ H x y v u Q I rx ry h =>
  h.elim (h1 pins s σ H x y v u Q I rx ry) (h2 pins s σ H x y v u Q I rx ry)
theorem CallR.or {f : Value} {r1 r2 : List V → Hp → VK → Prop} (h1 : CallR X f r1) (h2 : CallR X f r2) : CallR X f (fun x H Q => r1 x H Q ∨ r2 x H Q) := fun pins s σ H x v Q I rx h =>
  h.elim (h1 pins s σ H x v Q I rx) (h2 pins s σ H x v Q I rx)
theorem PE.or {t1 t2 : TE} (h1 : PE X e t1) (h2 : PE X e t2) : PE X e (fun σ H Q => t1 σ H Q ∨ t2 σ H Q) := ⟨fun pins s σ H Q I q => q.elim (h1.run pins s σ H Q I) (h2.run pins s σ H Q I)⟩
end
/-! ### statements -/
def PostS (K : Frag) (w : Wd) (W : WX) (E : Ends) : Fl → Prop
  | .nx r' s' => ∀ t' w', Ext w w' → EnvR K w' r' t' → StR K w' s' → E.nx t' w'.H
  | .rt d s' => ∀ v w', Ext w w' → StR K w' s' → Rep K w' v d → E.rt v w'.H
  | .bk r' s' => ∀ t' w', Ext w w' → EnvR K w' r' t' → StR K w' s' → E.bk t' w'.H
  | .ct r' s' => ∀ t' w', Ext w w' → EnvR K w' r' t' → StR K w' s' → E.ct t' w'.H
  | .exc C fs r' s' => ∀ t' ed w', Ext w w' → EnvR K w' r' t' → StR K w' s' → ExR K w' ed fs → W (.ref (He.ga K C)) ed t' w'.H
  | .bad => False
theorem PostS.ext {K : Frag} {w w1 : Wd} {W : WX} {E : Ends} (e : Ext w w1) : ∀ {r : Fl}, PostS K w W E r → PostS K w1 W E r
  | .nx _ _, h => fun x w' e' => h x w' (e.trans e')
  | .rt _ _, h => fun x w' e' => h x w' (e.trans e')
  | .bk _ _, h => fun x w' e' => h x w' (e.trans e')
  | .ct _ _, h => fun x w' e' => h x w' (e.trans e')
  | .exc _ _ _ _, h => fun x y w' e' => h x y w' (e.trans e')
  | .bad, h => h
def tS (K : Frag) (W : WX) (m : DS) : TS := fun E t H => ∃ r s w, w.H = H ∧ EnvR K w r t ∧ StR K w s ∧ PostS K w W E (m r s)
/-- a statement that goes on with what an expression gives -/
def thenS {T : Type} (m : DM T) (f : T → DS) : DS := fun r s => match m r s with
  | .ok a s' => f a r s'
  | .exc C fs s' => .exc C fs r s'
  | .bad => .bad
theorem PostS.bind {T U : Type} {K : Frag} {R : Wd → U → T → Prop} {w : Wd} {r : En} {t : L2.St} {s : Sto} {W : WX} {E : Ends} {P : U → Hp → Prop} {m : DM T} {f : T → DS}
    (hp : PostS K w W E (thenS m f r s)) (env : EnvR K w r t) (st : StR K w s)
    (k : ∀ x a s1 w1, Ext w w1 → StR K w1 s1 → R w1 x a → PostS K w1 W E (f a r s1) → P x w1.H) : tM K R W m t w.H P := by
  refine ⟨r, s, w, rfl, env, st, ?_⟩
  unfold thenS at hp
  cases e : m r s with
  | ok a s1 =>
    rw [e] at hp
    exact fun x w1 e1 st1 r1 => k x a s1 w1 e1 st1 r1 (PostS.ext e1 hp)
  | exc C fs s1 =>
    rw [e] at hp
    exact fun ed w1 e1 st1 x1 => hp t ed w1 e1 (env.ext e1) st1 x1
  | bad =>
    rw [e] at hp
    exact hp
end Mp
set_option Elab.async false
set_option linter.all false
set_option maxRecDepth 100000
set_option maxHeartbeats 4000000
/-! Mp: expressions without own objects. -/
namespace Mp
open PySem PySem.Spec PyProof.Rows L2
/-! ### on data -/
def vM (i : Nat) : DE := fun r s => match r[i]? with
  | some (some d) => .ok d s
  | _ => .bad
def cM (d : D) : DE := fun _ s => .ok d s
def binM (f : D → D → Sto → Res D) (a b : DE) : DE := bindM a fun x => bindM b fun y => fun _ s => f x y s
def unM (f : D → Sto → Res D) (a : DE) : DE := bindM a fun x => fun _ s => f x s
/-- a list of one's own: frozen, a cell's -/
def lstX (s : Sto) : D → Option (List D)
  | .lst l => some l
  | .cel n => (match s[n]? with
    | some (some (.lst l)) => some l
    | _ => none)
  | _ => none
/-- a list that is read -/
def lstOf (s : Sto) : D → Option (List D)
  | .rol l => some l
  | x => lstX s x
def dctOf (s : Sto) : D → Option (List (Key × D))
  | .dct l => some l
  | .cel n => (match s[n]? with
    | some (some (.dct l)) => some l
    | some (some (.rod l)) => some l
    | _ => none)
  | _ => none
def insOf (s : Sto) : D → Option (Str × List (Str × D))
  | .ins C l => some (C, l)
  | .cel n => (match s[n]? with
    | some (some (.ins C l)) => some (C, l)
    | _ => none)
  | _ => none
def addD (x y : D) (s : Sto) : Res D := match x with
  | .int i => (match y with
    | .int j => .ok (.int (i + j)) s
    | _ => .bad)
  | .str i => (match y with
    | .str j => if i.length + j.length ≤ sizeLine then .ok (.str (i ++ j)) s else .bad
    | _ => .bad)
  | .tup i => (match y with
    | .tup j => if i.length + j.length ≤ sizeLine then .ok (.tup (i ++ j)) s else .bad
    | _ => .bad)
  | x => (match lstX s x with
    | some i => (match lstX s y with
      | some j => if i.length + j.length ≤ sizeLine then .ok (.lst (i ++ j)) s else .bad
      | none => .bad)
    | none => .bad)
def subD (x y : D) (s : Sto) : Res D := match x with
  | .int i => (match y with
    | .int j => .ok (.int (i - j)) s
    | _ => .bad)
  | _ => .bad
def mulC (i j : Int) : Bool := decide (i.natAbs.log2 + j.natAbs.log2 < 1000000)
@[irreducible] def mulD (x y : D) (s : Sto) : Res D := match x with
  | .int i => (match y with
    | .int j => if mulC i j = true then .ok (.int (i * j)) s else .bad
    | _ => .bad)
  | x => (match lstX s x with
    | none => .bad
    | some l => match y with
    | .int k => if 0 ≤ k ∧ k < 2 ^ 62 ∧ l.length * k.toNat ≤ sizeLine then .ok (.lst (List.replicate k.toNat l).flatten) s else .bad
    | _ => .bad)
@[irreducible] def divD (x y : D) (s : Sto) : Res D := match x with
  | .int i => (match y with
    | .int j => if 0 < j ∧ j.natAbs.log2 < 9000 then .ok (.int (i / j)) s else if j < 0 ∧ j.natAbs.log2 < 9000 then .ok (.int (i.fdiv j)) s else .bad
    | _ => .bad)
  | _ => .bad
def modD (x y : D) (s : Sto) : Res D := match x with
  | .int i => (match y with
    | .int j => if 0 < j then .ok (.int (i % j)) s else if j < 0 then .ok (.int (i.fmod j)) s else .bad
    | _ => .bad)
  | _ => .bad
@[irreducible] def powD (x y : D) (s : Sto) : Res D := match x with
  | .int i => (match y with
    | .int j => if 0 ≤ j ∧ j ≤ 1000000 ∧ i.natAbs < 2 ^ 64 then .ok (.int (i ^ j.toNat)) s else .bad
    | _ => .bad)
  | _ => .bad
def negD (x : D) (s : Sto) : Res D := match x with
  | .int i => .ok (.int (-i)) s
  | _ => .bad
/-- truth -/
def truD (s : Sto) : D → Option Bool
  | .non => some false
  | .bl b => some b
  | .int i => some (i != 0)
  | .str z => if z.length ≤ sizeLine then some ((z.length : Int) != 0) else none
  | .tup l => some (!l.isEmpty)
  | x => (lstOf s x).map fun l => !l.isEmpty
def truM (a : DE) : DM Bool := bindM a fun x => fun _ s => match truD s x with
  | some b => .ok b s
  | none => .bad
def notV (a : DE) : DE := bindM (truM a) fun b => pureM (.bl (!b))
def andV (a b : DE) : DE := bindM a fun x => bindM (truM (cM x)) fun k => if k = true then b else pureM x
def orV (a b : DE) : DE := bindM a fun x => bindM (truM (cM x)) fun k => if k = true then pureM x else b
def notT (a : DM Bool) : DM Bool := bindM a fun b => pureM (!b)
def andT (a b : DM Bool) : DM Bool := bindM a fun k => if k = true then b else pureM false
def orT (a b : DM Bool) : DM Bool := bindM a fun k => if k = true then pureM true else b
def ifM (c : DM Bool) (a b : DE) : DE := bindM c fun k => if k = true then a else b
/-- a test that a value's own bool makes -/
def blM (a : DE) : DM Bool := bindM a fun x => fun _ s => match x with
  | .bl b => .ok b s
  | _ => .bad
def ltD (g : Int → Int → Bool) (h : List Nat → List Nat → Bool) (x y : D) (s : Sto) : Res D := match x with
  | .int i => (match y with
    | .int j => .ok (.bl (g i j)) s
    | _ => .bad)
  | .str i => (match y with
    | .str j => .ok (.bl (h i.cps.toList j.cps.toList)) s
    | _ => .bad)
  | _ => .bad
abbrev ltI : D → D → Sto → Res D := ltD (fun i j => decide (i < j)) (fun i j => decide (i < j))
abbrev leI : D → D → Sto → Res D := ltD (fun i j => decide (i ≤ j)) (fun i j => !decide (j < i))
abbrev gtI : D → D → Sto → Res D := ltD (fun i j => decide (j < i)) (fun i j => decide (j < i))
abbrev geI : D → D → Sto → Res D := ltD (fun i j => decide (j ≤ i)) (fun i j => !decide (i < j))
def isNoneD (x y : D) (s : Sto) : Res D := match y with
  | .non => (match x with
    | .non => .ok (.bl true) s
    | _ => .ok (.bl false) s)
  | _ => .bad
def isNotNoneD (x y : D) (s : Sto) : Res D := match y with
  | .non => (match x with
    | .non => .ok (.bl false) s
    | _ => .ok (.bl true) s)
  | _ => .bad
/-! ### soundness -/
section
variable {K : Frag} {w : Wd} {s : Sto} {x : V} {d : D}
theorem lstX_ok {l : List D} (st : StR K w s) (r : Rep K w x d) (h : lstX s d = some l) : ∃ p vs, x = .ref p ∧ w.H p = some (.lst vs) ∧ Reps K w vs l := by
  cases r with
  | lst z hh rs =>
    cases h
    exact ⟨_, _, rfl, hh, rs⟩
  | @cel n a0 ha =>
    have h' : (match s[n]? with
      | some (some (.lst l)) => some l
      | _ => none) = some l := h
    cases e : s[n]? with
    | none => rw [e] at h'; cases h'
    | some o =>
      rw [e] at h'
      cases o with
      | none => cases h'
      | some c =>
        cases c with
        | lst l1 =>
          cases h'
          obtain ⟨a1, h1, _, vs, hh, rs⟩ := st.at_ n _ e
          have ea : a1 = a0 := Option.some.inj (h1.symm.trans ha)
          subst ea
          exact ⟨_, vs, rfl, hh, rs⟩
        | _ => cases h'
  | _ => cases h
theorem lstOf_ok {l : List D} (st : StR K w s) (r : Rep K w x d) (h : lstOf s d = some l) : ∃ p vs, x = .ref p ∧ SqL K w.H p vs ∧ Reps K w vs l := by
  have key : lstX s d = some l → ∃ p vs, x = .ref p ∧ SqL K w.H p vs ∧ Reps K w vs l := fun h => by
    obtain ⟨p, vs, h1, h2, h3⟩ := lstX_ok st r h
    exact ⟨p, vs, h1, SqL.of h2, h3⟩
  cases d with
  | rol l1 =>
    cases h
    cases r with
    | rol hh rs => exact ⟨_, _, rfl, hh.sq, rs⟩
  | _ => exact key h
theorem dctOf_ok {m : List (Key × D)} (st : StR K w s) (r : Rep K w x d) (h : dctOf s d = some m) : ∃ p l, x = .ref p ∧ Rd w.H p (.dK l) ∧ KVR K w l m := by
  cases d with
  | dct m1 =>
    cases h
    obtain ⟨a, o, l, rfl, _, h1, h2⟩ := r.dct_inv
    exact ⟨a, l, rfl, .inr ⟨o, h1⟩, h2⟩
  | cel n =>
    have h' : (match s[n]? with
      | some (some (.dct l)) => some l
      | some (some (.rod l)) => some l
      | _ => none) = some m := h
    cases r with
    | cel ha =>
      cases e : s[n]? with
      | none => rw [e] at h'; cases h'
      | some o =>
        rw [e] at h'
        cases o with
        | none => cases h'
        | some c =>
          cases c with
          | dct l1 =>
            cases h'
            obtain ⟨a1, h1, _, l, hh, rs⟩ := st.at_ n _ e
            have ea := Option.some.inj (h1.symm.trans ha)
            subst ea
            exact ⟨_, l, rfl, .inl hh, rs⟩
          | rod l1 =>
            cases h'
            obtain ⟨a1, h1, _, o, l, _, hh, rs⟩ := st.at_ n _ e
            have ea := Option.some.inj (h1.symm.trans ha)
            subst ea
            exact ⟨_, l, rfl, .inr ⟨o, hh⟩, rs⟩
          | _ => cases h'
  | _ => cases h
theorem insOf_ok {C : Str} {m : List (Str × D)} (st : StR K w s) (r : Rep K w x d) (h : insOf s d = some (C, m)) : ∃ p dx l, x = .ref p ∧ w.H p = some (.ins (He.ga K C) dx l) ∧ KVR K w l m := by
  cases d with
  | ins C1 m1 =>
    cases h
    obtain ⟨a, dx, l, rfl, _, h1, h2⟩ := r.ins_inv
    exact ⟨a, dx, l, rfl, h1, h2⟩
  | cel n =>
    have h' : (match s[n]? with
      | some (some (.ins C l)) => some (C, l)
      | _ => none) = some (C, m) := h
    cases r with
    | cel ha =>
      cases e : s[n]? with
      | none => rw [e] at h'; cases h'
      | some o =>
        rw [e] at h'
        cases o with
        | none => cases h'
        | some c =>
          cases c with
          | ins C1 l1 =>
            cases h'
            obtain ⟨a1, h1, _, dx, l, hh, rs⟩ := st.at_ n _ e
            have ea := Option.some.inj (h1.symm.trans ha)
            subst ea
            exact ⟨_, dx, l, rfl, hh, rs⟩
          | _ => cases h'
  | _ => cases h
end
section
variable {X : Cx} {W : WX} {a b c : Expr} {pos : Pos} {ma mb mc : DE}
theorem e_var {i : Nat} {x : Str} (hN : X.N[i]? = some x) (hv : Vis X.env.scope x) (hd : (x == ("__debug__" : Str)) = false) (hcd : (x == ("__classdict__" : Str)) = false) : PE X (.Name x pos) (tE X.K W (vM i)) :=
  PE.imp (pe_var hN hv hd hcd) fun t H Q h => by
    obtain ⟨r, s, w, rfl, env, st, hp⟩ := h
    unfold vM at hp
    cases e : r[i]? with
    | none =>
      rw [e] at hp
      exact hp.elim
    | some o =>
      cases o with
      | none =>
        rw [e] at hp
        exact hp.elim
      | some d =>
        rw [e] at hp
        obtain ⟨v, h1, h2⟩ := env.2 i d e
        exact ⟨v, h1, hp.pure st h2⟩
theorem ev (i : Nat) {x : Str} (hN : X.N[i]? = some x := by rfl) (hv : Vis X.env.scope x := by first | exact Or.inl rfl | exact Or.inr (Or.inl rfl) | exact Or.inr (Or.inr rfl)) (hd : (x == ("__debug__" : Str)) = false := by decide)
    (hcd : (x == ("__classdict__" : Str)) = false := by decide) : PE X (.Name x pos) (tE X.K W (vM i)) := e_var hN hv hd hcd
theorem e_c {e : Expr} {v : V} {d : D} (h : PE X e (tC v)) (hr : ∀ w, Rep X.K w v d) : PE X e (tE X.K W (cM d)) := PE.imp h fun t H Q h => by
  obtain ⟨r, s, w, rfl, env, st, hp⟩ := h
  exact hp.pure st (hr w)
theorem e_int {i : Int} {j : Nat} : PE X (.Constant (.int i) j pos) (tE X.K W (cM (.int i))) := e_c pe_int fun _ => .int i
theorem e_bl {i : Bool} {j : Nat} : PE X (.Constant (.bool i) j pos) (tE X.K W (cM (.bl i))) := e_c pe_bl fun _ => .bl i
theorem e_non {j : Nat} : PE X (.Constant .none j pos) (tE X.K W (cM .non)) := e_c pe_non fun _ => .non
theorem e_str {z : Str} {j : Nat} : PE X (.Constant (.str z) j pos) (tE X.K W (cM (.str z))) := e_c pe_str fun _ => .str z
theorem e_gint {x : Str} {i : Int} (hg : Gl X x) (hm : ∃ t, X.mg x = some (.int i t)) (hd : (x == ("__debug__" : Str)) = false := by decide) : PE X (.Name x pos) (tE X.K W (cM (.int i))) := by
  obtain ⟨t, hm⟩ := hm
  exact e_c (pe_glob (v := .int i) hg hm ⟨_, rfl⟩ hd) fun _ => .int i
theorem e_gstr {x z : Str} (hg : Gl X x) (hm : ∃ t, X.mg x = some (.str z t)) (hd : (x == ("__debug__" : Str)) = false := by decide) : PE X (.Name x pos) (tE X.K W (cM (.str z))) := by
  obtain ⟨t, hm⟩ := hm
  exact e_c (pe_glob (v := .str z) hg hm ⟨_, rfl⟩ hd) fun _ => .str z
theorem e_glo {x : Str} (hg : Gl X x) (hm : X.mg x = some (.ref (He.ga X.K x))) (hd : (x == ("__debug__" : Str)) = false := by decide) : PE X (.Name x pos) (tE X.K W (cM (.glo x))) :=
  e_c (pe_glob (v := .ref (He.ga X.K x)) hg hm rfl hd) fun _ => .glo x
/-- a written tuple of the top -/
theorem e_gtup {x : Str} {vs : List V} {ds : List D} (hg : Gl X x) (hm : X.mg x = some (.ref (He.ga X.K x))) (hk : KT X.K (He.ga X.K x) vs) (hr : ∀ w, Reps X.K w vs ds) (hd : (x == ("__debug__" : Str)) = false := by decide) : PE X (.Name x pos) (tE X.K W (cM (.kot ds))) :=
  e_c (pe_glob (v := .ref (He.ga X.K x)) hg hm rfl hd) fun w => .kot hk (hr w)
/-- a built-in class as a value -/
theorem e_ty {x : Str} {n : String} (hg : Gl X x) (hm : X.mg x = none) (hv : bootBuiltins x = some (.type n)) (hn : x ≠ "__name__" := by decide) (hd : (x == ("__debug__" : Str)) = false := by decide) : PE X (.Name x pos) (tE X.K W (cM (.ty n))) :=
  e_c (pe_bltn (v := .ty n) hg hm hv rfl hn hd) fun _ => .ty n
/-- what an operation on values asks, from what the data's operation gives -/
def VR2 (K : Frag) (r : R2) (f : D → D → Sto → Res D) : Prop := ∀ w s x y a b Q E, StR K w s → Rep K w x a → Rep K w y b → Post K (Rep K) w E Q (f a b s) → r x y w.H Q
theorem e_bin {op : Operator} {f : D → D → Sto → Res D} {r : R2} (ho : OpR X (binaryOp op) r) (hv : VR2 X.K r f) (ha : PE X a (tE X.K W ma)) (hb : PE X b (tE X.K W mb)) : PE X (.BinOp a op b pos) (tE X.K W (binM f ma mb)) :=
  PE.imp (pe_op ho ha hb) fun t H Q h => by
    obtain ⟨r, s, w, rfl, env, st, hp⟩ := h
    exact hp.bind env st fun x d s1 w1 e1 st1 r1 hp1 => hp1.bind (env.ext e1) st1 fun y d2 s2 w2 e2 st2 r2 hp2 => hv w2 s2 x y d d2 Q _ st2 (r1.ext e2) r2 hp2
theorem e_cmp {op : CmpOp} {f : D → D → Sto → Res D} {r : R2} (ho : OpR X (compareOp op) r) (hv : VR2 X.K r f) (ha : PE X a (tE X.K W ma)) (hb : PE X b (tE X.K W mb)) (hm : behindInMarks op b = false) : PE X (.Compare a [op] [b] pos) (tE X.K W (binM f ma mb)) :=
  PE.imp (pe_cmpR ho ha hb hm) fun t H Q h => by
    obtain ⟨r, s, w, rfl, env, st, hp⟩ := h
    exact hp.bind env st fun x d s1 w1 e1 st1 r1 hp1 => hp1.bind (env.ext e1) st1 fun y d2 s2 w2 e2 st2 r2 hp2 => hv w2 s2 x y d d2 Q _ st2 (r1.ext e2) r2 hp2
/-- the value of a comparison is a bool -/
theorem Post.toBl {K : Frag} {w : Wd} {E : XK} {Q : Bool → Hp → Prop} {x : D} {s : Sto} (hp : Post K (fun _ (b c : Bool) => b = c) w E Q (match x with | .bl b => .ok b s | _ => .bad)) : Post K (Rep K) w E (fun v H' => ∃ k, v = V.bl k ∧ Q k H') (.ok x s) := fun v w' e st r => by
  cases r with
  | bl b => exact ⟨b, rfl, hp b w' e st rfl⟩
  | _ => exact hp.elim
theorem bind_assoc {T U Z : Type} (m : DM T) (f : T → DM U) (g : U → DM Z) : bindM (bindM m f) g = bindM m fun x => bindM (f x) g := by
  funext r s
  unfold bindM
  cases m r s <;> rfl
theorem t_cmp {op : CmpOp} {f : D → D → Sto → Res D} {r : R2} (ho : OpR X (compareOp op) r) (hv : VR2 X.K r f) (ha : PE X a (tE X.K W ma)) (hb : PE X b (tE X.K W mb)) (hm : behindInMarks op b = false) : PT X (.Compare a [op] [b] pos) (tT X.K W (blM (binM f ma mb))) :=
  PT.imp (pt_cmpR ho ha hb hm) fun t H Q h => by
    obtain ⟨r, s, w, rfl, env, st, hp⟩ := h
    have hp' : Post X.K (fun _ (b c : Bool) => b = c) w (fun c d H' => W c d t H') Q (bindM ma (fun x => bindM mb fun y => bindM (fun _ s => f x y s) fun z => fun _ s => match z with | .bl b => .ok b s | _ => .bad) r s) := by
      have e : blM (binM f ma mb) = bindM ma (fun x => bindM mb fun y => bindM (fun _ s => f x y s) fun z => fun _ s => match z with | .bl b => .ok b s | _ => .bad) := by
        unfold blM binM
        rw [bind_assoc]
        congr 1
        funext x
        rw [bind_assoc]
      rw [← e]
      exact hp
    exact hp'.bind env st fun x d s1 w1 e1 st1 r1 hp1 => hp1.bind (env.ext e1) st1 fun y d2 s2 w2 e2 st2 r2 hp2 => hv w2 s2 x y d d2 _ (fun c d H' => W c d t H') st2 (r1.ext e2) r2 (by
      unfold bindM at hp2
      dsimp only at hp2
      cases e : f d d2 s2 with
      | ok z s3 =>
        rw [e] at hp2
        exact Post.toBl hp2
      | exc C fs s3 =>
        rw [e] at hp2
        exact hp2
      | bad =>
        rw [e] at hp2
        exact hp2)
theorem tru_ok {w : Wd} {s : Sto} {x : V} {d : D} {k : Bool} (st : StR X.K w s) (r : Rep X.K w x d) (h : truD s d = some k) : TruV X.K x w.H k := by
  have seq : (lstOf s d).map (fun l => !l.isEmpty) = some k → TruV X.K x w.H k := fun h => by
    cases e : lstOf s d with
    | none => rw [e] at h; cases h
    | some l =>
      rw [e] at h
      obtain ⟨p, vs, rfl, hs, rs⟩ := lstOf_ok st r e
      refine .inl ⟨vs, hs, ?_⟩
      rw [← Option.some.inj h]
      cases rs <;> rfl
  cases d with
  | non =>
    cases r
    exact (Option.some.inj h).symm
  | bl b =>
    cases r
    exact (Option.some.inj h).symm
  | int i =>
    cases r
    exact (Option.some.inj h).symm
  | str z =>
    cases r
    have h' : (if z.length ≤ sizeLine then some ((z.length : Int) != 0) else none) = some k := h
    by_cases hl : z.length ≤ sizeLine
    · rw [if_pos hl] at h'
      exact ⟨hl, (Option.some.inj h').symm⟩
    · rw [if_neg hl] at h'
      cases h'
  | tup l =>
    cases r with
    | tup hh rs =>
      refine .inr (.inl ⟨_, hh.sq, ?_⟩)
      rw [← Option.some.inj h]
      cases rs <;> rfl
  | _ => exact seq h
theorem truM_bind {w : Wd} {r : En} {s : Sto} {t : L2.St} {d : D} {x : V} {T U : Type} {R : Wd → U → T → Prop} {E : XK} {Q : U → Hp → Prop} {f : Bool → DM T} (st : StR X.K w s) (hr : Rep X.K w x d) (hp : Post X.K R w E Q (bindM (truM (cM d)) f r s)) :
    ∃ k, TruV X.K x w.H k ∧ Post X.K R w E Q (f k r s) := by
  unfold truM bindM cM at hp
  dsimp only at hp
  cases e : truD s d with
  | none =>
    rw [e] at hp
    exact hp.elim
  | some k =>
    rw [e] at hp
    exact ⟨k, tru_ok st hr e, hp⟩
theorem t_truth (ha : PE X a (tE X.K W ma)) (he : ∀ whole, isTrue a X.env whole = (do let v ← whole; standAt a.pos; holding [v] (truthy v)) := by intro _; rfl) : PT X a (tT X.K W (truM ma)) :=
  PT.imp (pt_truth ha he) fun t H Q h => by
    obtain ⟨r, s, w, rfl, env, st, hp⟩ := h
    exact hp.bind env st fun x d s1 w1 e1 st1 r1 hp1 => by
      cases e : truD s1 d with
      | none =>
        rw [e] at hp1
        exact hp1.elim
      | some k =>
        rw [e] at hp1
        exact ⟨k, tru_ok st1 r1 e, hp1 k w1 (Ext.refl w1) st1 rfl⟩
theorem t_not {mt : DM Bool} (ha : PT X a (tT X.K W mt)) : PT X (.UnaryOp .Not a pos) (tT X.K W (notT mt)) := PT.imp (pt_not ha) fun t H Q h => by
  obtain ⟨r, s, w, rfl, env, st, hp⟩ := h
  exact hp.bind env st fun x d s1 w1 e1 st1 r1 hp1 => by
    subst r1
    exact hp1 _ w1 (Ext.refl w1) st1 rfl
theorem w_and1 {mt : DM Bool} (ha : PT X a (tT X.K W mt)) : PW X (.BoolOp .And [a] pos) (tT X.K W mt) := pw_and1 ha
theorem w_or1 {mt : DM Bool} (ha : PT X a (tT X.K W mt)) : PW X (.BoolOp .Or [a] pos) (tT X.K W mt) := pw_or1 ha
theorem PW.imp {e : Expr} {t t' : TT} (h : PW X e t) (i : ∀ σ H Q, t' σ H Q → t σ H Q) : PW X e t' := ⟨fun whole pins s σ H Q I q => h.run whole pins s σ H Q I (i _ _ _ q)⟩
theorem w_and {rest : List Expr} {mt mu : DM Bool} (ha : PT X a (tT X.K W mt)) (hb : PW X (.BoolOp .And (b :: rest) pos) (tT X.K W mu)) : PW X (.BoolOp .And (a :: b :: rest) pos) (tT X.K W (andT mt mu)) := PW.imp (pw_and ha hb) fun t H Q h => by
  obtain ⟨r, s, w, rfl, env, st, hp⟩ := h
  exact hp.bind env st fun x d s1 w1 e1 st1 r1 hp1 => by
    subst r1
    cases x with
    | true => exact ⟨r, s1, w1, rfl, env.ext e1, st1, hp1⟩
    | false => exact hp1 _ w1 (Ext.refl w1) st1 rfl
theorem w_or {rest : List Expr} {mt mu : DM Bool} (ha : PT X a (tT X.K W mt)) (hb : PW X (.BoolOp .Or (b :: rest) pos) (tT X.K W mu)) : PW X (.BoolOp .Or (a :: b :: rest) pos) (tT X.K W (orT mt mu)) := PW.imp (pw_or ha hb) fun t H Q h => by
  obtain ⟨r, s, w, rfl, env, st, hp⟩ := h
  exact hp.bind env st fun x d s1 w1 e1 st1 r1 hp1 => by
    subst r1
    cases x with
    | true => exact hp1 _ w1 (Ext.refl w1) st1 rfl
    | false => exact ⟨r, s1, w1, rfl, env.ext e1, st1, hp1⟩
theorem e_not (ha : PE X a (tE X.K W ma)) : PE X (.UnaryOp .Not a pos) (tE X.K W (notV ma)) := PE.imp (pe_notT ha) fun t H Q h => by
  obtain ⟨r, s, w, rfl, env, st, hp⟩ := h
  have e : notV ma = bindM ma fun x => bindM (truM (cM x)) fun b => pureM (.bl (!b)) := by
    unfold notV truM
    rw [bind_assoc]
    rfl
  rw [e] at hp
  exact hp.bind env st fun x d s1 w1 e1 st1 r1 hp1 => by
    obtain ⟨k, h1, h2⟩ := truM_bind (t := t) st1 r1 hp1
    exact ⟨k, h1, h2.pure st1 (.bl _)⟩
theorem e_one {op : BoolOp} (ha : PE X a (tE X.K W ma)) : PE X (.BoolOp op [a] pos) (tE X.K W ma) := pe_one ha
theorem e_and {rest : List Expr} (ha : PE X a (tE X.K W ma)) (hb : PE X (.BoolOp .And (b :: rest) pos) (tE X.K W mb)) : PE X (.BoolOp .And (a :: b :: rest) pos) (tE X.K W (andV ma mb)) := PE.imp (pe_andT ha hb) fun t H Q h => by
  obtain ⟨r, s, w, rfl, env, st, hp⟩ := h
  exact hp.bind env st fun x d s1 w1 e1 st1 r1 hp1 => by
    obtain ⟨k, h1, h2⟩ := truM_bind (t := t) st1 r1 hp1
    refine ⟨k, h1, ?_⟩
    cases k with
    | true => exact ⟨r, s1, w1, rfl, env.ext e1, st1, h2⟩
    | false => exact h2.pure st1 r1
theorem e_or {rest : List Expr} (ha : PE X a (tE X.K W ma)) (hb : PE X (.BoolOp .Or (b :: rest) pos) (tE X.K W mb)) : PE X (.BoolOp .Or (a :: b :: rest) pos) (tE X.K W (orV ma mb)) := PE.imp (pe_orT ha hb) fun t H Q h => by
  obtain ⟨r, s, w, rfl, env, st, hp⟩ := h
  exact hp.bind env st fun x d s1 w1 e1 st1 r1 hp1 => by
    obtain ⟨k, h1, h2⟩ := truM_bind (t := t) st1 r1 hp1
    refine ⟨k, h1, ?_⟩
    cases k with
    | true => exact h2.pure st1 r1
    | false => exact ⟨r, s1, w1, rfl, env.ext e1, st1, h2⟩
theorem e_if {mt : DM Bool} (hc : PT X c (tT X.K W mt)) (ha : PE X a (tE X.K W ma)) (hb : PE X b (tE X.K W mb)) : PE X (.IfExp c a b pos) (tE X.K W (ifM mt ma mb)) := PE.imp (pe_ifExp hc ha hb) fun t H Q h => by
  obtain ⟨r, s, w, rfl, env, st, hp⟩ := h
  exact hp.bind env st fun x d s1 w1 e1 st1 r1 hp1 => by
    subst r1
    cases x with
    | true => exact ⟨r, s1, w1, rfl, env.ext e1, st1, hp1⟩
    | false => exact ⟨r, s1, w1, rfl, env.ext e1, st1, hp1⟩
end
end Mp
set_option Elab.async false
set_option linter.all false
set_option maxRecDepth 100000
set_option maxHeartbeats 4000000
/-! Mp: operators on data. -/
namespace Mp
open PySem PySem.Spec PyProof.Rows L2
section
variable {X : Cx} {W : WX} {a b c : Expr} {pos : Pos} {ma mb mc : DE}
/-- a new frozen object -/
theorem Post.frz {K : Frag} {w : Wd} {s : Sto} {E : XK} {Q : VK} {d : D} (hp : Post K (Rep K) w E Q (.ok d s)) (st : StR K w s) {o : HO} (h : ∀ p, w.H p = none → Rep K (w.frz p o) (.ref p) d) : ∀ p, w.H p = none → Q (.ref p) (upd w.H p o) :=
  fun p np => hp (.ref p) (w.frz p o) (Wd.frz_ext st np) (Wd.frz_st st np) (h p np)
theorem rep_newL {K : Frag} {w : Wd} {s : Sto} (st : StR K w s) {vs : List V} {ds : List D} (r : Reps K w vs ds) {p : Addr} (np : w.H p = none) : Rep K (w.frz p (.lst vs)) (.ref p) (.lst ds) :=
  .lst Wd.frz_z Wd.frz_h (r.ext (Wd.frz_ext st np))
theorem rep_newT {K : Frag} {w : Wd} {s : Sto} (st : StR K w s) {vs : List V} {ds : List D} (r : Reps K w vs ds) {p : Addr} (np : w.H p = none) : Rep K (w.frz p (.tup vs)) (.ref p) (.tup ds) :=
  .tup ⟨Wd.frz_z, Wd.frz_h⟩ (r.ext (Wd.frz_ext st np))
theorem v_add : VR2 X.K (fun x y H Q => (rI0 fun i j => .int (i + j)) x y H Q ∨ (∃ i j, x = .str i ∧ y = .str j ∧ i.length + j.length ≤ sizeLine ∧ Q (.str (i ++ j)) H) ∨ rCat x y H Q ∨ rCatA X.K x y H Q) addD := fun w s x y d e Q E st rx ry hp => by
  unfold addD at hp
  cases d with
  | int i =>
    cases rx
    cases ry with
    | int j => exact .inl ⟨i, j, rfl, rfl, hp.pure st (.int _)⟩
    | _ => exact hp.elim
  | str i =>
    cases rx
    cases ry with
    | str j =>
      dsimp only at hp
      split at hp
      · exact .inr (.inl ⟨i, j, rfl, rfl, by assumption, hp.pure st (.str _)⟩)
      · exact hp.elim
    | _ => exact hp.elim
  | tup l1 =>
    cases rx with | tup h1 r1 =>
    cases ry with
    | tup h2 r2 =>
      dsimp only at hp
      split at hp
      · rename_i hl
        rw [← r1.length, ← r2.length] at hl
        refine .inr (.inr (.inr ⟨_, _, _, _, rfl, rfl, h1.sq, h2.sq, hl, fun e => ?_, fun e0 e => ?_, fun e1 e2 => ?_⟩))
        · subst e
          cases r1
          exact hp.pure st (.tup h2 r2)
        · subst e
          cases r2
          exact hp.pure st (by rw [List.append_nil]; exact .tup h1 r1)
        · exact hp.frz st fun p np => rep_newT st (r1.append r2) np
      · exact hp.elim
    | _ => exact hp.elim
  | _ =>
    dsimp only at hp
    split at hp
    · rename_i e1
      split at hp
      · rename_i e2
        split at hp
        · rename_i hl
          obtain ⟨p1, v1, rfl, h1, r1⟩ := lstX_ok st rx e1
          obtain ⟨p2, v2, rfl, h2, r2⟩ := lstX_ok st ry e2
          rw [← r1.length, ← r2.length] at hl
          exact .inr (.inr (.inl ⟨_, _, _, _, rfl, rfl, h1, h2, hl, hp.frz st fun p np => rep_newL st (r1.append r2) np⟩))
        · exact hp.elim
      · exact hp.elim
    · exact hp.elim
theorem e_add (ha : PE X a (tE X.K W ma)) (hb : PE X b (tE X.K W mb)) : PE X (.BinOp a .Add b pos) (tE X.K W (binM addD ma mb)) := e_bin (OpR.or op_add (OpR.or op_add_str (OpR.or op_cat op_catA))) v_add ha hb
theorem v_sub : VR2 X.K (rI0 fun i j => .int (i - j)) subD := fun w s x y d e Q E st rx ry hp => by
  unfold subD at hp
  cases rx with
  | int i =>
    cases ry with
    | int j => exact ⟨i, j, rfl, rfl, hp.pure st (.int _)⟩
    | _ => exact hp.elim
  | _ => exact hp.elim
theorem e_sub (ha : PE X a (tE X.K W ma)) (hb : PE X b (tE X.K W mb)) : PE X (.BinOp a .Sub b pos) (tE X.K W (binM subD ma mb)) := e_bin op_sub v_sub ha hb
theorem reps_rep {K : Frag} {w : Wd} {vs : List V} {ds : List D} (r : Reps K w vs ds) : ∀ n : Nat, Reps K w (List.replicate n vs).flatten (List.replicate n ds).flatten
  | 0 => .nil
  | n + 1 => by
    rw [List.replicate_succ, List.replicate_succ, List.flatten_cons, List.flatten_cons]
    exact r.append (reps_rep r n)
theorem v_mul : VR2 X.K (fun x y H Q => (rI CMulW fun i j => .int (i * j)) x y H Q ∨ rRep x y H Q) mulD := fun w s x y d e Q E st rx ry hp => by
  unfold mulD at hp
  cases d with
  | int i =>
    cases rx
    cases ry with
    | int j =>
      dsimp only at hp
      split at hp
      · rename_i hc
        exact .inl ⟨i, j, rfl, rfl, of_decide_eq_true (p := i.natAbs.log2 + j.natAbs.log2 < 1000000) hc, hp.pure st (.int _)⟩
      · exact hp.elim
    | _ => exact hp.elim
  | _ =>
    dsimp only at hp
    split at hp
    · exact hp.elim
    · rename_i e1
      obtain ⟨p1, v1, rfl, h1, r1⟩ := lstX_ok st rx e1
      cases ry with
      | int k =>
        dsimp only at hp
        split at hp
        · rename_i hc
          rw [← r1.length] at hc
          exact .inr ⟨_, k, _, rfl, rfl, h1, by omega, by omega, hc.2.2, hp.frz st fun p np => rep_newL st (reps_rep r1 _) np⟩
        · exact hp.elim
      | _ => exact hp.elim
theorem e_mul (ha : PE X a (tE X.K W ma)) (hb : PE X b (tE X.K W mb)) : PE X (.BinOp a .Mult b pos) (tE X.K W (binM mulD ma mb)) := e_bin (OpR.or op_mulW op_rep) v_mul ha hb
def CDivX (_ j : Int) : Prop := j ≠ 0 ∧ j.natAbs.log2 < 9000
theorem op_fdivX : OpR X (binaryOp .FloorDiv) (rI CDivX fun i j => .int (i.fdiv j)) := opI fun _ _ _ _ _ _ _ hc q => floordiv_int hc.1 q (.inl (PyProof.noPylong_of_log2 hc.2))
theorem v_div : VR2 X.K (fun x y H Q => (rI CDivW fun i j => .int (i / j)) x y H Q ∨ (rI CDivX fun i j => .int (i.fdiv j)) x y H Q) divD := fun w s x y d e Q E st rx ry hp => by
  unfold divD at hp
  cases rx with
  | int i =>
    cases ry with
    | int j =>
      dsimp only at hp
      split at hp
      · rename_i hc
        exact .inl ⟨i, j, rfl, rfl, hc, hp.pure st (.int _)⟩
      · split at hp
        · rename_i hc
          exact .inr ⟨i, j, rfl, rfl, ⟨by omega, hc.2⟩, hp.pure st (.int _)⟩
        · exact hp.elim
    | _ => exact hp.elim
  | _ => exact hp.elim
theorem e_div (ha : PE X a (tE X.K W ma)) (hb : PE X b (tE X.K W mb)) : PE X (.BinOp a .FloorDiv b pos) (tE X.K W (binM divD ma mb)) := e_bin (OpR.or op_fdivW op_fdivX) v_div ha hb
theorem v_mod : VR2 X.K (fun x y H Q => (rI (fun _ j => 0 < j) fun i j => .int (i % j)) x y H Q ∨ (rI (fun _ j => j ≠ 0) fun i j => .int (i.fmod j)) x y H Q) modD := fun w s x y d e Q E st rx ry hp => by
  unfold modD at hp
  cases rx with
  | int i =>
    cases ry with
    | int j =>
      dsimp only at hp
      split at hp
      · rename_i hc
        exact .inl ⟨i, j, rfl, rfl, hc, hp.pure st (.int _)⟩
      · split at hp
        · rename_i hc
          exact .inr ⟨i, j, rfl, rfl, (by omega), hp.pure st (.int _)⟩
        · exact hp.elim
    | _ => exact hp.elim
  | _ => exact hp.elim
theorem e_mod (ha : PE X a (tE X.K W ma)) (hb : PE X b (tE X.K W mb)) : PE X (.BinOp a .Mod b pos) (tE X.K W (binM modD ma mb)) := e_bin (OpR.or op_mod op_modN) v_mod ha hb
theorem v_pow : VR2 X.K (rI CPow fun i j => .int (i ^ j.toNat)) powD := fun w s x y d e Q E st rx ry hp => by
  unfold powD at hp
  cases rx with
  | int i =>
    cases ry with
    | int j =>
      dsimp only at hp
      split at hp
      · rename_i hc
        exact ⟨i, j, rfl, rfl, hc, hp.pure st (.int _)⟩
      · exact hp.elim
    | _ => exact hp.elim
  | _ => exact hp.elim
theorem e_pow (ha : PE X a (tE X.K W ma)) (hb : PE X b (tE X.K W mb)) : PE X (.BinOp a .Pow b pos) (tE X.K W (binM powD ma mb)) := e_bin op_pow v_pow ha hb
theorem e_neg (ha : PE X a (tE X.K W ma)) : PE X (.UnaryOp .USub a pos) (tE X.K W (unM negD ma)) := PE.imp (pe_un un_neg ha) fun t H Q h => by
  obtain ⟨r, s, w, rfl, env, st, hp⟩ := h
  exact hp.bind env st fun x d s1 w1 e1 st1 r1 hp1 => by
    unfold negD at hp1
    cases r1 with
    | int i => exact ⟨i, rfl, hp1.pure st1 (.int _)⟩
    | _ => exact hp1.elim
/-! ### order -/
theorem v_ord {g : Int → Int → Bool} {k : List Nat → List Nat → Bool} : VR2 X.K (fun x y H Q => (rI0 fun i j => .bl (g i j)) x y H Q ∨ ∃ i j, x = .str i ∧ y = .str j ∧ Q (.bl (k i.cps.toList j.cps.toList)) H) (ltD g k) := fun w s x y d e Q E st rx ry hp => by
  unfold ltD at hp
  cases rx with
  | int i =>
    cases ry with
    | int j => exact .inl ⟨i, j, rfl, rfl, hp.pure st (.bl _)⟩
    | _ => exact hp.elim
  | str i =>
    cases ry with
    | str j => exact .inr ⟨i, j, rfl, rfl, hp.pure st (.bl _)⟩
    | _ => exact hp.elim
  | _ => exact hp.elim
theorem o_lt : OpR X (compareOp .Lt) (fun x y H Q => (rI0 fun i j => .bl (decide (i < j))) x y H Q ∨ ∃ i j, x = .str i ∧ y = .str j ∧ Q (.bl (decide (i.cps.toList < j.cps.toList))) H) := OpR.or op_lt op_lt_str
theorem o_le : OpR X (compareOp .LtE) (fun x y H Q => (rI0 fun i j => .bl (decide (i ≤ j))) x y H Q ∨ ∃ i j, x = .str i ∧ y = .str j ∧ Q (.bl (!decide (j.cps.toList < i.cps.toList))) H) := OpR.or op_le op_le_str
theorem o_gt : OpR X (compareOp .Gt) (fun x y H Q => (rI0 fun i j => .bl (decide (j < i))) x y H Q ∨ ∃ i j, x = .str i ∧ y = .str j ∧ Q (.bl (decide (j.cps.toList < i.cps.toList))) H) := OpR.or op_gt op_gt_str
theorem o_ge : OpR X (compareOp .GtE) (fun x y H Q => (rI0 fun i j => .bl (decide (j ≤ i))) x y H Q ∨ ∃ i j, x = .str i ∧ y = .str j ∧ Q (.bl (!decide (i.cps.toList < j.cps.toList))) H) := OpR.or op_ge op_ge_str
theorem e_gt (ha : PE X a (tE X.K W ma)) (hb : PE X b (tE X.K W mb)) : PE X (.Compare a [.Gt] [b] pos) (tE X.K W (binM gtI ma mb)) := e_cmp o_gt v_ord ha hb (nomark _)
theorem t_lt (ha : PE X a (tE X.K W ma)) (hb : PE X b (tE X.K W mb)) : PT X (.Compare a [.Lt] [b] pos) (tT X.K W (blM (binM ltI ma mb))) := t_cmp o_lt v_ord ha hb (nomark _)
theorem t_le (ha : PE X a (tE X.K W ma)) (hb : PE X b (tE X.K W mb)) : PT X (.Compare a [.LtE] [b] pos) (tT X.K W (blM (binM leI ma mb))) := t_cmp o_le v_ord ha hb (nomark _)
theorem t_gt (ha : PE X a (tE X.K W ma)) (hb : PE X b (tE X.K W mb)) : PT X (.Compare a [.Gt] [b] pos) (tT X.K W (blM (binM gtI ma mb))) := t_cmp o_gt v_ord ha hb (nomark _)
theorem t_ge (ha : PE X a (tE X.K W ma)) (hb : PE X b (tE X.K W mb)) : PT X (.Compare a [.GtE] [b] pos) (tT X.K W (blM (binM geI ma mb))) := t_cmp o_ge v_ord ha hb (nomark _)
/-! ### None -/
theorem v_isN : VR2 X.K (fun x y H Q => y = .non ∧ Q (.bl (decide (x = .non))) H) isNoneD := fun w s x y d e Q E st rx ry hp => by
  unfold isNoneD at hp
  cases ry with
  | non =>
    refine ⟨rfl, ?_⟩
    cases rx with
    | non => exact hp.pure st (.bl _)
    | _ => exact hp.pure st (by first | exact .bl _ | (rw [decide_eq_false (by intro z; cases z)]; exact .bl _))
  | _ => exact hp.elim
theorem v_notN : VR2 X.K (fun x y H Q => y = .non ∧ Q (.bl (!decide (x = .non))) H) isNotNoneD := fun w s x y d e Q E st rx ry hp => by
  unfold isNotNoneD at hp
  cases ry with
  | non =>
    refine ⟨rfl, ?_⟩
    cases rx with
    | non => exact hp.pure st (.bl _)
    | _ => exact hp.pure st (by first | exact .bl _ | (rw [decide_eq_false (by intro z; cases z)]; exact .bl _))
  | _ => exact hp.elim
theorem t_isN (ha : PE X a (tE X.K W ma)) (hb : PE X b (tE X.K W mb)) : PT X (.Compare a [.Is] [b] pos) (tT X.K W (blM (binM isNoneD ma mb))) := t_cmp op_isN v_isN ha hb (nomark _)
theorem t_notN (ha : PE X a (tE X.K W ma)) (hb : PE X b (tE X.K W mb)) : PT X (.Compare a [.IsNot] [b] pos) (tT X.K W (blM (binM isNotNoneD ma mb))) := t_cmp op_notN v_notN ha hb (nomark _)
end
/-! ### equality of plain data -/
mutual
def toPy : D → Option PyData
  | .non => some .none
  | .bl b => some (.bool b)
  | .int i => some (.int i)
  | .str z => some (.str z)
  | .tup l => (toPys l).map .tuple
  | .lst l => (toPys l).map .list
  | .rol l => (toPys l).map .list
  | .ty _ => none
  | .glo _ => none
  | .dct _ => none
  | .ins _ _ => none
  | .exn _ _ _ _ => none
  | .cel _ => none
  | .clo _ _ _ _ _ => none
  | .kot _ => none
def toPys : List D → Option (List PyData)
  | [] => some []
  | d :: r => (toPy d).bind fun x => (toPys r).map fun y => x :: y
end
mutual
theorem Rep.dp {K : Frag} {w : Wd} : ∀ {d : D} {v : V} {p : PyData}, Rep K w v d → toPy d = some p → Dp K w.H v p
  | .non, _, _, h, e => by
    cases h
    rw [toPy] at e
    cases e
    exact .non
  | .bl b, _, _, h, e => by
    cases h
    rw [toPy] at e
    cases e
    exact .bl b
  | .int i, _, _, h, e => by
    cases h
    rw [toPy] at e
    cases e
    exact .int i
  | .str z, _, _, h, e => by
    cases h
    rw [toPy] at e
    cases e
    exact .str z
  | .tup l, _, _, h, e => by
    cases h with
    | tup h1 r =>
      rw [toPy] at e
      cases q : toPys l with
      | none => rw [q] at e; cases e
      | some ps =>
        rw [q] at e
        cases e
        exact .tup h1.sq (Reps.dp r q)
  | .lst l, _, _, h, e => by
    cases h with
    | lst z h1 r =>
      rw [toPy] at e
      cases q : toPys l with
      | none => rw [q] at e; cases e
      | some ps =>
        rw [q] at e
        cases e
        exact .lst (SqL.of h1) (Reps.dp r q)
  | .rol l, _, _, h, e => by
    cases h with
    | rol h1 r =>
      rw [toPy] at e
      cases q : toPys l with
      | none => rw [q] at e; cases e
      | some ps =>
        rw [q] at e
        cases e
        exact .lst h1.sq (Reps.dp r q)
  | .ty _, _, _, _, e => by rw [toPy] at e; cases e
  | .glo _, _, _, _, e => by rw [toPy] at e; cases e
  | .dct _, _, _, _, e => by rw [toPy] at e; cases e
  | .ins _ _, _, _, _, e => by rw [toPy] at e; cases e
  | .exn _ _ _ _, _, _, _, e => by rw [toPy] at e; cases e
  | .cel _, _, _, _, e => by rw [toPy] at e; cases e
  | .clo _ _ _ _ _, _, _, _, e => by rw [toPy] at e; cases e
  | .kot _, _, _, _, e => by rw [toPy] at e; cases e
theorem Reps.dp {K : Frag} {w : Wd} : ∀ {ds : List D} {vs : List V} {ps : List PyData}, Reps K w vs ds → toPys ds = some ps → DpAll K w.H vs ps
  | [], _, _, h, e => by
    cases h
    rw [toPys] at e
    cases e
    exact .nil
  | d :: r, _, _, h, e => by
    cases h with
    | cons h1 h2 =>
      rw [toPys] at e
      cases q1 : toPy d with
      | none => rw [q1] at e; cases e
      | some p =>
        cases q2 : toPys r with
        | none => rw [q1, q2] at e; cases e
        | some ps =>
          rw [q1, q2] at e
          cases e
          exact .cons (Rep.dp h1 q1) (Reps.dp h2 q2)
end
def eqG0 (neg : Bool) (x y : D) (s : Sto) : Res D := match toPy x with
  | none => .bad
  | some p => match toPy y with
    | none => .bad
    | some q => if (SeqAt.shaped p && SeqAt.shaped q) = true then .ok (.bl (if neg then !PyData.eqv p q else PyData.eqv p q)) s else .bad
def eqG (neg : Bool) (x y : D) (s : Sto) : Res D := match x with
  | .int i => (match y with
    | .int j => .ok (.bl (if neg then !decide (i = j) else decide (i = j))) s
    | y => eqG0 neg (.int i) y s)
  | .str i => (match y with
    | .str j => .ok (.bl (if neg then !decide (i = j) else decide (i = j))) s
    | y => eqG0 neg (.str i) y s)
  | .cel n => (match s[n]? with
    | some (some (.lst l)) => eqG0 neg (.lst l) y s
    | _ => .bad)
  | x => eqG0 neg x y s
abbrev eqD : D → D → Sto → Res D := eqG false
abbrev neD : D → D → Sto → Res D := eqG true
section
variable {X : Cx} {W : WX} {a b c : Expr} {pos : Pos} {ma mb mc : DE}
theorem v_eqG0 {neg : Bool} : VR2 X.K (fun x y H Q => ∃ d e, Dp X.K H x d ∧ Dp X.K H y e ∧ SeqAt.shaped d = true ∧ SeqAt.shaped e = true ∧ Q (.bl (if neg then !PyData.eqv d e else PyData.eqv d e)) H) (eqG0 neg) := fun w s x y d e Q E st rx ry hp => by
  unfold eqG0 at hp
  cases e1 : toPy d with
  | none => rw [e1] at hp; exact hp.elim
  | some p =>
    rw [e1] at hp
    dsimp only at hp
    cases e2 : toPy e with
    | none => rw [e2] at hp; exact hp.elim
    | some q =>
      rw [e2] at hp
      dsimp only at hp
      split at hp
      · rename_i hs
        obtain ⟨h1, h2⟩ := Bool.and_eq_true_iff.mp hs
        exact ⟨p, q, Rep.dp rx e1, Rep.dp ry e2, h1, h2, hp.pure st (.bl _)⟩
      · exact hp.elim
theorem v_eqG {neg : Bool} : VR2 X.K (fun x y H Q => (scal x y = true ∧ Q (.bl (if neg then !decide (x = y) else decide (x = y))) H) ∨ ∃ d e, Dp X.K H x d ∧ Dp X.K H y e ∧ SeqAt.shaped d = true ∧ SeqAt.shaped e = true ∧ Q (.bl (if neg then !PyData.eqv d e else PyData.eqv d e)) H) (eqG neg) := fun w s x y d e Q E st rx ry hp => by
  have key : Post X.K (Rep X.K) w E Q (eqG0 neg d e s) → _ := fun h => v_eqG0 w s x y d e Q E st rx ry h
  unfold eqG at hp
  cases d with
  | int i =>
    cases e with
    | int j =>
      cases rx
      cases ry
      refine .inl ⟨rfl, ?_⟩
      rw [show decide (V.int i = V.int j) = decide (i = j) from decide_eq_decide.mpr ⟨fun z => by cases z; rfl, fun z => by rw [z]⟩]
      exact hp.pure st (.bl _)
    | _ => exact .inr (key hp)
  | str i =>
    cases e with
    | str j =>
      cases rx
      cases ry
      refine .inl ⟨rfl, ?_⟩
      rw [show decide (V.str i = V.str j) = decide (i = j) from decide_eq_decide.mpr ⟨fun z => by cases z; rfl, fun z => by rw [z]⟩]
      exact hp.pure st (.bl _)
    | _ => exact .inr (key hp)
  | cel n =>
    dsimp only at hp
    split at hp
    · rename_i _ l el
      cases rx with
      | @cel _ a0 hA =>
        obtain ⟨a1, h1, _, vs, hh, rs⟩ := st.at_ n _ el
        have ea : a1 = a0 := Option.some.inj (h1.symm.trans hA)
        subst ea
        unfold eqG0 at hp
        cases e1 : toPys l with
        | none => rw [toPy, e1] at hp; exact hp.elim
        | some ps =>
          rw [toPy, e1] at hp
          dsimp only [Option.map] at hp
          cases e2 : toPy e with
          | none => rw [e2] at hp; exact hp.elim
          | some q =>
            rw [e2] at hp
            dsimp only at hp
            split at hp
            · rename_i hs
              obtain ⟨k1, k2⟩ := Bool.and_eq_true_iff.mp hs
              exact .inr ⟨.list ps, q, .lst (SqL.of hh) (Reps.dp rs e1), Rep.dp ry e2, k1, k2, hp.pure st (.bl _)⟩
            · exact hp.elim
    · exact hp.elim
  | _ => exact .inr (key hp)
theorem e_eq (hu : X.A.units + 64 < cLine) (ha : PE X a (tE X.K W ma)) (hb : PE X b (tE X.K W mb)) : PE X (.Compare a [.Eq] [b] pos) (tE X.K W (binM eqD ma mb)) := e_cmp (OpR.or op_eq (op_eqD hu)) v_eqG ha hb (nomark _)
theorem e_ne (hu : X.A.units + 64 < cLine) (ha : PE X a (tE X.K W ma)) (hb : PE X b (tE X.K W mb)) : PE X (.Compare a [.NotEq] [b] pos) (tE X.K W (binM neD ma mb)) := e_cmp (OpR.or op_ne (op_neD hu)) v_eqG ha hb (nomark _)
theorem t_eq (hu : X.A.units + 64 < cLine) (ha : PE X a (tE X.K W ma)) (hb : PE X b (tE X.K W mb)) : PT X (.Compare a [.Eq] [b] pos) (tT X.K W (blM (binM eqD ma mb))) := t_cmp (OpR.or op_eq (op_eqD hu)) v_eqG ha hb (nomark _)
theorem t_ne (hu : X.A.units + 64 < cLine) (ha : PE X a (tE X.K W ma)) (hb : PE X b (tE X.K W mb)) : PT X (.Compare a [.NotEq] [b] pos) (tT X.K W (blM (binM neD ma mb))) := t_cmp (OpR.or op_ne (op_neD hu)) v_eqG ha hb (nomark _)
end
end Mp
set_option Elab.async false
set_option linter.all false
set_option maxRecDepth 100000
set_option maxHeartbeats 4000000
/-! Mp: displays, subscripts, slices, membership, built-in calls. -/
namespace Mp
open PySem PySem.Spec PyProof.Rows L2
/-! ### new lists: frozen, or a cell -/
def newL (c : Bool) (ds : List D) (s : Sto) : Res D := if c = true then .ok (.cel s.length) (s ++ [some (.lst ds)]) else .ok (.lst ds) s
theorem Post.newL {K : Frag} {w : Wd} {s : Sto} {E : XK} {Q : VK} {c : Bool} {ds : List D} {vs : List V} (hp : Post K (Rep K) w E Q (newL c ds s)) (st : StR K w s) (r : Reps K w vs ds) : ∀ p, w.H p = none → Q (.ref p) (upd w.H p (.lst vs)) := by
  cases c with
  | false => exact Post.frz (d := .lst ds) hp st fun p np => rep_newL st r np
  | true =>
    intro p np
    have e := Wd.cell_ext st (o := .lst vs) np
    have hp' : Post K (Rep K) w E Q (.ok (.cel s.length) (s ++ [some (.lst ds)])) := hp
    exact hp' (.ref p) (w.cell s.length p (.lst vs)) e (Wd.cell_st st np ⟨vs, upd_same, r.ext e⟩) (.cel (if_pos rfl))
def argM (f : List D → Sto → Res D) (a : DM (List D)) : DE := bindM a fun ds => fun _ s => f ds s
def nilA : DM (List D) := pureM []
def consA (a : DE) (b : DM (List D)) : DM (List D) := bindM a fun x => bindM b fun r => pureM (x :: r)
def lstD (c : Bool) (ds : List D) (s : Sto) : Res D := if ds.length ≤ sizeLine then newL c ds s else .bad
def tupD (ds : List D) (s : Sto) : Res D := if ds.length ≤ sizeLine then .ok (.tup ds) s else .bad
def getK {T U : Type} [DecidableEq T] (l : List (T × U)) (k : T) : Option U := (l.find? fun p => decide (p.1 = k)).map (·.2)
def keyD : D → Option Key
  | .int i => some (.inl i)
  | .str z => some (.inr z)
  | _ => none
def okO {T : Type} (s : Sto) : Option T → Res T
  | some d => .ok d s
  | none => .bad
def idxD (x y : D) (s : Sto) : Res D := match dctOf s x with
  | some m => (match keyD y with
    | some k => okO s (getK m k)
    | none => .bad)
  | none => (match y with
    | .int i => (match x with
      | .str z => if z.length ≤ sizeLine then okO s ((atI z.cps.toList i).map fun c => .str ⟨#[c]⟩) else .bad
      | .tup l => okO s (atI l i)
      | x => (match lstOf s x with
        | some l => okO s (atI l i)
        | none => .bad))
    | _ => .bad)
def optM (a : DE) : DM (Option Int) := bindM a fun x => fun _ s => match x with
  | .int i => .ok (some i) s
  | _ => .bad
def cutD (xs : List D) (lo hi : Option Int) : List D := (xs.drop (HT.sIx xs.length 0 lo)).take (HT.sIx xs.length xs.length hi - HT.sIx xs.length 0 lo)
def sliD (c : Bool) (x : D) (lo hi : Option Int) (s : Sto) : Res D := match x with
  | .str z => if z.length ≤ sizeLine then .ok (.str (cutS z lo hi)) s else .bad
  | .tup l => .ok (.tup (cutD l lo hi)) s
  | x => (match lstOf s x with
    | some l => newL c (cutD l lo hi) s
    | none => .bad)
def sliM (c : Bool) (a : DE) (l h : DM (Option Int)) : DE := bindM a fun x => bindM l fun lo => bindM h fun hi => fun _ s => sliD c x lo hi s
def flatD : D → Bool
  | .non => true
  | .bl _ => true
  | .int _ => true
  | .str _ => true
  | _ => false
def eqF : D → D → Bool
  | .non, .non => true
  | .bl a, .bl b => a == b
  | .bl a, .int b => (if a then 1 else 0) == b
  | .int a, .bl b => a == (if b then 1 else 0)
  | .int a, .int b => a == b
  | .str a, .str b => a == b
  | _, _ => false
def inF (x : D) (xs : List D) : Bool := xs.any fun y => eqF y x
def seqOf (s : Sto) : D → Option (List D)
  | .tup l => some l
  | x => lstOf s x
def inStr (i j : Str) : Bool := match i.cps.toList with
  | [c] => decide (c ∈ j.cps.toList)
  | _ => !(Builtin.Str.occurrences j i 0 j.length 1).isEmpty
def inD (neg : Bool) (x y : D) (s : Sto) : Res D := match dctOf s y with
  | some m => (match keyD x with
    | some k => .ok (.bl (if neg then !(getK m k).isSome else (getK m k).isSome)) s
    | none => .bad)
  | none => (match y with
    | .str j => (match x with
      | .str i => .ok (.bl (if neg then !inStr i j else inStr i j)) s
      | _ => .bad)
    | y => (match seqOf s y with
      | some l => if (flatD x && l.all flatD) = true then .ok (.bl (if neg then !inF x l else inF x l)) s else .bad
      | none => .bad))
/-! ### soundness -/
section
variable {K : Frag} {w : Wd}
theorem getK_ok {T : Type} [DecidableEq T] {k : T} : ∀ {l : List (T × V)} {m : List (T × D)}, KVR K w l m → (match getK m k with | some d => ∃ v, valV l k = some v ∧ Rep K w v d | none => valV l k = none)
  | _, _, .nil => rfl
  | _, _, .cons (k := j) h r => by
    have ih := getK_ok (k := k) r
    by_cases e : j = k
    · rw [valV_pos e]
      simp only [getK, List.find?_cons, e, decide_true, Option.map_some]
      exact ⟨_, rfl, h⟩
    · rw [valV_neg e]
      simp only [getK, List.find?_cons, e, decide_false]
      exact ih
theorem flat_ok {x : V} {d : D} (r : Rep K w x d) (h : flatD d = true) : flatV x = true := by
  cases r <;> first | rfl | cases h
theorem flats_ok : ∀ {xs : List V} {ds : List D}, Reps K w xs ds → ds.all flatD = true → xs.all flatV = true
  | _, _, .nil, _ => rfl
  | _, _, .cons h r, e => by
    rw [List.all_cons, Bool.and_eq_true_iff] at e ⊢
    exact ⟨flat_ok h e.1, flats_ok r e.2⟩
theorem eqF_ok {x y : V} {d e : D} (r : Rep K w x d) (q : Rep K w y e) (h1 : flatD d = true) (h2 : flatD e = true) : eqV x y = eqF d e := by
  cases r <;> first | (cases h1; done) | (cases q <;> first | rfl | cases h2)
theorem inF_ok {x : V} {d : D} (r : Rep K w x d) (h1 : flatD d = true) : ∀ {xs : List V} {ds : List D}, Reps K w xs ds → ds.all flatD = true → inV x xs = inF d ds
  | _, _, .nil, _ => rfl
  | _, _, .cons h t, e => by
    rw [List.all_cons, Bool.and_eq_true_iff] at e
    show (eqV _ x || inV x _) = (eqF _ d || inF d _)
    rw [eqF_ok h r e.1 h1, inF_ok r h1 t e.2]
theorem cutD_ok {xs : List V} {ds : List D} (r : Reps K w xs ds) (lo hi : Option Int) : Reps K w (cutV xs lo hi) (cutD ds lo hi) := by
  unfold cutV cutD
  rw [r.length]
  exact (r.drop _).take _
theorem atI_ok {xs : List V} {ds : List D} (r : Reps K w xs ds) {i : Int} {d : D} (h : atI ds i = some d) : ∃ v, atI xs i = some v ∧ Rep K w v d := by
  unfold atI at h ⊢
  rw [r.length]
  cases e : ixN ds.length i with
  | none => rw [e] at h; cases h
  | some j =>
    rw [e] at h
    exact r.get h
theorem seqOf_ok {s : Sto} {x : V} {d : D} {l : List D} (st : StR K w s) (r : Rep K w x d) (h : seqOf s d = some l) : ∃ p vs, x = .ref p ∧ (SqL K w.H p vs ∨ SqT K w.H p vs) ∧ Reps K w vs l := by
  have key : lstOf s d = some l → ∃ p vs, x = .ref p ∧ (SqL K w.H p vs ∨ SqT K w.H p vs) ∧ Reps K w vs l := fun h => by
    obtain ⟨p, vs, h1, h2, h3⟩ := lstOf_ok st r h
    exact ⟨p, vs, h1, .inl h2, h3⟩
  cases d with
  | tup l1 =>
    cases h
    cases r with
    | tup hh rs => exact ⟨_, _, rfl, .inr hh.sq, rs⟩
  | _ => exact key h
theorem keyD_ok {y : V} {d : D} {k : Key} (r : Rep K w y d) (h : keyD d = some k) : y = kV k := by
  cases r <;> first | (cases h; done) | (cases h; rfl)
end
section
variable {X : Cx} {W : WX} {a b c : Expr} {es : List Expr} {pos : Pos} {ma mb mc : DE} {mr : DM (List D)}
theorem a_nil : PA X [] (tA X.K W nilA) := PA.imp pa_nil fun t H Q h => by
  obtain ⟨r, s, w, rfl, env, st, hp⟩ := h
  exact hp.pure st .nil
theorem a_cons (ha : PE X a (tE X.K W ma)) (hr : PA X es (tA X.K W mr)) (hs : starEach (a :: es) X.env = (false, eval a X.env) :: starEach es X.env := by rfl) : PA X (a :: es) (tA X.K W (consA ma mr)) := PA.imp (pa_cons ha hr hs) fun t H Q h => by
  obtain ⟨r, s, w, rfl, env, st, hp⟩ := h
  exact hp.bind env st fun x d s1 w1 e1 st1 r1 hp1 => hp1.bind (env.ext e1) st1 fun y d2 s2 w2 e2 st2 r2 hp2 => hp2.pure st2 (.cons (r1.ext e2) r2)
theorem e_tup {x1 : Nat} (hr : PA X es (tA X.K W mr)) : PE X (.Tuple es x1 pos) (tE X.K W (argM tupD mr)) := PE.imp (pe_tup hr) fun t H Q h => by
  obtain ⟨r, s, w, rfl, env, st, hp⟩ := h
  exact hp.bind env st fun x d s1 w1 e1 st1 r1 hp1 => by
    unfold tupD at hp1
    split at hp1
    · rename_i hl
      exact ⟨by rw [r1.length]; exact hl, hp1.frz st1 fun p np => rep_newT st1 r1 np⟩
    · exact hp1.elim
theorem e_lst (k : Bool) (hr : PA X es (tA X.K W mr)) : PE X (.List es pos) (tE X.K W (argM (lstD k) mr)) := PE.imp (pe_lst hr) fun t H Q h => by
  obtain ⟨r, s, w, rfl, env, st, hp⟩ := h
  exact hp.bind env st fun x d s1 w1 e1 st1 r1 hp1 => by
    unfold lstD at hp1
    split at hp1
    · rename_i hl
      exact ⟨by rw [r1.length]; exact hl, hp1.newL st1 r1⟩
    · exact hp1.elim
theorem ix_dict (hu : X.A.units + 1 < cLine) : IxR X (fun x y H Q => ∃ a v, x = .ref a ∧ DGet H a y (some v) ∧ Q v H) := fun value slice pins s t H x y v u Q I rx ry h hs => by
  obtain ⟨p, v', rfl, g, q⟩ := h
  obtain rfl : v = Value.ref p := rx
  exact tail_any (dict_typeIs I g) PySem.F.slot_dict_getitem.lookup (d_getItem hu I g ry fun z s3 I3 rz => ⟨v', H, I3, rz, q⟩) hs
theorem op_inDict (hu : X.A.units + 1 < cLine) : OpR X (compareOp .In) (fun x y H Q => ∃ a o, y = .ref a ∧ DGet H a x o ∧ Q (.bl o.isSome) H) := fun pins s t H x y v u Q I rx ry h => by
  obtain ⟨p, o, rfl, g, q⟩ := h
  obtain rfl : u = Value.ref p := ry
  exact d_in hu I g rx fun s3 I3 => ⟨.bl o.isSome, H, I3, rfl, q⟩
theorem op_notInDict (hu : X.A.units + 1 < cLine) : OpR X (compareOp .NotIn) (fun x y H Q => ∃ a o, y = .ref a ∧ DGet H a x o ∧ Q (.bl (!o.isSome)) H) := fun pins s t H x y v u Q I rx ry h => by
  obtain ⟨p, o, rfl, g, q⟩ := h
  obtain rfl : u = Value.ref p := ry
  exact d_notIn hu I g rx fun s3 I3 => ⟨.bl (!o.isSome), H, I3, rfl, q⟩
theorem v_idx : VR2 X.K (fun x y H Q => rIx X.K x y H Q ∨ ∃ a v, x = .ref a ∧ DGet H a y (some v) ∧ Q v H) idxD := fun w s x y d e Q E st rx ry hp => by
  unfold idxD at hp
  split at hp
  · rename_i m hm
    obtain ⟨p, l, rfl, hd, kv⟩ := dctOf_ok st rx hm
    split at hp
    · rename_i k hk
      have ey := keyD_ok ry hk
      have g := getK_ok (k := k) kv
      cases eg : getK m k with
      | none => rw [eg] at hp; exact hp.elim
      | some d3 =>
        rw [eg] at g hp
        obtain ⟨v, hv, rv⟩ := g
        exact .inr ⟨p, v, rfl, .inl ⟨l, k, hd, ey, hv.symm⟩, hp.pure st rv⟩
    · exact hp.elim
  · rename_i nd
    cases ry with
    | int i =>
      dsimp only at hp
      cases d with
      | str z =>
        cases rx
        dsimp only at hp
        split at hp
        · rename_i hl
          cases ec : atI z.cps.toList i with
          | none => rw [ec] at hp; exact hp.elim
          | some c0 =>
            rw [ec] at hp
            exact .inl (.inr (.inr ⟨z, i, c0, rfl, rfl, hl, ec, hp.pure st (.str _)⟩))
        · exact hp.elim
      | tup l =>
        cases rx with
        | tup hh rs =>
          dsimp only at hp
          cases ec : atI l i with
          | none => rw [ec] at hp; exact hp.elim
          | some d3 =>
            rw [ec] at hp
            obtain ⟨v, hv, rv⟩ := atI_ok rs ec
            exact .inl (.inr (.inl ⟨_, _, i, v, rfl, rfl, hh.sq, hv, hp.pure st rv⟩))
      | _ =>
        dsimp only at hp
        split at hp
        · rename_i l el
          obtain ⟨p, vs, rfl, hh, rs⟩ := lstOf_ok st rx el
          cases ec : atI l i with
          | none => rw [ec] at hp; exact hp.elim
          | some d3 =>
            rw [ec] at hp
            obtain ⟨v, hv, rv⟩ := atI_ok rs ec
            exact .inl (.inl ⟨_, _, i, v, rfl, rfl, hh, hv, hp.pure st rv⟩)
        · exact hp.elim
    | _ => exact hp.elim
theorem e_idx (hu : X.A.units + 1 < cLine) (ha : PE X a (tE X.K W ma)) (hb : PE X b (tE X.K W mb)) (hs : PlainIx b := by exact fun _ _ => rfl) : PE X (.Subscript a b pos) (tE X.K W (binM idxD ma mb)) :=
  PE.imp (pe_ix (IxR.or ix_seq (ix_dict hu)) ha hb hs) fun t H Q h => by
    obtain ⟨r, s, w, rfl, env, st, hp⟩ := h
    exact hp.bind env st fun x d s1 w1 e1 st1 r1 hp1 => hp1.bind (env.ext e1) st1 fun y d2 s2 w2 e2 st2 r2 hp2 => v_idx w2 s2 x y d d2 Q _ st2 (r1.ext e2) r2 hp2
/-! ### slices -/
abbrev tO (K : Frag) (W : WX) (m : DM (Option Int)) : TO := tM K (fun _ (b c : Option Int) => b = c) W m
theorem PO.imp {e : Option Expr} {t t' : TO} (h : PO X e t) (i : ∀ σ H Q, t' σ H Q → t σ H Q) : PO X e t' := ⟨fun pins s σ H Q I q => h.run pins s σ H Q I (i _ _ _ q)⟩
theorem o_none : PO X none (tO X.K W (pureM none)) := PO.imp po_none fun t H Q h => by
  obtain ⟨r, s, w, rfl, env, st, hp⟩ := h
  exact hp.pure st rfl
theorem o_some (ha : PE X a (tE X.K W ma)) : PO X (some a) (tO X.K W (optM ma)) := PO.imp (po_some ha) fun t H Q h => by
  obtain ⟨r, s, w, rfl, env, st, hp⟩ := h
  exact hp.bind env st fun x d s1 w1 e1 st1 r1 hp1 => by
    cases r1 with
    | int i => exact ⟨i, rfl, hp1.pure st1 rfl⟩
    | _ => exact hp1.elim
theorem SlR.or {r r' : V → Option Int → Option Int → Hp → VK → Prop} (h : SlR X r) (h' : SlR X r') : SlR X (fun x l u H Q => r x l u H Q ∨ r' x l u H Q) := by
  unfold SlR at h h' ⊢
  intros
  rename_i q
  rcases q with q | q
  · apply h <;> assumption
  · apply h' <;> assumption
theorem e_sli {lo hi : Option Expr} {p2 : Pos} {ml mh : DM (Option Int)} (k : Bool) (ha : PE X a (tE X.K W ma)) (hl : PO X lo (tO X.K W ml)) (hh : PO X hi (tO X.K W mh)) : PE X (.Subscript a (.Slice lo hi none p2) pos) (tE X.K W (sliM k ma ml mh)) :=
  PE.imp (pe_slice (SlR.or sl_list (SlR.or sl_tupA sl_str)) ha hl hh) fun t H Q h => by
    obtain ⟨r, s, w, rfl, env, st, hp⟩ := h
    exact hp.bind env st fun x d s1 w1 e1 st1 r1 hp1 => hp1.bind (env.ext e1) st1 fun lo1 lo2 s2 w2 e2 st2 r2 hp2 => hp2.bind ((env.ext e1).ext e2) st2 fun hi1 hi2 s3 w3 e3 st3 r3 hp3 => by
      subst r2 r3
      have rx := (r1.ext e2).ext e3
      unfold sliD at hp3
      cases d with
      | str z =>
        cases rx
        dsimp only at hp3
        split at hp3
        · rename_i hl
          exact .inr (.inr ⟨z, rfl, hl, hp3.pure st3 (.str _)⟩)
        · exact hp3.elim
      | tup l =>
        cases rx with
        | tup hq rs =>
          refine .inr (.inl ⟨_, _, rfl, hq.sq, fun e => ?_, fun e => ?_⟩)
          · refine hp3.pure st3 (.tup hq ?_)
            have q := cutD_ok rs lo1 hi1
            unfold cutV at q
            rw [e.1, e.2, Nat.sub_zero, List.drop_zero, List.take_length] at q
            exact q
          · exact hp3.frz st3 fun p np => rep_newT st3 (cutD_ok rs lo1 hi1) np
      | _ =>
        dsimp only at hp3
        split at hp3
        · rename_i l el
          obtain ⟨p, vs, rfl, hq, rs⟩ := lstOf_ok st3 rx el
          exact .inl ⟨p, vs, rfl, hq, hp3.newL st3 (cutD_ok rs lo1 hi1)⟩
        · exact hp3.elim
/-! ### in, not in -/
theorem str_of_list {i : Str} {c : Nat} (h : i.cps.toList = [c]) : i = ⟨#[c]⟩ := by
  obtain ⟨a⟩ := i
  congr 1
  apply Array.ext'
  exact h
def rInG (K : Frag) (neg : Bool) : R2 := fun x y H Q => (∃ a o, y = .ref a ∧ DGet H a x o ∧ Q (.bl (if neg then !o.isSome else o.isSome)) H) ∨ (∃ (c : Nat) (z : Str), x = .str ⟨#[c]⟩ ∧ y = .str z ∧ Q (.bl (if neg then !decide (c ∈ z.cps.toList) else decide (c ∈ z.cps.toList))) H) ∨
  (∃ i j, x = .str i ∧ y = .str j ∧ Q (.bl (if neg then !(!(Builtin.Str.occurrences j i 0 j.length 1).isEmpty) else !(Builtin.Str.occurrences j i 0 j.length 1).isEmpty)) H) ∨ rIn K neg x y H Q
theorem v_in {neg : Bool} : VR2 X.K (rInG X.K neg) (inD neg) := fun w s x y d e Q E st rx ry hp => by
  unfold inD at hp
  split at hp
  · rename_i m hm
    obtain ⟨p, l, rfl, hd, kv⟩ := dctOf_ok st ry hm
    split at hp
    · rename_i k hk
      have ex := keyD_ok rx hk
      have g := getK_ok (k := k) kv
      refine .inl ⟨p, valV l k, rfl, .inl ⟨l, k, hd, ex, rfl⟩, ?_⟩
      cases eg : getK m k with
      | none =>
        rw [eg] at g hp
        have g' : valV l k = none := g
        rw [g']
        exact hp.pure st (.bl _)
      | some d3 =>
        rw [eg] at g hp
        obtain ⟨v, hv, rv⟩ := g
        rw [hv]
        exact hp.pure st (.bl _)
    · exact hp.elim
  · have seq : Post X.K (Rep X.K) w E Q (match seqOf s e with
      | some l => if (flatD d && l.all flatD) = true then .ok (.bl (if neg then !inF d l else inF d l)) s else .bad
      | none => .bad) → rIn X.K neg x y w.H Q := fun hp => by
      split at hp
      · rename_i l el
        obtain ⟨p, vs, rfl, hq, rs⟩ := seqOf_ok st ry el
        split at hp
        · rename_i hf
          obtain ⟨h1, h2⟩ := Bool.and_eq_true_iff.mp hf
          refine ⟨p, vs, rfl, hq, flat_ok rx h1, flats_ok rs h2, ?_⟩
          rw [inF_ok rx h1 rs h2]
          exact hp.pure st (.bl _)
        · exact hp.elim
      · exact hp.elim
    cases e with
    | str j =>
      cases ry
      cases d with
      | str i =>
        cases rx
        have q : Q (.bl (if neg then !inStr i j else inStr i j)) w.H := hp.pure st (.bl _)
        have alt : (∃ c0, i.cps.toList = [c0] ∧ inStr i j = decide (c0 ∈ j.cps.toList)) ∨ inStr i j = !(Builtin.Str.occurrences j i 0 j.length 1).isEmpty := by
          unfold inStr
          split
          · rename_i c0 hc
            exact .inl ⟨c0, hc, rfl⟩
          · exact .inr rfl
        rcases alt with ⟨c0, hc, e0⟩ | e0
        · rw [e0] at q
          have ei := str_of_list hc
          subst ei
          exact .inr (.inl ⟨c0, j, rfl, rfl, q⟩)
        · rw [e0] at q
          exact .inr (.inr (.inl ⟨i, j, rfl, rfl, q⟩))
      | _ => exact hp.elim
    | _ => exact .inr (.inr (.inr (seq hp)))
theorem o_in (hu : X.A.units + 1 < cLine) : OpR X (compareOp .In) (rInG X.K false) := OpR.or (op_inDict hu) (OpR.or op_in_sign (OpR.or op_in_str op_in_seq))
theorem o_notIn (hu : X.A.units + 1 < cLine) : OpR X (compareOp .NotIn) (rInG X.K true) := OpR.or (op_notInDict hu) (OpR.or op_notIn_sign (OpR.or op_notin_str op_notIn_seq))
theorem e_in (hu : X.A.units + 1 < cLine) (ha : PE X a (tE X.K W ma)) (hb : PE X b (tE X.K W mb)) (hm : behindInMarks .In b = false := by rfl) : PE X (.Compare a [.In] [b] pos) (tE X.K W (binM (inD false) ma mb)) := e_cmp (o_in hu) v_in ha hb hm
end
end Mp
set_option Elab.async false
set_option linter.all false
set_option maxRecDepth 100000
set_option maxHeartbeats 4000000
/-! Mp: statements, loops. -/
namespace Mp
open PySem PySem.Spec PyProof.Rows L2
/-! ### on data -/
def seqS (a b : DS) : DS := fun r s => match a r s with
  | .nx r' s' => b r' s'
  | f => f
def skipS : DS := fun r s => .nx r s
def brkS : DS := fun r s => .bk r s
def cntS : DS := fun r s => .ct r s
def setS (i : Nat) (m : DE) : DS := thenS m fun d => fun r s => .nx (r.set i (some d)) s
def exprS (m : DE) : DS := thenS m fun _ => fun r s => .nx r s
def retS (m : DE) : DS := thenS m fun d => fun _ s => .rt d s
def retN : DS := fun _ s => .rt .non s
def ifS (c : DM Bool) (a b : DS) : DS := thenS c fun k => if k = true then a else b
def nameG (i : Nat) : DG := fun d r s => some (r.set i (some d), s)
abbrev DGs := List D → En → Sto → Option (En × Sto)
def nilG : DGs := fun ds r s => match ds with
  | [] => some (r, s)
  | _ => none
def consG (g : DG) (h : DGs) : DGs := fun ds r s => match ds with
  | d :: l => (g d r s).bind fun p => h l p.1 p.2
  | [] => none
def tupG (n : Nat) (h : DGs) : DG := fun d r s => match seqOf s d with
  | some l => if l.length = n then h l r s else none
  | none => none
def asgS (m : DE) (g : DG) : DS := thenS m fun d => fun r s => match g d r s with
  | some p => .nx p.1 p.2
  | none => .bad
def par2S (i j : Nat) (m : DM (List D)) : DS := thenS m fun ds => fun r s => match ds with
  | [a, b] => .nx ((r.set i (some a)).set j (some b)) s
  | _ => .bad
def par3S (i j l : Nat) (m : DM (List D)) : DS := thenS m fun ds => fun r s => match ds with
  | [a, b, c] => .nx (((r.set i (some a)).set j (some b)).set l (some c)) s
  | _ => .bad
def augS (i : Nat) (f : D → D → Sto → Res D) (m : DE) : DS := thenS (binM f (vM i) m) fun d => fun r s => .nx (r.set i (some d)) s
def whileF (t : DM Bool) (b : DS) : Nat → DS
  | 0 => fun _ _ => .bad
  | n + 1 => fun r s => match t r s with
    | .ok k s1 => if k = true then (match b r s1 with
      | .nx r' s' => whileF t b n r' s'
      | .ct r' s' => whileF t b n r' s'
      | .bk r' s' => .nx r' s'
      | .rt d s' => .rt d s'
      | .exc C fs r' s' => .exc C fs r' s'
      | .bad => .bad) else .nx r s1
    | .exc C fs s1 => .exc C fs r s1
    | .bad => .bad
open Classical in
noncomputable def whileS (t : DM Bool) (b : DS) : DS := fun r s => if h : ∃ n, whileF t b n r s ≠ .bad then whileF t b (Classical.choose h) r s else .bad
/-- what a loop walks: its items; a cell that must stay as it is meanwhile -/
structure Src where
  its : List D
  cel : Option Nat
def SrcOk (c : Src) (s : Sto) : Prop := match c.cel with
  | none => True
  | some n => s[n]? = some (some (.lst c.its))
open Classical in
noncomputable def forF (c : Src) (g : DG) (b : DS) : List D → DS
  | [] => fun r s => if SrcOk c s then .nx r s else .bad
  | d :: l => fun r s => if SrcOk c s then (match g d r s with
    | none => .bad
    | some p => (match b p.1 p.2 with
      | .nx r' s' => forF c g b l r' s'
      | .ct r' s' => forF c g b l r' s'
      | .bk r' s' => .nx r' s'
      | .rt d s' => .rt d s'
      | .exc C fs r' s' => .exc C fs r' s'
      | .bad => .bad)) else .bad
noncomputable def forS (m : DM Src) (g : DG) (b : DS) : DS := thenS m fun c => forF c g b c.its
theorem whileF_mono {t : DM Bool} {b : DS} : ∀ {n : Nat} {r : En} {s : Sto}, whileF t b n r s ≠ .bad → ∀ m, n ≤ m → whileF t b m r s = whileF t b n r s
  | 0, _, _, h, _, _ => absurd rfl h
  | n + 1, r, s, h, 0, hm => by omega
  | n + 1, r, s, h, m + 1, hm => by
    unfold whileF at h ⊢
    cases e : t r s with
    | ok k s1 =>
      simp only [e] at h ⊢
      cases k with
      | false => rfl
      | true =>
        simp only [if_true] at h ⊢
        cases e2 : b r s1 with
        | nx r' s' =>
          simp only [e2] at h ⊢
          exact whileF_mono h m (by omega)
        | ct r' s' =>
          simp only [e2] at h ⊢
          exact whileF_mono h m (by omega)
        | _ => rfl
    | _ => rfl
theorem whileS_of {t : DM Bool} {b : DS} {n : Nat} {r : En} {s : Sto} (h : whileF t b n r s ≠ .bad) : whileS t b r s = whileF t b n r s := by
  unfold whileS
  have hx : ∃ n, whileF t b n r s ≠ .bad := ⟨n, h⟩
  rw [dif_pos hx]
  have h2 := Classical.choose_spec hx
  rcases Nat.le_total n (Classical.choose hx) with q | q
  · exact whileF_mono h _ q
  · exact (whileF_mono h2 _ q).symm
/-- one turn -/
theorem whileS_eq {t : DM Bool} {b : DS} {r : En} {s : Sto} : whileS t b r s = (match t r s with
    | .ok k s1 => if k = true then (match b r s1 with
      | .nx r' s' => whileS t b r' s'
      | .ct r' s' => whileS t b r' s'
      | .bk r' s' => .nx r' s'
      | .rt d s' => .rt d s'
      | .exc C fs r' s' => .exc C fs r' s'
      | .bad => .bad) else .nx r s1
    | .exc C fs s1 => .exc C fs r s1
    | .bad => .bad) := by
  have turn : ∀ r' s' n, whileF t b n r' s' = .bad ∨ whileF t b n r' s' = whileS t b r' s' := fun r' s' n => by
    by_cases h : whileF t b n r' s' = .bad
    · exact .inl h
    · exact .inr (whileS_of h).symm
  have nox : ∀ r' s', (∀ n, whileF t b n r' s' = .bad) → whileS t b r' s' = .bad := fun r' s' h => by
    unfold whileS
    rw [dif_neg]
    rintro ⟨n, hn⟩
    exact hn (h n)
  by_cases hx : ∃ n, whileF t b n r s ≠ .bad
  · obtain ⟨n, hn⟩ := hx
    rw [whileS_of hn]
    cases n with
    | zero => exact absurd rfl hn
    | succ n =>
      unfold whileF at hn ⊢
      cases e : t r s with
      | ok k s1 =>
        simp only [e] at hn ⊢
        cases k with
        | false => rfl
        | true =>
          simp only [if_true] at hn ⊢
          cases e2 : b r s1 with
          | nx r' s' =>
            simp only [e2] at hn ⊢
            exact (whileS_of hn).symm
          | ct r' s' =>
            simp only [e2] at hn ⊢
            exact (whileS_of hn).symm
          | _ => rfl
      | _ => rfl
  · have hb : ∀ n, whileF t b n r s = .bad := fun n => Classical.byContradiction fun h => hx ⟨n, h⟩
    rw [nox r s hb]
    have h1 := fun n => hb (n + 1)
    unfold whileF at h1
    cases e : t r s with
    | ok k s1 =>
      simp only [e] at h1 ⊢
      cases k with
      | false => exact (h1 0).symm
      | true =>
        simp only [if_true] at h1 ⊢
        cases e2 : b r s1 with
        | nx r' s' =>
          simp only [e2] at h1 ⊢
          exact (nox r' s' h1).symm
        | ct r' s' =>
          simp only [e2] at h1 ⊢
          exact (nox r' s' h1).symm
        | bk r' s' => simp only [e2] at h1; exact (h1 0).symm
        | rt d s' => simp only [e2] at h1; exact (h1 0).symm
        | exc C fs r' s' => simp only [e2] at h1; exact (h1 0).symm
        | bad => rfl
    | exc C fs s1 => simp only [e] at h1; exact (h1 0).symm
    | bad => rfl
/-! ### soundness -/
section
variable {X : Cx} {W : WX} {a b c : Expr} {es : List Expr} {pos : Pos} {ma mb mc : DE} {mr : DM (List D)} {st st2 : Stmt} {rest : List Stmt} {m1 m2 : DS}
theorem s_nil : PSs X [] (tS X.K W skipS) := PSs.imp pss_nil fun E t H h => by
  obtain ⟨r, s, w, rfl, env, st, hp⟩ := h
  exact hp t w (Ext.refl w) env st
theorem seq_imp {E : Ends} {t : L2.St} {H : Hp} {K : Frag} (h : tS K W (seqS m1 m2) E t H) : tSeq (tS K W m1) (tS K W m2) E t H := by
  obtain ⟨r, s, w, rfl, env, st, hp⟩ := h
  refine ⟨r, s, w, rfl, env, st, ?_⟩
  unfold seqS at hp
  cases e : m1 r s with
  | nx r' s' =>
    rw [e] at hp
    exact fun t' w' e' env' st' => ⟨r', s', w', rfl, env', st', hp.ext e'⟩
  | rt d s' => rw [e] at hp; exact hp
  | bk r' s' => rw [e] at hp; exact hp
  | ct r' s' => rw [e] at hp; exact hp
  | exc C fs r' s' => rw [e] at hp; exact hp
  | bad => rw [e] at hp; exact hp
theorem s_cons (h1 : PS X st (tS X.K W m1)) (h2 : PSs X rest (tS X.K W m2)) : PSs X (st :: rest) (tS X.K W (seqS m1 m2)) := PSs.imp (pss_cons h1 h2) fun E t H h => seq_imp h
theorem s_one (h1 : PS X st (tS X.K W m1)) : PSs X [st] (tS X.K W m1) := pss_one h1
theorem s_expr (he : PE X a (tE X.K W ma)) (hs : swapsWith a none pos.line X.env = pure false := by rfl) : PS X (.Expr a pos) (tS X.K W (exprS ma)) := PS.imp (ps_expr he hs) fun E t H h => by
  obtain ⟨r, s, w, rfl, env, st, hp⟩ := h
  exact hp.bind env st fun x d s1 w1 e1 st1 r1 hp1 => hp1 t w1 (Ext.refl w1) (env.ext e1) st1
theorem s_ret (he : PE X a (tE X.K W ma)) : PS X (.Return (some a) pos) (tS X.K W (retS ma)) := PS.imp (ps_ret he) fun E t H h => by
  obtain ⟨r, s, w, rfl, env, st, hp⟩ := h
  exact hp.bind env st fun x d s1 w1 e1 st1 r1 hp1 => hp1 x w1 (Ext.refl w1) st1 r1
theorem s_if {mt : DM Bool} {s1 s2 : List Stmt} (hc : PT X c (tT X.K W mt)) (ha : PSs X s1 (tS X.K W m1)) (hb : PSs X s2 (tS X.K W m2)) : PS X (.If c s1 s2 pos) (tS X.K W (ifS mt m1 m2)) := PS.imp (ps_if hc ha hb) fun E t H h => by
  obtain ⟨r, s, w, rfl, env, st, hp⟩ := h
  exact hp.bind env st fun x d s1 w1 e1 st1 r1 hp1 => by
    subst r1
    cases x with
    | true => exact ⟨r, s1, w1, rfl, env.ext e1, st1, hp1⟩
    | false => exact ⟨r, s1, w1, rfl, env.ext e1, st1, hp1⟩
theorem s_set {i : Nat} {x : Str} {pos' : Pos} (hN : X.N.Nodup) (hi : X.N[i]? = some x) (hx : Loc X.env.scope x) (he : PE X a (tE X.K W ma)) (hs : swapsWith a (some (.Name x pos')) pos.line X.env = pure false := by rfl)
    (hf : X.fn x = true ∨ X.env.scope.names.lookup x = some .local := by first | exact .inl rfl | exact .inr rfl | assumption) : PS X (.Assign [.Name x pos'] a pos) (tS X.K W (setS i ma)) := PS.imp (ps_set hN hi hx he hs hf) fun E t H h => by
  obtain ⟨r, s, w, rfl, env, st, hp⟩ := h
  exact hp.bind env st fun x d s1 w1 e1 st1 r1 hp1 => hp1 _ w1 (Ext.refl w1) ((env.ext e1).set r1 i) st1
/-! targets -/
def tG (K : Frag) (g : DG) : TG := fun v t H Q => ∃ r s w d, w.H = H ∧ EnvR K w r t ∧ StR K w s ∧ Rep K w v d ∧ (match g d r s with
  | some p => ∀ t' w', Ext w w' → EnvR K w' p.1 t' → StR K w' p.2 → Q t' w'.H
  | none => False)
def tGs (K : Frag) (g : DGs) : TGs := fun vs t H Q => ∃ r s w ds, w.H = H ∧ EnvR K w r t ∧ StR K w s ∧ Reps K w vs ds ∧ (match g ds r s with
  | some p => ∀ t' w', Ext w w' → EnvR K w' p.1 t' → StR K w' p.2 → Q t' w'.H
  | none => False)
theorem PG.imp {tg : Expr} {t t' : TG} (h : PG X tg t) (i : ∀ v σ H Q, t' v σ H Q → t v σ H Q) : PG X tg t' := ⟨fun pins s σ H v u Q I r q => h.run pins s σ H v u Q I r (i _ _ _ _ q)⟩
theorem PGs.imp {tg : List Expr} {t t' : TGs} (h : PGs X tg t) (i : ∀ v σ H Q, t' v σ H Q → t v σ H Q) : PGs X tg t' := ⟨fun pins s σ H v u Q I r q => h.run pins s σ H v u Q I r (i _ _ _ _ q)⟩
theorem PG.or {tg : Expr} {t t' : TG} (h : PG X tg t) (h' : PG X tg t') : PG X tg (fun v σ H Q => t v σ H Q ∨ t' v σ H Q) := ⟨fun pins s σ H v u Q I r q => q.elim (h.run pins s σ H v u Q I r) (h'.run pins s σ H v u Q I r)⟩
theorem g_name {i : Nat} {x : Str} (hN : X.N.Nodup) (hi : X.N[i]? = some x) (hx : Loc X.env.scope x) (hf : X.fn x = true ∨ X.env.scope.names.lookup x = some .local := by first | exact .inl rfl | exact .inr rfl | assumption) : PG X (.Name x pos) (tG X.K (nameG i)) :=
  PG.imp (pg_name hN hi hx hf) fun v t H Q h => by
    obtain ⟨r, s, w, d, rfl, env, st, rv, hp⟩ := h
    exact hp _ w (Ext.refl w) (env.set rv i) st
theorem gs_nil : PGs X [] (tGs X.K nilG) := PGs.imp pgs_nil fun v t H Q h => by
  obtain ⟨r, s, w, ds, rfl, env, st, rv, hp⟩ := h
  cases rv with
  | nil => exact ⟨rfl, hp _ w (Ext.refl w) env st⟩
  | cons _ _ => exact hp.elim
theorem gs_cons {g : DG} {g2 : DGs} (h1 : PG X a (tG X.K g)) (h2 : PGs X es (tGs X.K g2)) (hs : (assignEach (a :: es) X.env).map (·.2) = assign a X.env :: (assignEach es X.env).map (·.2) := by rfl) : PGs X (a :: es) (tGs X.K (consG g g2)) :=
  PGs.imp (pgs_cons h1 h2 hs) fun v t H Q h => by
    obtain ⟨r, s, w, ds, rfl, env, st, rv, hp⟩ := h
    cases rv with
    | nil => exact hp.elim
    | @cons v d vs ds r1 r2 =>
      refine ⟨v, vs, rfl, r, s, w, d, rfl, env, st, r1, ?_⟩
      unfold consG at hp
      dsimp only at hp
      cases e : g d r s with
      | none => rw [e] at hp; exact hp.elim
      | some p =>
        rw [e] at hp
        refine fun t' w' e' env' st' => ⟨p.1, p.2, w', ds, rfl, env', st', r2.ext e', ?_⟩
        have hp' : (match g2 ds p.1 p.2 with
          | some p => ∀ t' w', Ext w w' → EnvR X.K w' p.1 t' → StR X.K w' p.2 → Q t' w'.H
          | none => False) := hp
        cases e2 : g2 ds p.1 p.2 with
        | none => rw [e2] at hp'; exact hp'.elim
        | some p2 =>
          rw [e2] at hp'
          exact fun t2 w2 x2 => hp' t2 w2 (e'.trans x2)
theorem g_tup {k n : Nat} {g : DGs} (hc : X.calm = true) (h : PGs X es (tGs X.K g)) (hn : (assignEach es X.env).length = n := by rfl) (hst : (assignEach es X.env).findIdx? (·.1) = none := by rfl) : PG X (.Tuple es k pos) (tG X.K (tupG n g)) :=
  PG.imp (PG.or (pg_tup hc h hn hst) (pg_lst hc h hn hst)) fun v t H Q h => by
    obtain ⟨r, s, w, d, rfl, env, st, rv, hp⟩ := h
    unfold tupG at hp
    cases e : seqOf s d with
    | none => rw [e] at hp; exact hp.elim
    | some l =>
      rw [e] at hp
      dsimp only at hp
      obtain ⟨p, vs, rfl, hq, rs⟩ := seqOf_ok st rv e
      by_cases hl : l.length = n
      · rw [if_pos hl] at hp
        have hin : tGs X.K g vs t w.H Q := ⟨r, s, w, l, rfl, env, st, rs, hp⟩
        rcases hq with hq | hq
        · exact .inr ⟨p, vs, rfl, hq, by rw [rs.length, hl], hin⟩
        · exact .inl ⟨p, vs, rfl, hq, by rw [rs.length, hl], hin⟩
      · rw [if_neg hl] at hp
        exact hp.elim
theorem s_asg {tg : Expr} {g : DG} (he : PE X a (tE X.K W ma)) (hg : PG X tg (tG X.K g)) (hs : swapsWithSole [tg] a pos.line X.env = pure false := by rfl) (hw : swappedStores [tg] a X.env = pure none := by rfl)
    (h1 : (assignEach [tg] X.env).map (·.2) = [assign tg X.env] := by rfl) : PS X (.Assign [tg] a pos) (tS X.K W (asgS ma g)) := PS.imp (ps_asg he hg hs hw h1) fun E t H h => by
  obtain ⟨r, s, w, rfl, env, st, hp⟩ := h
  exact hp.bind env st fun x d s1 w1 e1 st1 r1 hp1 => by
    refine ⟨r, s1, w1, d, rfl, env.ext e1, st1, r1, ?_⟩
    cases e : g d r s1 with
    | none => rw [e] at hp1; exact hp1.elim
    | some p =>
      rw [e] at hp1
      exact hp1
theorem s_par2 {i j : Nat} {x y : Str} {px py pt : Pos} {kt k2 : Nat} {pt2 : Pos} (hc : X.calm = true) (hN : X.N.Nodup) (hi : X.N[i]? = some x) (hj : X.N[j]? = some y) (hij : i ≠ j) (hx : X.env.scope.names.lookup x = some .local) (hy : X.env.scope.names.lookup y = some .local)
    (ha : PA X [a, b] (tA X.K W mr)) (hw : swappedStores [.Tuple [.Name x px, .Name y py] kt pt] (.Tuple [a, b] k2 pt2) X.env = pure (some [x, y]) := by rfl)
    (hs : swapsWithSole [.Tuple [.Name x px, .Name y py] kt pt] (.Tuple [a, b] k2 pt2) pos.line X.env = pure false := by rfl) :
    PS X (.Assign [.Tuple [.Name x px, .Name y py] kt pt] (.Tuple [a, b] k2 pt2) pos) (tS X.K W (par2S i j mr)) := PS.imp (ps_par hc hN hi hj hij hx hy ha hw hs) fun E t H h => by
  obtain ⟨r, s, w, rfl, env, st, hp⟩ := h
  exact hp.bind env st fun vs ds s1 w1 e1 st1 r1 hp1 => by
    cases r1 with
    | nil => exact hp1.elim
    | cons q1 r2 =>
      cases r2 with
      | nil => exact hp1.elim
      | cons q2 r3 =>
        cases r3 with
        | nil => exact ⟨_, _, rfl, hp1 _ w1 (Ext.refl w1) (((env.ext e1).set q1 i).set q2 j) st1⟩
        | cons _ _ => exact hp1.elim
/-! while -/
theorem s_while {mt : DM Bool} {body : List Stmt} {mb : DS} (hp : PassesOwn (model X.prog X.w) X.A X.env X.xe) (hc : PT X c (tT X.K W mt)) (hb : PSs X body (tS X.K W mb)) : PS X (.While c body [] pos) (tS X.K W (whileS mt mb)) :=
  PS.imp (ps_while hp hc hb) fun E t H h => by
    obtain ⟨r, s, w, rfl, env, st, hp⟩ := h
    have hx : ∃ n, whileF mt mb n r s ≠ .bad := by
      apply Classical.byContradiction
      intro hx
      unfold whileS at hp
      rw [dif_neg hx] at hp
      exact hp.elim
    obtain ⟨n, hn⟩ := hx
    rw [whileS_of hn] at hp
    refine ⟨fun m t H => ∃ r s w, w.H = H ∧ EnvR X.K w r t ∧ StR X.K w s ∧ PostS X.K w W E (whileF mt mb m r s), ⟨n, r, s, w, rfl, env, st, hp⟩, fun m t H h => ?_⟩
    obtain ⟨r, s, w, rfl, env, st, hp⟩ := h
    cases m with
    | zero => exact hp.elim
    | succ m =>
      have hp' : PostS X.K w W E (thenS mt (fun k => if k = true then (fun r s => match mb r s with
        | .nx r' s' => whileF mt mb m r' s'
        | .ct r' s' => whileF mt mb m r' s'
        | .bk r' s' => .nx r' s'
        | .rt d s' => .rt d s'
        | .exc C fs r' s' => .exc C fs r' s'
        | .bad => .bad) else fun r s => .nx r s) r s) := by
        unfold whileF at hp
        unfold thenS
        cases e : mt r s with
        | ok k s1 =>
          rw [e] at hp
          cases k with
          | true => exact hp
          | false => exact hp
        | exc C fs s1 => rw [e] at hp; exact hp
        | bad => rw [e] at hp; exact hp
      exact hp'.bind env st fun x d s1 w1 e1 st1 r1 hp1 => by
        subst r1
        cases x with
        | false => exact hp1 t w1 (Ext.refl w1) (env.ext e1) st1
        | true =>
          have hp2 : PostS X.K w1 W E (match mb r s1 with
            | .nx r' s' => whileF mt mb m r' s'
            | .ct r' s' => whileF mt mb m r' s'
            | .bk r' s' => .nx r' s'
            | .rt d s' => .rt d s'
            | .exc C fs r' s' => .exc C fs r' s'
            | .bad => .bad) := hp1
          show (if true = true then _ else _)
          rw [if_pos rfl]
          refine ⟨fun t' H' => ∃ r s w, w.H = H' ∧ EnvR X.K w r t' ∧ StR X.K w s ∧ PostS X.K w W E (whileF mt mb m r s), fun t' H' q => ⟨m, Nat.lt_succ_self m, q⟩, r, s1, w1, rfl, env.ext e1, st1, ?_⟩
          cases e : mb r s1 with
          | nx r' s' =>
            rw [e] at hp2
            exact fun t' w' x' env' st' => ⟨r', s', w', rfl, env', st', hp2.ext x'⟩
          | ct r' s' =>
            rw [e] at hp2
            exact fun t' w' x' env' st' => ⟨r', s', w', rfl, env', st', hp2.ext x'⟩
          | bk r' s' => rw [e] at hp2; exact hp2
          | rt d s' => rw [e] at hp2; exact hp2
          | exc C fs r' s' => rw [e] at hp2; exact hp2
          | bad => rw [e] at hp2; exact hp2
/-! for -/
/-- an iterator that yields these -/
structure ItR (K : Frag) (w0 : Wd) (J : It) (c : Src) : Prop where
  go : ∀ (i : Nat) (d : D) (w : Wd) (s : Sto), c.its[i]? = some d → Ext w0 w → StR K w s → SrcOk c s → J.go i w.H ∧ ∀ x H', J.yld i w.H x H' → ∃ w', Ext w w' ∧ w'.H = H' ∧ StR K w' s ∧ Rep K w' x d
  stop : ∀ (w : Wd) (s : Sto), Ext w0 w → StR K w s → SrcOk c s → J.stop c.its.length w.H
abbrev tI (K : Frag) (W : WX) (m : DM Src) : TI := tM K (ItR K) W m
theorem PI.imp {tg iter : Expr} {t t' : TI} (h : PI X tg iter t) (i : ∀ σ H Q, t' σ H Q → t σ H Q) : PI X tg iter t' := ⟨fun pins s σ H Q I q => h.run pins s σ H Q I (i _ _ _ q)⟩
theorem PI.or {tg iter : Expr} {t t' : TI} (h : PI X tg iter t) (h' : PI X tg iter t') : PI X tg iter (fun σ H Q => t σ H Q ∨ t' σ H Q) := ⟨fun pins s σ H Q I q => q.elim (h.run pins s σ H Q I) (h'.run pins s σ H Q I)⟩
theorem s_for {tg iter : Expr} {body : List Stmt} {mi : DM Src} {g : DG} {mb : DS} (hp : PassesOwn (model X.prog X.w) X.A X.env X.xe) (hc : X.calm = true) (hi : PI X tg iter (tI X.K W mi)) (hg : PG X tg (tG X.K g)) (hb : PSs X body (tS X.K W mb))
    (hs : ∀ x, foldedSetIterable iter X.env x = pure x := by intro _; rfl) : PS X (.For tg iter body [] pos) (tS X.K W (forS mi g mb)) := PS.imp (ps_for hp hc hi hg hb hs) fun E t H h => by
  obtain ⟨r, s, w, rfl, env, st, hp⟩ := h
  exact hp.bind env st fun J sc s1 w1 e1 st1 r1 hp1 => by
    obtain ⟨its, cl⟩ := sc
    refine ⟨fun i m t H => i + m = its.length ∧ ∃ r s w, w.H = H ∧ Ext w1 w ∧ EnvR X.K w r t ∧ StR X.K w s ∧ PostS X.K w W E (forF ⟨its, cl⟩ g mb (its.drop i) r s), ⟨its.length, Nat.zero_add _, r, s1, w1, rfl, Ext.refl w1, env.ext e1, st1, hp1⟩, fun i m t H h => ?_⟩
    obtain ⟨him, r, s, w, rfl, ex, env, st, hp⟩ := h
    cases m with
    | zero =>
      have hi : i = its.length := by omega
      subst hi
      rw [List.drop_length] at hp
      unfold forF at hp
      by_cases ck : SrcOk ⟨its, cl⟩ s
      · rw [if_pos ck] at hp
        exact .inl ⟨r1.stop w s ex st ck, hp t w (Ext.refl w) env st⟩
      · rw [if_neg ck] at hp
        exact hp.elim
    | succ m =>
      have hlt : i < its.length := by omega
      have hd : its[i]? = some its[i] := List.getElem?_eq_getElem hlt
      rw [List.drop_eq_getElem_cons hlt] at hp
      unfold forF at hp
      by_cases ck : SrcOk ⟨its, cl⟩ s
      rotate_left
      · rw [if_neg ck] at hp
        exact hp.elim
      rw [if_pos ck] at hp
      obtain ⟨hgo, hy⟩ := r1.go i _ w s hd ex st ck
      refine .inr ⟨hgo, fun t' H' => i + 1 + m = its.length ∧ ∃ r s w, w.H = H' ∧ Ext w1 w ∧ EnvR X.K w r t' ∧ StR X.K w s ∧ PostS X.K w W E (forF ⟨its, cl⟩ g mb (its.drop (i + 1)) r s), fun t' H' q => ⟨m, Nat.lt_succ_self m, q⟩, fun x H' yl => ?_⟩
      obtain ⟨w2, x2, rfl, st2, rx⟩ := hy x H' yl
      refine ⟨r, s, w2, its[i], rfl, env.ext x2, st2, rx, ?_⟩
      cases eg : g its[i] r s with
      | none => rw [eg] at hp; exact hp.elim
      | some p =>
        rw [eg] at hp
        have hp3 := hp.ext x2
        refine fun t3 w3 x3 env3 st3 => ⟨p.1, p.2, w3, rfl, env3, st3, ?_⟩
        have hp4 := hp3.ext x3
        dsimp only at hp4
        cases e : mb p.1 p.2 with
        | nx r' s' =>
          rw [e] at hp4
          exact fun t' w' x' env' st' => ⟨by omega, r', s', w', rfl, ((ex.trans x2).trans x3).trans x', env', st', hp4.ext x'⟩
        | ct r' s' =>
          rw [e] at hp4
          exact fun t' w' x' env' st' => ⟨by omega, r', s', w', rfl, ((ex.trans x2).trans x3).trans x', env', st', hp4.ext x'⟩
        | bk r' s' => rw [e] at hp4; exact hp4
        | rt d s' => rw [e] at hp4; exact hp4
        | exc C fs r' s' => rw [e] at hp4; exact hp4
        | bad => rw [e] at hp4; exact hp4
end
end Mp
set_option Elab.async false
set_option linter.all false
set_option maxRecDepth 100000
set_option maxHeartbeats 4000000
/-! Mp: what is walked; comprehensions. -/
namespace Mp
open PySem PySem.Spec PyProof.Rows L2
def chars (z : Str) : List D := z.cps.toList.map fun c => .str ⟨#[c]⟩
def keyV : Key → D
  | .inl i => .int i
  | .inr z => .str z
/-- what a plain value yields -/
def srcD (s : Sto) : D → Option Src
  | .tup l => some ⟨l, none⟩
  | .kot l => some ⟨l, none⟩
  | .lst l => some ⟨l, none⟩
  | .rol l => some ⟨l, none⟩
  | .str z => some ⟨chars z, none⟩
  | .dct m => some ⟨m.map fun p => keyV p.1, none⟩
  | .cel n => (match s[n]? with
    | some (some (.lst l)) => some ⟨l, some n⟩
    | _ => none)
  | _ => none
/-- a dict that is walked is locked from now on -/
def lockD (s : Sto) : D → Option (List (Key × D) × Sto)
  | .dct m => some (m, s)
  | .cel n => (match s[n]? with
    | some (some (.dct m)) => some (m, s.set n (some (.rod m)))
    | some (some (.rod m)) => some (m, s)
    | _ => none)
  | _ => none
def srcM (s : Sto) (x : D) : Res Src := match lockD s x with
  | some p => .ok ⟨p.1.map fun p => keyV p.1, none⟩ p.2
  | none => okO s (srcD s x)
def seqI (a : DE) : DM Src := bindM a fun x => fun _ s => srcM s x
def intL (lo : Int) (n : Nat) : List D := (List.range n).map fun k => .int (lo + (k : Nat))
@[irreducible] def rangeD1 (ds : List D) (s : Sto) : Res Src := match ds with
  | [.int j] => if -(2 ^ 62) ≤ j ∧ j < 2 ^ 62 then .ok ⟨intL 0 j.toNat, none⟩ s else .bad
  | _ => .bad
def argI (f : List D → Sto → Res Src) (m : DM (List D)) : DM Src := bindM m fun ds => fun _ s => f ds s
/-! ### soundness -/
section
variable {X : Cx} {tg : Expr} {pins : List (Addr × Obj)} {t : L2.St} {H : Hp} {s1 : Shared} {R : It → Hp → Prop} {E : Value → Shared → Prop}
theorem it_list {p : Addr} {xs : List V} (I : Inv X pins t H s1) (hq : SqL X.K H p xs) (q : R (Itl X.K p) H) : wpAny (model X.prog X.w) X.A (pyIter (.ref p)) (PIE X pins t tg R) E s1 := by
  obtain ⟨vs, _, pl, _⟩ := I.list hq
  refine wpAny_pyIter_list pl.isList ⟨s1.heap.objs.size, [s1.heap.objs.size], _, _, H, rfl, I.kept (t' := s1.toks) fun _ _ z => Heap.get?_push_of_some _ z, turn_list p _, ⟨_, Heap.get?_push_size _ rfl, rfl, rfl⟩, fun z hz => ?_, q⟩
  cases List.mem_singleton.mp hz
  exact I.fpOk (Nat.le_refl _) (I.hok.fresh (Nat.le_refl _))
theorem it_tup {p : Addr} {xs : List V} (I : Inv X pins t H s1) (hq : SqT X.K H p xs) (q : R (Itt X.K p) H) : wpAny (model X.prog X.w) X.A (pyIter (.ref p)) (PIE X pins t tg R) E s1 := by
  obtain ⟨vs, _, pl, _⟩ := I.tuple hq
  refine wpAny_pyIter_tuple (show s1.heap.IsTuple p vs.toArray from pl) ⟨s1.heap.objs.size, [s1.heap.objs.size], _, _, H, rfl, I.kept (t' := s1.toks) fun _ _ z => Heap.get?_push_of_some _ z, turn_tuple p _, ⟨_, Heap.get?_push_size _ rfl, rfl, rfl⟩, fun z hz => ?_, q⟩
  cases List.mem_singleton.mp hz
  exact I.fpOk (Nat.le_refl _) (I.hok.fresh (Nat.le_refl _))
theorem it_str {x : Str} {k : Tok} (I : Inv X pins t H s1) (q : R (Its x) H) : wpAny (model X.prog X.w) X.A (pyIter (.str x k)) (PIE X pins t tg R) E s1 := by
  cases ha : x.cps.all (· < 128)
  · refine wpAny_pyIter_wide ha (pi_one (tk := s1.toks) I _ (turn_str _ x k "str_iterator" (Or.inr rfl)) ⟨_, Heap.get?_push_size _ rfl, rfl, rfl⟩ q)
  · refine wpAny_pyIter_ascii ha (pi_one (tk := s1.toks) I _ (turn_str _ x k "str_ascii_iterator" (Or.inl rfl)) ⟨_, Heap.get?_push_size _ rfl, rfl, rfl⟩ q)
end
theorem it_keys {X : Cx} {tg : Expr} {pins : List (Addr × Obj)} {t : L2.St} {H : Hp} {s1 : Shared} {R : It → Hp → Prop} {E : Value → Shared → Prop} {p : Addr} {o : Obj} {l : List (Key × V)} (I : Inv X pins t H s1) (hd : H p = some (.frz o (.dK l))) (q : R (Itk p o l) H) : wpAny (model X.prog X.w) X.A (pyIter (.ref p)) (PIE X pins t tg R) E s1 := by
  obtain ⟨hs, hg, hx, es, ep, vs, hdt, hsz, _, _⟩ := I.frzK hd
  refine iter_keys hs hg hx hdt (pi_one (tk := s1.toks) I _ (turn_keys _ hdt) ⟨_, Heap.get?_push_size _ rfl, rfl, by rw [hsz] <;> rfl⟩ q)
section
variable {K : Frag} {w : Wd}
theorem itR_list {p : Addr} {vs : List V} {ds : List D} (h : LAt K w p vs) (rs : Reps K w vs ds) : ItR K w (Itl K p) ⟨ds, none⟩ where
  go := fun i d w' s hd e st _ => by
    obtain ⟨v, hv, rv⟩ := rs.get hd
    refine ⟨⟨vs, v, (h.ext e).sq, hv⟩, fun x H' y => ?_⟩
    obtain ⟨rfl, y⟩ := y
    have e2 := (y vs (h.ext e).sq).symm.trans hv
    cases e2
    exact ⟨w', Ext.refl w', rfl, st, rv.ext e⟩
  stop := fun w' s e st _ => ⟨vs, (h.ext e).sq, by rw [rs.length]; exact Nat.le_refl _⟩
theorem itR_cell {p : Addr} {n : Nat} {ds : List D} (h : w.A n = some p) : ItR K w (Itl K p) ⟨ds, some n⟩ where
  go := fun i d w' s hd e st ck => by
    obtain ⟨a1, h1, _, vs, hh, rs⟩ := st.at_ n _ ck
    have ea : a1 = p := Option.some.inj (h1.symm.trans (e.A n p h))
    subst ea
    obtain ⟨v, hv, rv⟩ := rs.get hd
    refine ⟨⟨vs, v, SqL.of hh, hv⟩, fun x H' y => ?_⟩
    obtain ⟨rfl, y⟩ := y
    have e2 := (y vs (SqL.of hh)).symm.trans hv
    cases e2
    exact ⟨w', Ext.refl w', rfl, st, rv⟩
  stop := fun w' s e st ck => by
    obtain ⟨a1, h1, _, vs, hh, rs⟩ := st.at_ n _ ck
    have ea : a1 = p := Option.some.inj (h1.symm.trans (e.A n p h))
    subst ea
    exact ⟨vs, SqL.of hh, by rw [rs.length]; exact Nat.le_refl _⟩
theorem itR_kot {p : Addr} {vs : List V} {ds : List D} (h : KT K p vs) (rs : Reps K w vs ds) : ItR K w (Itt K p) ⟨ds, none⟩ where
  go := fun i d w' s hd e st _ => by
    obtain ⟨v, hv, rv⟩ := rs.get hd
    refine ⟨⟨vs, v, .inr h, hv⟩, fun x H' y => ?_⟩
    obtain ⟨rfl, y⟩ := y
    have e2 := (y vs (.inr h)).symm.trans hv
    cases e2
    exact ⟨w', Ext.refl w', rfl, st, rv.ext e⟩
  stop := fun w' s e st _ => ⟨vs, .inr h, by rw [rs.length]; exact Nat.le_refl _⟩
theorem itR_tup {p : Addr} {vs : List V} {ds : List D} (h : TAt K w p vs) (rs : Reps K w vs ds) : ItR K w (Itt K p) ⟨ds, none⟩ where
  go := fun i d w' s hd e st _ => by
    obtain ⟨v, hv, rv⟩ := rs.get hd
    refine ⟨⟨vs, v, (h.ext e).sq, hv⟩, fun x H' y => ?_⟩
    obtain ⟨rfl, y⟩ := y
    have e2 := (y vs (h.ext e).sq).symm.trans hv
    cases e2
    exact ⟨w', Ext.refl w', rfl, st, rv.ext e⟩
  stop := fun w' s e st _ => ⟨vs, (h.ext e).sq, by rw [rs.length]; exact Nat.le_refl _⟩
theorem itR_str {x : Str} : ItR K w (Its x) ⟨chars x, none⟩ where
  go := fun i d w' s hd e st _ => by
    have hd' : (x.cps.toList.map fun c => D.str ⟨#[c]⟩)[i]? = some d := hd
    rw [List.getElem?_map, Array.getElem?_toList] at hd'
    cases q : x.cps[i]? with
    | none => rw [q] at hd'; cases hd'
    | some c =>
      rw [q] at hd'
      have hl : i < x.cps.size := (Array.getElem?_eq_some_iff.mp q).1
      refine ⟨hl, fun y H' yl => ?_⟩
      obtain ⟨rfl, c2, q2, rfl⟩ := yl
      rw [q] at q2
      cases q2
      cases hd'
      exact ⟨w', Ext.refl w', rfl, st, .str _⟩
  stop := fun w' s e st _ => by
    show x.cps.size ≤ (x.cps.toList.map _).length
    rw [List.length_map, Array.length_toList]
    exact Nat.le_refl _
theorem itR_range {lo : Int} {n : Nat} : ItR K w (Itr lo n) ⟨intL lo n, none⟩ where
  go := fun i d w' s hd e st _ => by
    have hd' : ((List.range n).map fun k => D.int (lo + (k : Nat)))[i]? = some d := hd
    rw [List.getElem?_map] at hd'
    by_cases hi : i < n
    · rw [List.getElem?_range hi] at hd'
      cases hd'
      refine ⟨hi, fun x H' y => ?_⟩
      obtain ⟨rfl, rfl⟩ := y
      exact ⟨w', Ext.refl w', rfl, st, .int _⟩
    · rw [List.getElem?_eq_none (by rw [List.length_range]; omega)] at hd'
      cases hd'
  stop := fun w' s e st _ => by
    show n ≤ ((List.range n).map _).length
    rw [List.length_map, List.length_range]
    exact Nat.le_refl _
theorem rep_key {k : Key} : Rep K w (kV k) (keyV k) := by
  cases k with
  | inl i => exact .int i
  | inr z => exact .str z
theorem KVR.get {T : Type} : ∀ {l : List (T × V)} {m : List (T × D)} {i : Nat} {p : T × D}, KVR K w l m → m[i]? = some p → ∃ v, l[i]? = some (p.1, v) ∧ Rep K w v p.2
  | _, _, _, _, .nil, h => by simp at h
  | _, _, 0, _, .cons h _, e => by
    simp at e
    subst e
    exact ⟨_, rfl, h⟩
  | _, _, i + 1, _, .cons _ r, e => by
    simp at e
    obtain ⟨v, h1, h2⟩ := r.get e
    exact ⟨v, by simpa using h1, h2⟩
theorem itR_keys {p : Addr} {o : Obj} {l : List (Key × V)} {m : List (Key × D)} (z : w.Z p) (h : w.H p = some (.frz o (.dK l))) (r : KVR K w l m) : ItR K w (Itk p o l) ⟨m.map fun q => keyV q.1, none⟩ where
  go := fun i d w' s hd e st _ => by
    have hd' : (m.map fun q => keyV q.1)[i]? = some d := hd
    rw [List.getElem?_map] at hd'
    cases q : m[i]? with
    | none => rw [q] at hd'; cases hd'
    | some kd =>
      rw [q] at hd'
      cases hd'
      obtain ⟨v, hv, _⟩ := r.get q
      have hl : i < l.length := (List.getElem?_eq_some_iff.mp hv).1
      refine ⟨⟨(e.H p z).trans h, hl⟩, fun x H' y => ?_⟩
      obtain ⟨rfl, k2, v2, q2, rfl⟩ := y
      rw [hv] at q2
      cases q2
      exact ⟨w', Ext.refl w', rfl, st, rep_key⟩
  stop := fun w' s e st _ => ⟨(e.H p z).trans h, by
    show l.length ≤ (m.map _).length
    rw [List.length_map, r.length]
    exact Nat.le_refl _⟩
end
section
variable {X : Cx} {W : WX} {tg a b c : Expr} {es : List Expr} {pos p : Pos} {ma mb mc : DE} {mr : DM (List D)}
/-- a dict that is locked -/
theorem lock_ok {w : Wd} {s s' : Sto} {x : V} {d : D} {m : List (Key × D)} (st : StR X.K w s) (r : Rep X.K w x d) (h : lockD s d = some (m, s')) :
    ∃ a l, x = .ref a ∧ ((∃ o, w.Z a ∧ w.H a = some (.frz o (.dK l)) ∧ KVR X.K w l m ∧ s' = s) ∨ (w.H a = some (.dK l) ∧ ∀ o, Ext w (w.lock a (.frz o (.dK l))) ∧ StR X.K (w.lock a (.frz o (.dK l))) s' ∧ KVR X.K (w.lock a (.frz o (.dK l))) l m)) := by
  cases d with
  | dct m1 =>
    cases h
    obtain ⟨a, o, l, rfl, z, h1, h2⟩ := r.dct_inv
    exact ⟨a, l, rfl, .inl ⟨o, z, h1, h2, rfl⟩⟩
  | cel n =>
    unfold lockD at h
    dsimp only at h
    cases r with
    | cel ha =>
      cases e : s[n]? with
      | none => rw [e] at h; cases h
      | some oc =>
        rw [e] at h
        cases oc with
        | none => cases h
        | some c =>
          cases c with
          | dct l1 =>
            cases h
            obtain ⟨a1, h1, hz, l, hh, rs⟩ := st.at_ n _ e
            have ea := Option.some.inj (h1.symm.trans ha)
            subst ea
            refine ⟨_, l, rfl, .inr ⟨hh, fun o => ?_⟩⟩
            have ex : Ext w (w.lock a1 (.frz o (.dK l))) := Wd.lock_ext hz (st.np n _ a1 e h1)
            exact ⟨ex, Wd.lock_st st e h1 hz ⟨o, l, .inr rfl, upd_same, rs.ext ex⟩, rs.ext ex⟩
          | rod l1 =>
            cases h
            obtain ⟨a1, h1, _, o, l, z, hh, rs⟩ := st.at_ n _ e
            have ea := Option.some.inj (h1.symm.trans ha)
            subst ea
            exact ⟨_, l, rfl, .inl ⟨o, z, hh, rs, rfl⟩⟩
          | _ => cases h
  | _ => cases h
theorem i_seq (ha : PE X a (tE X.K W ma)) : PI X tg a (tI X.K W (seqI ma)) := by
  refine ⟨fun pins s t H R I h => ?_⟩
  obtain ⟨r, so, w, rfl, env, st, hp⟩ := h
  refine thn (ha.run pins s t w.H (fun x H1 => ∃ d s1 w1, w1.H = H1 ∧ Ext w w1 ∧ StR X.K w1 s1 ∧ Rep X.K w1 x d ∧ Post X.K (ItR X.K) w1 (fun c d H' => W c d t H') R (srcM s1 d)) I (hp.bind env st fun x d s1 w1 e1 st1 r1 hp1 => ⟨d, s1, w1, rfl, e1, st1, r1, hp1⟩)) fun v s1 h => ?_
  obtain ⟨x, H1, I1, rx, d, so1, w1, rfl, e1, st1, r1, hp1⟩ := h
  unfold srcM at hp1
  cases el : lockD so1 d with
  | some ms =>
    obtain ⟨m, so2⟩ := ms
    rw [el] at hp1
    obtain ⟨a, l, rfl, q⟩ := lock_ok st1 r1 el
    cases rx
    rcases q with ⟨o, z, hh, kv, rfl⟩ | ⟨hh, q⟩
    · exact it_keys I1 hh (hp1.pure st1 (itR_keys z hh kv))
    · obtain ⟨od, I2⟩ := I1.lock hh trivial
      obtain ⟨ex, st2, kv⟩ := q od
      exact it_keys I2 upd_same (hp1 _ (w1.lock a (.frz od (.dK l))) ex st2 (itR_keys (.inr rfl) upd_same kv))
  | none =>
  rw [el] at hp1
  dsimp only at hp1
  cases r1 with
  | tup hh rs =>
    cases rx
    exact it_tup I1 hh.sq (hp1.pure st1 (itR_tup hh rs))
  | kot hh rs =>
    cases rx
    exact it_tup I1 (.inr hh) (hp1.pure st1 (itR_kot hh rs))
  | lst z hh rs =>
    cases rx
    exact it_list I1 (SqL.of hh) (hp1.pure st1 (itR_list (.inl ⟨z, .inl hh⟩) rs))
  | rol hh rs =>
    cases rx
    exact it_list I1 hh.sq (hp1.pure st1 (itR_list hh rs))
  | str z =>
    obtain ⟨k, rfl⟩ := rx
    exact it_str I1 (hp1.pure st1 itR_str)
  | dct z hh hl rs => cases el
  | @cel n a0 hA =>
    cases rx
    unfold srcD at hp1
    dsimp only at hp1
    cases e : so1[n]? with
    | none => rw [e] at hp1; exact hp1.elim
    | some o =>
      cases o with
      | none => rw [e] at hp1; exact hp1.elim
      | some ct =>
        cases ct with
        | lst l =>
          rw [e] at hp1
          obtain ⟨a1, h1, _, vs, hh, rs⟩ := st1.at_ n _ e
          have ea : a1 = a0 := Option.some.inj (h1.symm.trans hA)
          subst ea
          exact it_list I1 (SqL.of hh) (hp1.pure st1 (itR_cell hA))
        | _ => rw [e] at hp1; exact hp1.elim
  | _ => exact hp1.elim
theorem i_range1 (hg : Gl X "range") (hm : X.mg "range" = none) (ha : PA X [a] (tA X.K W mr)) (hs : starEach [a] X.env = [(false, eval a X.env)] := by rfl) : PI X tg (.Call (.Name "range" p) [a] [] pos) (tI X.K W (argI rangeD1 mr)) :=
  PI.imp (pi_range1 hg hm ha hs) fun t H Q h => by
    obtain ⟨r, s, w, rfl, env, st, hp⟩ := h
    exact hp.bind env st fun vs ds s1 w1 e1 st1 r1 hp1 => by
      unfold rangeD1 at hp1
      split at hp1
      · rename_i j
        cases r1 with
        | cons q1 r2 =>
          cases q1
          cases r2
          split at hp1
          · rename_i hb
            exact ⟨j, rfl, hb.1, hb.2, hp1.pure st1 itR_range⟩
          · exact hp1.elim
      · exact hp1.elim
end
end Mp
set_option Elab.async false
set_option linter.all false
set_option maxRecDepth 100000
set_option maxHeartbeats 4000000
/-! Mp: comprehensions. -/
namespace Mp
open PySem PySem.Spec PyProof.Rows L2
def wipeE (r : En) : List Nat → En
  | [] => r
  | v :: vs => (wipeE r vs).set v none
open Classical in
noncomputable def lcF (c : Src) (g : DG) (tt : DM Bool) (te : DE) (r : En) : List D → List D → Sto → Res (List D)
  | [], acc, s => if SrcOk c s then .ok acc s else .bad
  | d :: l, acc, s => if SrcOk c s then (match g d r s with
    | none => .bad
    | some p => (match tt p.1 p.2 with
      | .ok k s1 => if k = true then (match te p.1 s1 with
        | .ok y s2 => if acc.length < sizeLine then lcF c g tt te r l (acc ++ [y]) s2 else .bad
        | _ => .bad) else lcF c g tt te r l acc s1
      | _ => .bad)) else .bad
noncomputable def lcM (k : Bool) (mi : DM Src) (g : DG) (tt : DM Bool) (te : DE) (vs : List Nat) : DE := bindM mi fun c => fun r s => match lcF c g tt te (wipeE r vs) c.its [] s with
  | .ok acc s' => newL k acc s'
  | _ => .bad
def yesM : DM Bool := pureM true
abbrev W0 : WX := fun _ _ _ _ => False
/-! ### targets that keep the rest -/
def tGw (K : Frag) (g : DG) (ns : List Nat) : TG := fun v t H Q => ∃ r s w d, w.H = H ∧ EnvR K w r t ∧ StR K w s ∧ Rep K w v d ∧ (match g d r s with
  | some p => ∀ t' w', Ext w w' → EnvR K w' p.1 t' → StR K w' p.2 → wipe t' ns = wipe t ns → Q t' w'.H
  | none => False)
theorem set_comm' {T : Type} {l : List T} {i j : Nat} {x y : T} (h : i ≠ j) : (l.set i x).set j y = (l.set j y).set i x := List.set_comm x y h
theorem wipe_set {t : L2.St} {i : Nat} {x : Option V} : ∀ {ns : List Nat}, i ∈ ns → wipe (t.set i x) ns = wipe t ns
  | [], h => by simp at h
  | n :: ns, h => by
    unfold wipe
    by_cases hn : i ∈ ns
    · rw [wipe_set hn]
    · have e : i = n := by
        rcases List.mem_cons.mp h with h | h
        · exact h
        · exact absurd h hn
      subst e
      have key : ∀ {ms : List Nat}, i ∉ ms → wipe (t.set i x) ms = (wipe t ms).set i x := by
        intro ms
        induction ms with
        | nil => intro _; rfl
        | cons m ms ih =>
          intro hm
          have h1 : m ≠ i := fun z => hm (z ▸ List.mem_cons_self)
          have h2 : i ∉ ms := fun z => hm (List.mem_cons_of_mem _ z)
          unfold wipe
          rw [ih h2, set_comm' h1.symm]
      rw [key hn, List.set_set]
theorem wipe_env {K : Frag} {w : Wd} {r : En} {t : L2.St} (h : EnvR K w r t) : ∀ ns : List Nat, EnvR K w (wipeE r ns) (wipe t ns)
  | [] => h
  | n :: ns => (wipe_env h ns).unset n
section
variable {X : Cx} {a : Expr} {es : List Expr} {pos : Pos} {ns : List Nat}
theorem gw_name {i : Nat} {x : Str} (hN : X.N.Nodup) (hi : X.N[i]? = some x) (hx : Loc X.env.scope x) (hm : i ∈ ns) (hf : X.fn x = true ∨ X.env.scope.names.lookup x = some .local := by first | exact .inl rfl | exact .inr rfl | assumption) : PG X (.Name x pos) (tGw X.K (nameG i) ns) :=
  PG.imp (pg_name hN hi hx hf) fun v t H Q h => by
    obtain ⟨r, s, w, d, rfl, env, st, rv, hp⟩ := h
    exact hp _ w (Ext.refl w) (env.set rv i) st (wipe_set hm)
theorem ts_nil {W : WX} : PTs X [] (tT X.K W yesM) := ⟨fun pins s t H Q I h => by
  obtain ⟨r, so, w, rfl, env, st, hp⟩ := h
  exact pts_nil.run pins s t w.H Q I (hp.pure st rfl)⟩
end
/-! ### a pinned list -/
def Wd.pin (w : Wd) (p : Addr) (o : HO) : Wd := ⟨w.A, w.Z, fun a => w.P a ∨ a = p, upd w.H p o⟩
section
variable {K : Frag} {w w0 : Wd} {s : Sto} {p : Addr} {o : HO}
theorem Wd.pin_ext (st : StR K w s) (h : w.H p = none) : Ext w (w.pin p o) :=
  ⟨⟨fun _ _ h => h, fun _ h => h, fun a z => upd_ne fun e => st.fz a z (e ▸ h)⟩, fun _ h => .inl h, fun a z => upd_ne fun e => (st.pz a z).2 (e ▸ h)⟩
theorem Wd.pin_st (st : StR K w s) (h : w.H p = none) (ht : ∀ xs, o ≠ .tup xs := by exact fun _ h => nomatch h) : StR K (w.pin p o) s := by
  have e := Wd.pin_ext (o := o) st h
  refine ⟨fun n ct q => ?_, fun n ct a q ha z => ?_, fun a z => ?_, st.inj, fun a z => ?_, st.new, fun a z xs q => ?_⟩
  rotate_right
  · by_cases ha : a = p
    · rw [ha, show (w.pin p o).H p = some o from upd_same] at q
      exact ht xs (Option.some.inj q)
    · rw [show (w.pin p o).H a = w.H a from upd_ne ha] at q
      exact st.pt a (z.resolve_right ha) xs q
  · obtain ⟨a, h1, h2, h3⟩ := st.at_ n ct q
    obtain ⟨ob, ho, _⟩ := h3.some
    exact ⟨a, h1, h2, h3.same e (upd_ne (ne_of_none ho h))⟩
  · obtain ⟨b, h1, h2, h3⟩ := st.at_ n ct q
    obtain ⟨ob, ho, _⟩ := h3.some
    have eb : b = a := Option.some.inj (h1.symm.trans ha)
    subst eb
    exact z.elim (st.np n ct b q ha) (ne_of_none ho h)
  · rcases z with z | z
    · have ne : a ≠ p := fun q => (st.pz a z).2 (q ▸ h)
      exact ⟨(st.pz a z).1, by rw [show (w.pin p o).H a = w.H a from upd_ne ne]; exact (st.pz a z).2⟩
    · subst z
      exact ⟨fun q => st.fz a q h, by rw [show (w.pin a o).H a = some o from upd_same]; exact fun q => nomatch q⟩
  · have ne : a ≠ p := fun q => st.fz a z (q ▸ h)
    rw [show (w.pin p o).H a = w.H a from upd_ne ne]
    exact st.fz a z
theorem Wd.turn_ex0 (st : StR K w s) (hP : w.P p) : Ex0 w (w.put p o) := ⟨fun _ _ h => h, fun _ h => h, fun a z => upd_ne fun e => (st.pz p hP).1 (e ▸ z)⟩
theorem Wd.turn_ext (e : Ext w0 w) (h1 : ¬ w0.Z p) (h2 : ¬ w0.P p) : Ext w0 (w.put p o) :=
  ⟨⟨e.A, e.Z, fun a z => (show upd w.H p o a = w.H a from upd_ne fun q => h1 (q ▸ z)).trans (e.H a z)⟩, e.P, fun a z => (show upd w.H p o a = w.H a from upd_ne fun q => h2 (q ▸ z)).trans (e.HP a z)⟩
theorem Wd.turn_st (st : StR K w s) (hP : w.P p) (ht : ∀ xs, o ≠ .tup xs := by exact fun _ h => nomatch h) : StR K (w.put p o) s := by
  have e := Wd.turn_ex0 (o := o) st hP
  refine ⟨fun n ct q => ?_, st.np, fun a z => ⟨(st.pz a z).1, ?_⟩, st.inj, fun a z => ?_, st.new, fun a z xs q => ?_⟩
  rotate_right
  · by_cases ha : a = p
    · rw [ha, show (w.put p o).H p = some o from upd_same] at q
      exact ht xs (Option.some.inj q)
    · rw [show (w.put p o).H a = w.H a from upd_ne ha] at q
      exact st.pt a z xs q
  · obtain ⟨a, h1, h2, h3⟩ := st.at_ n ct q
    have ne : a ≠ p := fun q2 => st.np n ct a q h1 (q2 ▸ hP)
    exact ⟨a, h1, h2, h3.sam0 e (upd_ne ne)⟩
  · show upd w.H p o a ≠ none
    by_cases ha : a = p
    · rw [ha, upd_same]; exact fun q => nomatch q
    · rw [upd_ne ha]; exact (st.pz a z).2
  · show upd w.H p o a ≠ none
    by_cases ha : a = p
    · rw [ha, upd_same]; exact fun q => nomatch q
    · rw [upd_ne ha]; exact st.fz a z
/-- the pinned list is let go: frozen, or a cell -/
theorem Post.unpin {E : XK} {Q : VK} {k : Bool} {ds : List D} {vs : List V} (hp : Post K (Rep K) w0 E Q (Mp.newL k ds s)) (e : Ext w0 w) (st : StR K w s) (h1 : ¬ w0.P p) (hP : w.P p) (hh : w.H p = some (.lst vs)) (rs : Reps K w vs ds) : Q (.ref p) w.H := by
  have nz := (st.pz p hP).1
  cases k with
  | false =>
    have hp' : Post K (Rep K) w0 E Q (.ok (.lst ds) s) := hp
    let w2 : Wd := ⟨w.A, fun a => w.Z a ∨ a = p, fun a => w.P a ∧ a ≠ p, w.H⟩
    have e0 : Ex0 w w2 := ⟨fun _ _ h => h, fun _ h => .inl h, fun _ _ => rfl⟩
    have e2 : Ext w0 w2 := ⟨⟨e.A, fun a z => .inl (e.Z a z), e.H⟩, fun a z => ⟨e.P a z, fun q => h1 (q ▸ z)⟩, e.HP⟩
    refine hp' (.ref p) w2 e2 ⟨fun n ct q => ?_, fun n ct a q ha z => st.np n ct a q ha z.1, fun a z => ⟨fun q => q.elim (st.pz a z.1).1 z.2, (st.pz a z.1).2⟩, st.inj, fun a z => ?_, st.new, st.ptk (fun _ h => h.1) (fun _ _ => rfl)⟩ (.lst (.inr rfl) hh (rs.ex0 e0))
    · obtain ⟨a, k1, k2, k3⟩ := st.at_ n ct q
      exact ⟨a, k1, k2.mono (w' := w2) fun (z : w.Z a ∨ a = p) => Or.elim z id fun z => absurd (z ▸ hP) (st.np n ct a q k1), k3.sam0 e0 rfl⟩
    · rcases z with z | z
      · exact st.fz a z
      · rw [z, show w2.H p = some (.lst vs) from hh]
        exact fun q => nomatch q
  | true =>
    have hp' : Post K (Rep K) w0 E Q (.ok (.cel s.length) (s ++ [some (.lst ds)])) := hp
    let w2 : Wd := ⟨fun m => if m = s.length then some p else w.A m, w.Z, fun a => w.P a ∧ a ≠ p, w.H⟩
    have hA : ∀ m a, w.A m = some a → w2.A m = some a := fun m a q => by
      have ne : ¬ m = s.length := fun z => by
        rw [st.new m (by omega)] at q
        exact nomatch q
      show (if m = s.length then some p else w.A m) = some a
      rw [if_neg ne]
      exact q
    have e0 : Ex0 w w2 := ⟨hA, fun _ h => h, fun _ _ => rfl⟩
    have e2 : Ext w0 w2 := ⟨⟨fun n a q => hA n a (e.A n a q), e.Z, e.H⟩, fun a z => ⟨e.P a z, fun q => h1 (q ▸ z)⟩, e.HP⟩
    have at' : ∀ m ct, (s ++ [some (Ct.lst ds)])[m]? = some (some ct) → (m < s.length ∧ s[m]? = some (some ct)) ∨ (m = s.length ∧ ct = .lst ds) := fun m ct q => by
      by_cases hm : m < s.length
      · rw [List.getElem?_append_left hm] at q
        exact .inl ⟨hm, q⟩
      · rw [List.getElem?_append_right (by omega)] at q
        by_cases h0 : m - s.length = 0
        · rw [h0] at q
          exact .inr ⟨by omega, by simpa using q.symm⟩
        · rw [List.getElem?_eq_none (by simp; omega)] at q
          cases q
    have AtN : w2.A s.length = some p := if_pos rfl
    have AtO : ∀ m, m < s.length → w2.A m = w.A m := fun m hm => if_neg (by omega)
    have npo : ∀ m ct a, s[m]? = some (some ct) → w.A m = some a → a ≠ p := fun m ct a q ha z => st.np m ct a q ha (z ▸ hP)
    refine hp' (.ref p) w2 e2 ⟨fun m ct q => ?_, fun m ct a q ha z => ?_, fun a z => st.pz a z.1, fun m k b x y qm qk hm hk => ?_, st.fz, fun m hm => ?_, st.ptk (fun _ h => h.1) (fun _ _ => rfl)⟩ (.cel AtN)
    · rcases at' m ct q with ⟨hm, q⟩ | ⟨rfl, rfl⟩
      · obtain ⟨a, k1, k2, k3⟩ := st.at_ m ct q
        exact ⟨a, hA m a k1, k2, k3.sam0 e0 rfl⟩
      · exact ⟨p, AtN, nz, vs, hh, rs.ex0 e0⟩
    · rcases at' m ct q with ⟨hm, q⟩ | ⟨rfl, rfl⟩
      · rw [AtO m hm] at ha
        exact st.np m ct a q ha z.1
      · rw [AtN] at ha
        cases ha
        exact z.2 rfl
    · rcases at' m x qm with ⟨lm, qm'⟩ | ⟨rfl, rfl⟩
      · rcases at' k y qk with ⟨lk, qk'⟩ | ⟨rfl, rfl⟩
        · rw [AtO m lm] at hm
          rw [AtO k lk] at hk
          exact st.inj m k b x y qm' qk' hm hk
        · rw [AtO m lm] at hm
          rw [AtN] at hk
          cases hk
          exact absurd rfl (npo m x _ qm' hm)
      · rcases at' k y qk with ⟨lk, qk'⟩ | ⟨rfl, rfl⟩
        · rw [AtO k lk] at hk
          rw [AtN] at hm
          cases hm
          exact absurd rfl (npo k y _ qk' hk)
        · rfl
    · rw [List.length_append] at hm
      have hm' : s.length + 1 ≤ m := hm
      show (if m = s.length then some p else w.A m) = none
      rw [if_neg (by omega)]
      exact st.new m (by omega)
end
/-! ### the reading -/
theorem lc_imp {K : Frag} {W : WX} {k : Bool} {mi : DM Src} {g : DG} {tt : DM Bool} {te : DE} {ns : List Nat} {t : L2.St} {H : Hp} {Q : VK} (h : tE K W (lcM k mi g tt te ns) t H Q) : tLc (tI K W mi) (tGw K g ns) (tT K W0 tt) (tE K W0 te) ns t H Q := by
  obtain ⟨r, s, w, rfl, env, st, hp⟩ := h
  exact hp.bind env st fun J sc s1 w1 e1 st1 r1 hp1 => by
    obtain ⟨its, cl⟩ := sc
    intro Dn nD
    have hz : ¬ w1.Z Dn := fun z => st1.fz Dn z nD
    have hP : ¬ w1.P Dn := fun z => (st1.pz Dn z).2 nD
    have env1 := env.ext e1
    cases ef : lcF ⟨its, cl⟩ g tt te (wipeE r ns) its [] s1 with
    | exc C fs s' => simp only [ef] at hp1; exact hp1.elim
    | bad => simp only [ef] at hp1; exact hp1.elim
    | ok fin sf =>
      simp only [ef] at hp1
      refine ⟨fun i m H => i + m = its.length ∧ ∃ (w : Wd) (s : Sto) (acc : List D) (vs : List V), w.H = H ∧ Ext w1 w ∧ StR K w s ∧ w.P Dn ∧ w.H Dn = some (.lst vs) ∧ Reps K w vs acc ∧ lcF ⟨its, cl⟩ g tt te (wipeE r ns) (its.drop i) acc s = .ok fin sf,
        ⟨its.length, Nat.zero_add _, w1.pin Dn (.lst []), s1, [], [], rfl, Wd.pin_ext st1 nD, Wd.pin_st st1 nD, .inr rfl, upd_same, .nil, ef⟩, fun i m H h => ?_⟩
      obtain ⟨him, w2, s2, acc, vs, rfl, x2, st2, hP2, hh2, rs2, ef2⟩ := h
      cases m with
      | zero =>
        have hi : i = its.length := by omega
        subst hi
        rw [List.drop_length] at ef2
        unfold lcF at ef2
        by_cases ck : SrcOk ⟨its, cl⟩ s2
        · rw [if_pos ck] at ef2
          cases ef2
          exact .inl ⟨r1.stop w2 sf x2 st2 ck, Post.unpin hp1 x2 st2 hP hP2 hh2 rs2⟩
        · rw [if_neg ck] at ef2
          cases ef2
      | succ m =>
        have hlt : i < its.length := by omega
        have hd : its[i]? = some its[i] := List.getElem?_eq_getElem hlt
        rw [List.drop_eq_getElem_cons hlt] at ef2
        unfold lcF at ef2
        by_cases ck : SrcOk ⟨its, cl⟩ s2
        rotate_left
        · rw [if_neg ck] at ef2
          cases ef2
        rw [if_pos ck] at ef2
        obtain ⟨hgo, hy⟩ := r1.go i _ w2 s2 hd x2 st2 ck
        refine .inr ⟨hgo, fun H' => i + 1 + m = its.length ∧ ∃ (w : Wd) (s : Sto) (acc : List D) (vs : List V), w.H = H' ∧ Ext w1 w ∧ StR K w s ∧ w.P Dn ∧ w.H Dn = some (.lst vs) ∧ Reps K w vs acc ∧ lcF ⟨its, cl⟩ g tt te (wipeE r ns) (its.drop (i + 1)) acc s = .ok fin sf,
          fun H' q => ⟨m, Nat.lt_succ_self m, q⟩, fun x H' yl => ?_⟩
        obtain ⟨w3, x3, rfl, st3, rx⟩ := hy x H' yl
        refine ⟨wipeE r ns, s2, w3, its[i], rfl, (wipe_env env1 ns).ext (x2.trans x3), st3, rx, ?_⟩
        cases eg : g its[i] (wipeE r ns) s2 with
        | none => rw [eg] at ef2; cases ef2
        | some p =>
          rw [eg] at ef2
          dsimp only at ef2
          intro t4 w4 x4 env4 st4 wi4
          refine ⟨?_, ?_⟩
          · have ww : wipe (wipe t ns) ns = wipe t ns := by
              have key : ∀ ms : List Nat, (∀ j ∈ ms, j ∈ ns) → wipe (wipe t ms) ns = wipe t ns := by
                intro ms
                induction ms with
                | nil => intro _; rfl
                | cons j ms ih =>
                  intro hj
                  show wipe ((wipe t ms).set j none) ns = wipe t ns
                  rw [wipe_set (hj j List.mem_cons_self)]
                  exact ih fun q hq => hj q (List.mem_cons_of_mem _ hq)
              exact key ns fun j hj => hj
            rw [← ww]
            exact wi4
          · refine ⟨p.1, p.2, w4, rfl, env4, st4, ?_⟩
            cases et : tt p.1 p.2 with
            | exc C fs s' => rw [et] at ef2; cases ef2
            | bad => rw [et] at ef2; cases ef2
            | ok kk s5 =>
              rw [et] at ef2
              dsimp only at ef2
              intro b w5 x5 st5 eb
              subst eb
              have x25 := ((x2.trans x3).trans x4).trans x5
              have x5' := (x3.trans x4).trans x5
              cases b with
              | false => exact ⟨by omega, w5, s5, acc, vs, rfl, x25, st5, x5'.P Dn hP2, (x5'.HP Dn hP2).trans hh2, rs2.ext x5', ef2⟩
              | true =>
                refine ⟨p.1, s5, w5, rfl, env4.ext x5, st5, ?_⟩
                simp only [if_true] at ef2
                cases ee : te p.1 s5 with
                | exc C fs s' => rw [ee] at ef2; cases ef2
                | bad => rw [ee] at ef2; cases ef2
                | ok y s6 =>
                  rw [ee] at ef2
                  dsimp only at ef2
                  by_cases hl : acc.length < sizeLine
                  rotate_left
                  · rw [if_neg hl] at ef2
                    cases ef2
                  rw [if_pos hl] at ef2
                  intro v w6 x6 st6 rv
                  have x6' := x5'.trans x6
                  have P6 := x6'.P Dn hP2
                  have H6 : w6.H Dn = some (.lst vs) := (x6'.HP Dn hP2).trans hh2
                  have e0 := Wd.turn_ex0 (o := .lst (vs ++ [v])) st6 P6
                  refine ⟨vs, H6, by rw [rs2.length]; exact hl, by omega, w6.put Dn (.lst (vs ++ [v])), s6, acc ++ [y], vs ++ [v], rfl, Wd.turn_ext (x25.trans x6) hz hP, Wd.turn_st st6 P6, P6, upd_same, ?_, ef2⟩
                  exact ((rs2.ext x6').ex0 e0).append (.cons (rv.ex0 e0) .nil)
section
variable {X : Cx} {W : WX} {elt tg iter : Expr} {ifs : List Expr} {scope : Scope} {own : List (Str × Nat)} {pos : Pos} {mi : DM Src} {g : DG} {tt : DM Bool} {te : DE}
theorem e_lc (k : Bool) (hc : X.calm = true) (hN : X.N.Nodup) (hi : PI X tg iter (tI X.K W mi)) (ok : BlkOk X.N X.env.scope scope own)
    (hg : ∀ (s : Shared) (H : Hp) (C : Addr) (cl : List (Str × Addr)) (fp : List Addr), PG (X.blk s H scope (compEnvC scope cl C X.env) fp) tg (tGw X.K g (own.map (·.2))))
    (ht : ∀ (s : Shared) (H : Hp) (C : Addr) (cl : List (Str × Addr)) (fp : List Addr), PTs (X.blk s H scope (compEnvC scope cl C X.env) fp) ifs (tT X.K W0 tt))
    (he : ∀ (s : Shared) (H : Hp) (C : Addr) (cl : List (Str × Addr)) (fp : List Addr), PE (X.blk s H scope (compEnvC scope cl C X.env) fp) elt (tE X.K W0 te)) (hs : ∀ x, foldedSetIterable iter X.env x = pure x := by intro _; rfl) :
    PE X (.ListComp elt [⟨tg, iter, ifs, 0⟩] scope pos) (tE X.K W (lcM k mi g tt te (own.map (·.2)))) := PE.imp (pe_lc hc hN hi ok hg ht he hs) fun t H Q h => lc_imp h
end
end Mp
set_option Elab.async false
set_option linter.all false
set_option maxRecDepth 100000
set_option maxHeartbeats 4000000
/-! Mp: defs, calls, own classes. -/
namespace Mp
open PySem PySem.Spec PyProof.Rows L2
abbrev DF := List D → Sto → Res D
/-- a def's promise by its function on data -/
def spD (K : Frag) (m : DF) : Sp := fun vs H Q E => ∃ ds s w, w.H = H ∧ Reps K w vs ds ∧ StR K w s ∧ Post K (Rep K) w E Q (m ds s)
/-- the function of a body: its slots, its statement -/
def bodyX (n : Nat) (b : DS) : DF := fun ds s => match b (ds.map some ++ List.replicate (n - ds.length) none) s with
  | .nx _ s' => .ok .non s'
  | .rt d s' => .ok d s'
  | .exc C fs _ s' => .exc C fs s'
  | _ => .bad
/-- the parameters' values: k of them, the last ones with defaults -/
def argsD (k : Nat) (dd : List D) (ds : List D) : Option (List D) := if ds.length ≤ k ∧ k ≤ ds.length + dd.length then some (ds ++ dd.drop (ds.length + dd.length - k)) else none
def bodyM (k : Nat) (dd : List D) (n : Nat) (b : DS) : DF := fun ds s => match argsD k dd ds with
  | some es => bodyX n b es s
  | none => .bad
def callM (m : DF) (a : DM (List D)) : DE := bindM a fun ds => fun _ s => m ds s
inductive Ak where
  | fld | prop (m : DF) | con (d : D)
def attrD (tb : List (Str × Ak)) (f : Str) (x : D) (s : Sto) : Res D := match insOf s x with
  | none => .bad
  | some (C, fs) => (match tb.lookup C with
    | some .fld => okO s (fs.lookup f)
    | some (.prop m) => m [x] s
    | some (.con d) => (match fs.lookup f with
      | none => .ok d s
      | some _ => .bad)
    | none => .bad)
def attrM (tb : List (Str × Ak)) (f : Str) (a : DE) : DE := bindM a fun x => fun _ s => attrD tb f x s
def methM (tb : List (Str × DF)) (m : Str) (o : DE) (a : DM (List D)) : DE := bindM o fun x => fun r s => match insOf s x with
  | none => .bad
  | some (C, fs) => (match fs.lookup m with
    | some _ => .bad
    | none => (match tb.lookup C with
      | none => .bad
      | some f => (bindM a fun ds => fun _ s => f (x :: ds) s) r s))
/-- a new instance: its __init__, then frozen or not -/
def freezeI (k : Bool) (n : Nat) (s : Sto) : Res D := if k = true then .ok (.cel n) s else (match s[n]? with
  | some (some (.ins C fs)) => .ok (.ins C fs) (s.set n none)
  | _ => .bad)
def makeM (k : Bool) (C : Str) (m : DF) (a : DM (List D)) : DE := bindM a fun ds => fun _ s => match m (.cel s.length :: ds) (s ++ [some (.ins C [])]) with
  | .ok .non s' => freezeI k s.length s'
  | .ok _ _ => .bad
  | .exc E fs s' => .exc E fs s'
  | .bad => .bad
def putD (f : Str) (d : D) : List (Str × D) → List (Str × D)
  | [] => [(f, d)]
  | (g, x) :: r => if g = f then (g, d) :: r else (g, x) :: putD f d r
/-- o.f = e -/
def fldS (tb : List Str) (f : Str) (o v : DE) : DS := thenS v fun y => thenS o fun x => fun r s => match x with
  | .cel n => (match s[n]? with
    | some (some (.ins C fs)) => if C ∈ tb ∧ fs.length < 1000 then .nx r (s.set n (some (.ins C (putD f y fs)))) else .bad
    | _ => .bad)
  | _ => .bad
/-! ### soundness -/
theorem KVR.lookup {K : Frag} {w : Wd} {f : Str} : ∀ {l : List (Str × V)} {m : List (Str × D)}, KVR K w l m → (match m.lookup f with | some d => ∃ v, l.lookup f = some v ∧ Rep K w v d | none => l.lookup f = none)
  | _, _, .nil => rfl
  | _, _, .cons (k := j) h r => by
    have ih := KVR.lookup (f := f) r
    by_cases e : f = j
    · subst e
      simp only [List.lookup_cons_self]
      exact ⟨_, rfl, h⟩
    · have hb : (f == j) = false := by simpa using e
      simp only [List.lookup_cons, hb]
      exact ih
theorem KVR.put {K : Frag} {w : Wd} {f : Str} {y : V} {d : D} (q : Rep K w y d) : ∀ {l : List (Str × V)} {m : List (Str × D)}, KVR K w l m → KVR K w (putF f y l) (putD f d m)
  | _, _, .nil => .cons q .nil
  | _, _, .cons (k := j) h r => by
    unfold putF putD
    by_cases e : j = f
    · rw [if_pos e, if_pos e]
      exact .cons q r
    · rw [if_neg e, if_neg e]
      exact .cons h (r.put q)
section
variable {P : Program} {w : World} {K : Frag} {mg : Str → Option Value} {base : Heap}
/-- room, and no repr under way -/
structure Rm (k : Nat) (A : Around) : Prop where
  rm : Room k A
  gd : A.guards = some []
theorem Rm.mono {j k : Nat} {A : Around} (r : Rm k A) (h : j ≤ k) : Rm j A := ⟨r.rm.mono h, r.gd⟩
theorem Rm.in1 {k : Nat} {A : Around} (r : Rm (k + 1) A) : Rm k A.in1 := ⟨r.rm.in1, r.gd⟩
theorem Rm.deeper {k : Nat} {A : Around} (r : Rm (k + 1) A) (env : Env) : Rm k (A.deeper env) := ⟨r.rm.deeper env, r.gd⟩
theorem Rm.make {k : Nat} {A : Around} (r : Rm (k + 1) A) (C : Addr) (us : List Value) (kw : List (Str × Value)) : Rm k (A.under (.builtin "type.__call__" ⟨.ref C :: us, kw⟩)) :=
  ⟨r.rm.make C us kw, by
    have e : Code.guards (.builtin "type.__call__" ⟨.ref C :: us, kw⟩) = [] := by
      unfold Code.guards
      exact if_neg (by show ¬ (guardIds.contains "type.__call__" = true); decide +kernel)
    show pushGuards (Code.guards (.builtin "type.__call__" ⟨.ref C :: us, kw⟩)) A.guards = _
    rw [e, r.gd]
    rfl⟩
/-- a promise by positional values, however they are bound, where no repr is under way -/
def FnG (P : Program) (w : World) (K : Frag) (mg : Str → Option Value) (base : Heap) (CX : CXT) (k : Nat) (f : Addr) (sp : Sp) : Prop :=
  ∀ (A : Around) (outer : List Env) (s : Shared) (H : Hp) (us : List Value) (vs : List V) (Q : VK) (E : XK), Rm k A → Env0 P w K mg base A outer s H → Vals vs us → sp vs H Q E → codeAny (model P w) A (.call (.ref f) ⟨us, []⟩) (CR CX outer P w H s Q E) s
theorem FnG.mono {CX : CXT} {j k : Nat} {f : Addr} {sp : Sp} (F : FnG P w K mg base CX j f sp) (h : j ≤ k) : FnG P w K mg base CX k f sp := fun A outer s H us vs Q E hr => F A outer s H us vs Q E (hr.mono h)
abbrev FnD (P : Program) (w : World) (K : Frag) (mg : Str → Option Value) (base : Heap) (k : Nat) (f : Addr) (m : DF) : Prop := FnG P w K mg base (L2.CX P w) k f (spD K m)
theorem env_start {u : Wd} {n : Nat} : ∀ {vs : List V} {ds : List D}, Reps K u vs ds → EnvR K u (ds.map some ++ List.replicate (n - ds.length) none) (vs.map some ++ List.replicate (n - vs.length) none) := fun {vs ds} rs => by
  refine ⟨by simp [rs.length], fun i d h => ?_⟩
  by_cases hi : i < ds.length
  · rw [List.getElem?_append_left (by simpa using hi), List.getElem?_map] at h
    cases e : ds[i]? with
    | none => rw [e] at h; cases h
    | some d' =>
      rw [e] at h
      cases h
      obtain ⟨v, hv, rv⟩ := rs.get e
      refine ⟨v, ?_, rv⟩
      rw [List.getElem?_append_left (by simpa [rs.length] using hi), List.getElem?_map, hv]
      rfl
  · rw [List.getElem?_append_right (by simpa using Nat.le_of_not_lt hi)] at h
    rw [List.getElem?_replicate] at h
    split at h <;> cases h
theorem body_end {n : Nat} {b : DS} {vs : List V} {ds : List D} {so : Sto} {u : Wd} {Q : VK} {E : XK} (rs : Reps K u vs ds) (st : StR K u so) (hp : Post K (Rep K) u E Q (bodyX n b ds so)) :
    tS K (fun c d _ H' => E c d H') b { nx := fun _ H' => Q .non H', rt := Q } (vs.map some ++ List.replicate (n - vs.length) none) u.H := by
  refine ⟨_, so, u, rfl, env_start (n := n) rs, st, ?_⟩
  unfold bodyX at hp
  cases e : b (ds.map some ++ List.replicate (n - ds.length) none) so with
  | nx r' s' => rw [e] at hp; exact fun t' w' e' _ st' => hp .non w' e' st' .non
  | rt d s' => rw [e] at hp; exact hp
  | bk r' s' => rw [e] at hp; exact hp.elim
  | ct r' s' => rw [e] at hp; exact hp.elim
  | exc C fs r' s' => rw [e] at hp; exact fun t' ed w' e' _ st' x' => hp ed w' e' st' x'
  | bad => rw [e] at hp; exact hp.elim
/-- what a def's derivation is -/
abbrev BodyD (P : Program) (w : World) (K : Frag) (mg : Str → Option Value) (base : Heap) (N : List Str) (qual : Str) (scope : Scope) (f : Addr) (k : Nat) (body : List Stmt) (b : DS) : Prop :=
  ∀ (cdv : Value) (A : Around) (outer : List Env) (s : Shared) (H : Hp) (E : XK), Rm k (A.deeper (envOfC qual scope s.heap.objs.size f cdv)) → PSs (cxOf (L2.CX P w) P w K mg base N qual scope f cdv A outer s H E) body (tS K (fun c d _ H' => E c d H') b)
/-- a def keeps the promise of its function on data, by the derivation of its body -/
theorem fn_ok {x qual : Str} {params : Arguments} {body : List Stmt} {scope : Scope} {dvs : List V} {kws : List (Str × V)} {f : Addr} {fd : FuncData} {N ps : List Str} {k : Nat} {b : DS} {dd : List D} (F : FunD K x qual params body scope dvs kws f fd) (S : FnScope N ps scope)
    (hD : ∀ w, Reps K w dvs dd) (hB : ∀ j, j ≤ dvs.length → ∃ ds, Vals (dvs.drop j) ds ∧ Binds K fd ps ds) (hbody : BodyD P w K mg base N qual scope f k body b) : FnD P w K mg base (k + 1) f (bodyM ps.length dd N.length b) := by
  intro A outer s H us vs Q E hr e0 r h
  obtain ⟨ds, so, u, rfl, rs, st, hp⟩ := h
  unfold bodyM argsD at hp
  have l1 := rs.length
  have l2 := (hD u).length
  split at hp
  · rename_i es he
    split at he
    · rename_i hc
      cases he
      obtain ⟨dv, rv, hb⟩ := hB (ds.length + dd.length - ps.length) (by omega)
      have rs2 := rs.append ((hD u).drop (ds.length + dd.length - ps.length))
      obtain ⟨oc, od, dV, kV, doc, pm, an, cdv, ct, osl, rfl, lk, hcd, hD1, hK⟩ := F.ex
      have hl : (vs ++ dvs.drop (ds.length + dd.length - ps.length)).length = ps.length := by
        rw [rs2.length, List.length_append, List.length_drop]
        omega
      have rr := r.append rv
      refine StX.run_bnd lk hcd S hr.rm e0 (G := fun xs H2 => xs = vs ++ dvs.drop (ds.length + dd.length - ps.length) ∧ H2 = u.H) (fun A' Ex Q' h => ?_) fun s2 H2 xs hx hr' => ?_
      · exact hb s us (e0.mod.kin.keeps fun b o e => (e0.bs b o e).1) (by rw [← rr.length]; exact hl) _ _ _ _ (h s u.H _ _ e0 Un.refl rfl (fun _ _ z => z) rr hl ⟨rfl, rfl⟩)
      · obtain ⟨rfl, rfl⟩ := hx
        exact ⟨_, hbody cdv A outer s2 u.H E (hr.deeper _), body_end rs2 st hp⟩
    · cases he
  · exact hp.elim
/-- .. without defaults -/
theorem fn_ok0 {x qual : Str} {params : Arguments} {body : List Stmt} {scope : Scope} {kws : List (Str × V)} {f : Addr} {fd : FuncData} {N ps : List Str} {k : Nat} {b : DS} (F : FunD K x qual params body scope [] kws f fd) (S : FnScope N ps scope)
    (hB : ∀ (kV doc pm : Value) (an : Option Addr) (cdv ct : Value) (us : List Value), us.length = ps.length → bindArgs (PySem.W.fnOf x qual params body scope .none kV doc pm an cdv ct) ⟨us, []⟩ = pure (ps.zip us)) (hbody : BodyD P w K mg base N qual scope f k body b) :
    FnD P w K mg base (k + 1) f (bodyM ps.length [] N.length b) :=
  fn_ok F S (fun _ => .nil) (fun j hj => ⟨[], by rw [List.drop_nil]; exact .nil, F.bindsN hB⟩) hbody
end
section
variable {X : Cx} {W : WX} {a b c o : Expr} {es : List Expr} {pos p apos : Pos} {ma mb mo : DE} {mr : DM (List D)} {m x : Str} {k : Nat} {f : Addr} {mf : DF}
theorem run_fnRD {pins : List (Addr × Obj)} {t : L2.St} {H : Hp} {s : Shared} {Q : VK} {E : XK} {us : List Value} {vs : List V} {sp : Sp} {CX : CXT} (F : FnG X.prog X.w X.K X.mg X.base CX k f sp) (hr : Rm k X.A) (hx : PassesAt CX X t E) (I : Inv X pins t H s) (r : Vals vs us) (h : sp vs H Q E) :
    wpAny (model X.prog X.w) X.A (call (.ref f) us) (EP X pins t Q) X.xe s := by
  refine wpAny_call (codeAny_mono (F X.A X.stack s H us vs Q E hr I.env0 r h) fun z s' hz => ?_)
  cases z with
  | error er => exact hx pins H s er s' I hz
  | ok fl =>
    cases fl with
    | ret u => exact I.after hz
    | _ => exact hz.elim
theorem sp_post {w : Wd} {s : Sto} {vs : List V} {dv : List D} {Q : VK} {E : XK} {K : Frag} (rs : Reps K w vs dv) (st : StR K w s) (hp : Post K (Rep K) w E Q (mf dv s)) : spD K mf vs w.H Q E := ⟨dv, s, w, rfl, rs, st, hp⟩
theorem sp_bind {w : Wd} {s : Sto} {r : En} {t : L2.St} {Q : VK} {K : Frag} (hp : Post K (Rep K) w (fun c d H' => W c d t H') Q (callM mf mr r s)) : Post K (Reps K) w (fun c d H' => W c d t H') (fun vs H1 => spD K mf vs H1 Q (WE W t)) (mr r s) := by
  unfold callM bindM at hp
  cases e : mr r s with
  | ok dv s1 =>
    rw [e] at hp
    exact fun vs w1 e1 st1 r1 => sp_post r1 st1 (Post.ext e1 hp)
  | exc C fs s1 => rw [e] at hp; exact hp
  | bad => rw [e] at hp; exact hp
/-- f(e, ..) -/
theorem e_call (tk : Takes X W) (F : FnD X.prog X.w X.K X.mg X.base k f mf) (hr : Rm k X.A) (hg : Gl X x) (hm : X.mg x = some (.ref f)) (hk : PySem.W.keepIn X.K (.ref f) = true)
    (ha : PA X (a :: es) (tA X.K W mr)) (hdb : (x == ("__debug__" : Str)) = false := by decide) (he : starEach (a :: es) X.env = (false, eval a X.env) :: starEach es X.env := by rfl) (hpl : (backTo pos (starEach es X.env)).any (·.1) = false := by rfl) :
    PE X (.Call (.Name x p) (a :: es) [] pos) (tE X.K W (callM mf mr)) := by
  refine ⟨fun pins s t H Q I h => ?_⟩
  obtain ⟨r, so, w, rfl, env, st, hp⟩ := h
  refine wpAny_Call_Name_kw (ld_glob I hg hm ?_ hdb)
  refine PySem.W.callWith_K (h₀ := X.base) I.ok.mod.kin hk (thn (ha.run pos pins s t w.H _ I ⟨r, so, w, rfl, env, st, sp_bind hp⟩) fun us s1 ⟨vs, H1, I1, rv, q⟩ => ⟨I1.kIn, ?_⟩) he hpl
  exact run_fnRD F hr (passAt tk t) I1 rv q
/-! attributes -/
structure PropD (X : Cx) (C : Str) (f : Str) (m : DF) : Prop where
  cls : Cls X.K (He.ga X.K C)
  ex : ∃ (q g : Addr) (k : Nat), PropOf X.K (He.ga X.K C) f q g ∧ FnD X.prog X.w X.K X.mg X.base k g m ∧ Rm (k + 1) X.A
theorem getprop_R {C q g a0 dx : Addr} {fs : List (Str × V)} {nm : Str} {sp : Sp} {CX : CXT} {E : XK} {pins : List (Addr × Obj)} {t : L2.St} {H : Hp} {s : Shared} {Q : VK} {bb : Bool} {E1 : Value → Shared → Prop} (I : Inv X pins t H s) (ea : H a0 = some (.ins C dx fs)) (c : Cls X.K C) (hp : PropOf X.K C nm q g)
    (F : FnG X.prog X.w X.K X.mg X.base CX k g sp) (hr : Rm (k + 1) X.A) (hx : Passes CX X.nox E) (h : sp [.ref a0] H Q E) : wpAny (model X.prog X.w) X.A (getAttr (.ref a0) nm bb) (EP X pins t Q) E1 s := by
  obtain ⟨mA, O, _, _, _, _⟩ := ins_get I.hok ea
  obtain ⟨od, J, _⟩ := O.look
  obtain ⟨rest, hrec⟩ := hp.rec_
  have I1 := I.tok (s.toks + 1)
  have hc : (PySem.W.clsIn X.K C).isSome = true := by
    obtain ⟨cd, hc, _⟩ := PySem.W.any_some c.hd
    rw [hc]
    rfl
  have P1 := PySem.W.plainGet_of (c.get nm)
  refine PySem.W.get_bind I.kIn J P1.1 (PySem.W.findObj_data hc hp.at_ hp.get hp.tak) P1.2 (wpAny_call (PySem.W.prop_get (s := { s with toks := s.toks + 1 }) I.kIn hrec ?_))
  refine codeAny_mono (F X.A.in1 X.stack { s with toks := s.toks + 1 } H [.ref a0] [.ref a0] Q E hr.in1 I1.env0.in1 (.cons rfl .nil) h) fun z s' hz => ?_
  cases z with
  | error er => exact (hx pins t H _ er s' (I1.wish _) hz).elim
  | ok fl =>
    cases fl with
    | ret u =>
      obtain ⟨v, H2, I3, rv, q3⟩ := I1.after hz
      refine wpAny_of_eq (PySem.W.handedOut_of (handed_of rv)) ?_
      exact ⟨v, H2, I3, rv, q3⟩
    | _ => exact hz.elim
inductive ATab (X : Cx) (f : Str) : List (Str × Ak) → Prop
  | nil : ATab X f []
  | fld {C : Str} {r : List (Str × Ak)} : Cls X.K (He.ga X.K C) → NoAttr X.K (He.ga X.K C) f → ATab X f r → ATab X f ((C, .fld) :: r)
  | prop {C : Str} {m : DF} {r : List (Str × Ak)} : PropD X C f m → (∀ d s C fs s', m [d] s ≠ .exc C fs s') → ATab X f r → ATab X f ((C, .prop m) :: r)
  | con {C : Str} {d : D} {v : V} {u : Value} {r : List (Str × Ak)} : Cls X.K (He.ga X.K C) → Con X.K (He.ga X.K C) f v u → (∀ w, Rep X.K w v d) → ATab X f r → ATab X f ((C, .con d) :: r)
def AkOk (X : Cx) (f C : Str) : Ak → Prop
  | .fld => Cls X.K (He.ga X.K C) ∧ NoAttr X.K (He.ga X.K C) f
  | .prop m => PropD X C f m ∧ ∀ d s C fs s', m [d] s ≠ .exc C fs s'
  | .con d => Cls X.K (He.ga X.K C) ∧ ∃ v u, Con X.K (He.ga X.K C) f v u ∧ ∀ w, Rep X.K w v d
theorem ATab.get {f C : Str} {kd : Ak} : ∀ {tb : List (Str × Ak)}, ATab X f tb → tb.lookup C = some kd → AkOk X f C kd
  | _, .nil, h => by simp at h
  | _, .fld (C := E) h1 h2 r, h => by
    by_cases e : C = E
    · subst e
      rw [List.lookup_cons_self] at h
      cases h
      exact ⟨h1, h2⟩
    · have hb : (C == E) = false := by simpa using e
      rw [List.lookup_cons, hb] at h
      exact r.get h
  | _, .prop (C := E) h1 h2 r, h => by
    by_cases e : C = E
    · subst e
      rw [List.lookup_cons_self] at h
      cases h
      exact ⟨h1, h2⟩
    · have hb : (C == E) = false := by simpa using e
      rw [List.lookup_cons, hb] at h
      exact r.get h
  | _, .con (C := E) h1 h2 h3 r, h => by
    by_cases e : C = E
    · subst e
      rw [List.lookup_cons_self] at h
      cases h
      exact ⟨h1, _, _, h2, h3⟩
    · have hb : (C == E) = false := by simpa using e
      rw [List.lookup_cons, hb] at h
      exact r.get h
theorem e_attr {g : Str} {tb : List (Str × Ak)} (T : ATab X g tb) (ha : PE X a (tE X.K W ma)) (hab : attributeBase a g X.env (eval a X.env) = eval a X.env := by rfl) : PE X (.Attribute a g pos) (tE X.K W (attrM tb g ma)) := by
  refine ⟨fun pins s t H Q I h => ?_⟩
  obtain ⟨r, so, w, rfl, env, st, hp⟩ := h
  refine attr_of hab (thn (ha.run pins s t w.H (fun x H1 => ∃ d s1 w1, w1.H = H1 ∧ StR X.K w1 s1 ∧ Rep X.K w1 x d ∧ Post X.K (Rep X.K) w1 (fun c d H' => W c d t H') Q (attrD tb g d s1)) I (hp.bind env st fun x d s1 w1 e1 st1 r1 hp1 => ⟨d, s1, w1, rfl, st1, r1, hp1⟩)) fun v s1 h => ?_)
  obtain ⟨y, H1, I1, rx, d, so1, w1, rfl, st1, r1, hp1⟩ := h
  unfold attrD at hp1
  cases e : insOf so1 d with
  | none => rw [e] at hp1; exact hp1.elim
  | some q =>
    obtain ⟨C, fs⟩ := q
    rw [e] at hp1
    dsimp only at hp1
    obtain ⟨q, dx, l, rfl, hh, kv⟩ := insOf_ok st1 r1 e
    obtain rfl : v = Value.ref q := rx
    cases e2 : tb.lookup C with
    | none => rw [e2] at hp1; exact hp1.elim
    | some kd =>
      rw [e2] at hp1
      have A := T.get e2
      have g1 := kv.lookup (f := g)
      cases kd with
      | fld =>
        dsimp only at hp1
        cases e3 : fs.lookup g with
        | none => rw [e3] at hp1; exact hp1.elim
        | some d3 =>
          rw [e3] at g1 hp1
          obtain ⟨v3, hv3, rv3⟩ := g1
          exact getattr_ok I1 hh A.1 A.2 hv3 fun u' s2 I2 ru => ⟨v3, w1.H, I2, ru, hp1.pure st1 rv3⟩
      | prop mm =>
        obtain ⟨⟨hc, q2, g2, kk, hpo, F, hr⟩, nox⟩ := A
        refine getprop_R (E := fun _ _ _ => False) I1 hh hc hpo F hr (fun pins σ H s e s' _ z => ?_) ?_
        · obtain ⟨_, _, _, _, _, _, _, _, _, _, _, _, z⟩ := z
          exact z
        · refine sp_post (.cons r1 .nil) st1 ?_
          dsimp only at hp1
          cases e4 : mm [d] so1 with
          | ok d4 s4 => rw [e4] at hp1; exact hp1
          | exc E4 f4 s4 => exact absurd e4 (nox _ _ _ _ _)
          | bad => rw [e4] at hp1; exact hp1
      | con dc =>
        obtain ⟨hc, v3, u3, hcon, rep3⟩ := A
        dsimp only at hp1
        cases e3 : fs.lookup g with
        | some d3 => rw [e3] at hp1; exact hp1.elim
        | none =>
          rw [e3] at g1 hp1
          exact getcon_ok I1 hh hc hcon g1 fun s2 I2 => ⟨v3, w1.H, I2, hcon.rel, hp1.pure st1 (rep3 w1)⟩
/-! methods -/
structure MethD (X : Cx) (C m : Str) (mf : DF) : Prop where
  cls : Cls X.K (He.ga X.K C)
  ex : ∃ (g : Addr) (k : Nat), Meth X.K (He.ga X.K C) m g ∧ FnD X.prog X.w X.K X.mg X.base k g mf ∧ Rm k X.A
inductive MTab (X : Cx) (m : Str) : List (Str × DF) → Prop
  | nil : MTab X m []
  | cons {C : Str} {f : DF} {r : List (Str × DF)} : MethD X C m f → MTab X m r → MTab X m ((C, f) :: r)
theorem MTab.get {C : Str} {f : DF} : ∀ {tb : List (Str × DF)}, MTab X m tb → tb.lookup C = some f → MethD X C m f
  | _, .nil, h => by simp at h
  | _, .cons (C := E) h1 r, h => by
    by_cases e : C = E
    · subst e
      rw [List.lookup_cons_self] at h
      cases h
      exact h1
    · have hb : (C == E) = false := by simpa using e
      rw [List.lookup_cons, hb] at h
      exact r.get h
/-- o.m( *e) -/
structure MethB (X : Cx) (C m : Str) (mf : DF) : Prop where
  cls : Cls X.K (He.ga X.K C)
  ex : ∃ (g : Addr) (k : Nat), BMeth X.K (He.ga X.K C) m g ∧ FnD X.prog X.w X.K X.mg X.base k g mf ∧ Rm k X.A
inductive BTab (X : Cx) (m : Str) : List (Str × DF) → Prop
  | nil : BTab X m []
  | cons {C : Str} {f : DF} {r : List (Str × DF)} : MethB X C m f → BTab X m r → BTab X m ((C, f) :: r)
theorem BTab.get {C : Str} {f : DF} : ∀ {tb : List (Str × DF)}, BTab X m tb → tb.lookup C = some f → MethB X C m f
  | _, .nil, h => by simp at h
  | _, .cons (C := E) h1 r, h => by
    by_cases e : C = E
    · subst e
      rw [List.lookup_cons_self] at h
      cases h
      exact h1
    · have hb : (C == E) = false := by simpa using e
      rw [List.lookup_cons, hb] at h
      exact r.get h
def starA (e : DE) : DM (List D) := bindM e fun x => fun _ s => match x with
  | .tup l => .ok l s
  | _ => .bad
/-! making -/
theorem run_makeAt {pins : List (Addr × Obj)} {t : L2.St} {H : Hp} {s : Shared} {Q : VK} {E : XK} {us : List Value} {vs : List V} {C : Addr} {CX : CXT} {sp : Sp} (M : Mk X.K C f) (F : FnG X.prog X.w X.K X.mg X.base CX k f sp) (hr : Rm (k + 1) X.A)
    (hx : PassesAt CX X t E) (I : Inv X pins t H s) (r : Vals vs us)
    (h : ∀ x dx, H x = none → H dx = none → dx ≠ x → sp (.ref x :: vs) (upd (upd H dx (.own x)) x (.ins C dx [])) (fun v H2 => v = .non ∧ Q (.ref x) H2) E) : wpAny (model X.prog X.w) X.A (call (.ref C) us) (EP X pins t Q) X.xe s := by
  have h0 := h (s.heap.objs.size + 1) s.heap.objs.size (I.hok.fresh (Nat.le_succ _)) (I.hok.fresh (Nat.le_refl _)) (Nat.ne_of_lt (Nat.lt_succ_self _))
  have J := Inv.made (C := C) I
  have rr : Vals (V.ref (s.heap.objs.size + 1) :: vs) (Value.ref (s.heap.objs.size + 1) :: us) := .cons rfl r
  refine wpAny_call (make_map (f := f) I.kIn M.makes M.init (beq_iff_eq.mp M.fn) (codeAny_mono (F _ X.stack _ _ (.ref (s.heap.objs.size + 1) :: us) _ _ E (hr.make C us []) (J.env0.make C us []) rr h0) fun z s' hz => ?_))
  cases z with
  | error er => exact hx pins _ _ er s' J hz
  | ok fl =>
    cases fl with
    | ret u =>
      obtain ⟨v, H3, J3, rv, ev, q3⟩ := J.after hz
      subst ev
      exact ⟨rv, ⟨.ref (s.heap.objs.size + 1), H3, J3, rfl, q3⟩⟩
    | next => exact hz.elim
    | brk => exact hz.elim
    | cont => exact hz.elim
/-- what the making of an instance asks -/
theorem make_mid {w : Wd} {s : Sto} {vs : List V} {dv : List D} {t : L2.St} {Q : VK} {E : XK} {cc : Str} {kk : Bool} (st : StR X.K w s) (rs : Reps X.K w vs dv)
    (hp : Post X.K (Rep X.K) w E Q (match mf (.cel s.length :: dv) (s ++ [some (.ins cc [])]) with
      | .ok .non s' => freezeI kk s.length s'
      | .ok _ _ => .bad
      | .exc E fs s' => .exc E fs s'
      | .bad => .bad)) :
    ∀ x dx, w.H x = none → w.H dx = none → dx ≠ x → spD X.K mf (.ref x :: vs) (upd (upd w.H dx (.own x)) x (.ins (He.ga X.K cc) dx [])) (fun v H2 => v = .non ∧ Q (.ref x) H2) E := fun x dx nx ndx ne => by
  have e1 := Wd.put_ext st (o := .own x) ndx
  have st1 := Wd.put_st st (o := .own x) ndx
  have nx1 : (w.put dx (.own x)).H x = none := (upd_ne fun z => ne z.symm).trans nx
  have e2 := Wd.cell_ext st1 (o := .ins (He.ga X.K cc) dx []) nx1
  have st2 : StR X.K ((w.put dx (.own x)).cell s.length x (.ins (He.ga X.K cc) dx [])) (s ++ [some (.ins cc [])]) := Wd.cell_st st1 nx1 ⟨dx, [], upd_same, .nil⟩
  have hA : ((w.put dx (.own x)).cell s.length x (.ins (He.ga X.K cc) dx [])).A s.length = some x := if_pos rfl
  have rs2 : Reps X.K ((w.put dx (.own x)).cell s.length x (.ins (He.ga X.K cc) dx [])) (.ref x :: vs) (.cel s.length :: dv) := .cons (.cel hA) (rs.ext (e1.trans e2))
  refine ⟨_, _, (w.put dx (.own x)).cell s.length x (.ins (He.ga X.K cc) dx []), rfl, rs2, st2, ?_⟩
  have hp2 := Post.ext (e1.trans e2) hp
  cases e : mf (.cel s.length :: dv) (s ++ [some (.ins cc [])]) with
  | bad => rw [e] at hp2; exact hp2
  | exc E2 fs s2 => rw [e] at hp2; exact hp2
  | ok d s3 =>
    rw [e] at hp2
    intro v w3 e3 st3 rv
    cases rv with
    | non =>
      refine ⟨rfl, ?_⟩
      have A3 := e3.A _ _ hA
      have hp3 := Post.ext e3 hp2
      dsimp only at hp3
      unfold freezeI at hp3
      cases kk with
      | true => exact hp3.pure st3 (.cel A3)
      | false =>
        have hp4 : Post X.K (Rep X.K) w3 E Q (match s3[s.length]? with
          | some (some (.ins C fs)) => .ok (.ins C fs) (s3.set s.length none)
          | _ => .bad) := hp3
        cases e5 : s3[s.length]? with
        | none => rw [e5] at hp4; exact hp4.elim
        | some oc =>
          rw [e5] at hp4
          cases oc with
          | none => exact hp4.elim
          | some ct =>
            cases ct with
            | ins C fs =>
              obtain ⟨a1, h1, hz, dx1, l, hh, kv⟩ := st3.at_ _ _ e5
              have ea : a1 = x := Option.some.inj (h1.symm.trans A3)
              subst ea
              exact hp4 (.ref a1) (w3.ice a1) Wd.ice_ext (Wd.ice_st st3 e5 h1) (.insK (.inr rfl) hh (kv.ext Wd.ice_ext))
            | _ => exact hp4.elim
    | _ => exact hp2.elim
theorem e_make {cc : Str} (kk : Bool) (tk : Takes X W) (M : Mk X.K (He.ga X.K cc) f) (F : FnD X.prog X.w X.K X.mg X.base k f mf) (hr : Rm (k + 1) X.A) (hg : Gl X cc) (hm : X.mg cc = some (.ref (He.ga X.K cc)))
    (ha : PA X (a :: es) (tA X.K W mr)) (hdb : (cc == ("__debug__" : Str)) = false := by decide) (he : starEach (a :: es) X.env = (false, eval a X.env) :: starEach es X.env := by rfl) (hpl : (backTo pos (starEach es X.env)).any (·.1) = false := by rfl) :
    PE X (.Call (.Name cc p) (a :: es) [] pos) (tE X.K W (makeM kk cc mf mr)) := by
  refine ⟨fun pins s t H Q I h => ?_⟩
  obtain ⟨r, so, w, rfl, env, st, hp⟩ := h
  refine wpAny_Call_Name_kw (ld_glob I hg hm ?_ hdb)
  refine PySem.W.callWith_K (h₀ := X.base) I.ok.mod.kin M.kp (thn (ha.run pos pins s t w.H (fun vs H2 => ∀ x dx, H2 x = none → H2 dx = none → dx ≠ x → spD X.K mf (.ref x :: vs) (upd (upd H2 dx (.own x)) x (.ins (He.ga X.K cc) dx [])) (fun v H3 => v = .non ∧ Q (.ref x) H3) (WE W t)) I ?_) fun us s2 z => ?_) he hpl
  · refine ⟨r, so, w, rfl, env, st, ?_⟩
    unfold makeM bindM at hp
    cases e : mr r so with
    | ok dv s3 =>
      rw [e] at hp
      exact fun vs w3 e3 st3 r3 => make_mid (t := t) st3 r3 (Post.ext e3 hp)
    | exc C fs s3 => rw [e] at hp; exact hp
    | bad => rw [e] at hp; exact hp
  · obtain ⟨vs, H2, I2, rv, q2⟩ := z
    exact ⟨I2.kIn, run_makeAt (E := WE W t) M F hr (passAt tk t) I2 rv q2⟩
theorem e_make0 {cc : Str} (kk : Bool) (tk : Takes X W) (M : Mk X.K (He.ga X.K cc) f) (F : FnD X.prog X.w X.K X.mg X.base k f mf) (hr : Rm (k + 1) X.A) (hg : Gl X cc) (hm : X.mg cc = some (.ref (He.ga X.K cc)))
    (hdb : (cc == ("__debug__" : Str)) = false := by decide) : PE X (.Call (.Name cc p) [] [] pos) (tE X.K W (makeM kk cc mf nilA)) := by
  refine ⟨fun pins s t H Q I h => ?_⟩
  obtain ⟨r, so, w, rfl, env, st, hp⟩ := h
  refine wpAny_Call_Name_kw (ld_glob I hg hm ?_ hdb)
  exact PySem.W.callWith_K0 I.kIn M.kp (run_makeAt (us := []) (vs := []) (E := WE W t) M F hr (passAt tk t) I .nil (make_mid (t := t) st .nil hp))
/-! o.f = e -/
theorem s_fld {tb : List Str} {g : Str} {pos' : Pos} (hT : ∀ C ∈ tb, Cls X.K (He.ga X.K C) ∧ NoAttr X.K (He.ga X.K C) g) (ho : PE X o (tE X.K W mo)) (hv : PE X a (tE X.K W ma)) (hs : swapsWith a (some (.Attribute o g pos')) pos.line X.env = pure false := by rfl) :
    PS X (.Assign [.Attribute o g pos'] a pos) (tS X.K W (fldS tb g mo ma)) := PS.imp (ps_fld ho hv hs) fun E t H h => by
  obtain ⟨r, s, w, rfl, env, st, hp⟩ := h
  exact hp.bind env st fun y dy s1 w1 e1 st1 r1 hp1 => hp1.bind (env.ext e1) st1 fun x d s2 w2 e2 st2 r2 hp2 => by
    cases r2 with
    | @cel n a0 hA =>
      dsimp only at hp2
      cases e5 : s2[n]? with
      | none => rw [e5] at hp2; exact hp2.elim
      | some oc =>
        rw [e5] at hp2
        cases oc with
        | none => exact hp2.elim
        | some ct =>
          cases ct with
          | ins C fs =>
            dsimp only at hp2
            split at hp2
            · rename_i hc
              obtain ⟨hc1, hc2⟩ := hT C hc.1
              obtain ⟨a1, h1, hz, dx1, l, hh, kv⟩ := st2.at_ _ _ e5
              have ea : a1 = a0 := Option.some.inj (h1.symm.trans hA)
              subst ea
              have nP := st2.np n _ a1 e5 h1
              have e3 : Ext w2 (w2.put a1 (.ins (He.ga X.K C) dx1 (putF g y l))) := Wd.mut_ext hz nP
              refine ⟨a1, _, dx1, l, rfl, hh, hc1, hc2, by rw [kv.length]; exact hc.2, ?_⟩
              refine hp2 t (w2.put a1 (.ins (He.ga X.K C) dx1 (putF g y l))) e3 (((env.ext e1).ext e2).ext e3) (Wd.mut_st st2 e5 h1 hz ⟨dx1, _, upd_same, ?_⟩)
              exact (kv.ext e3).put ((r1.ext e2).ext e3)
            · exact hp2.elim
          | _ => exact hp2.elim
    | _ => exact hp2.elim
end
end Mp
set_option Elab.async false
set_option linter.all false
set_option maxRecDepth 100000
set_option maxHeartbeats 4000000
/-! Mp: exceptions of the program: class C(B) whose __init__ says B.__init__(self, text) and stores one field or none. -/
namespace Mp
open PySem PySem.Spec PyProof.Rows L2
/-! ### the base -/
structure BaseX (B newId initId : String) (bm : List Value) : Prop where
  F : ExcBaseFacts B newId initId bm
  pass : ∀ self : Value, refuseLoop self "__setattr__" bm = pure ()
  ob : bm.contains (.type "object") = true
  boot : bootBuiltins (Str.ofString B) = some (.type B)
  typ : typeOf (.type B) = pure (.type "type")
  nn : Str.ofString B ≠ "__name__"
  nd : (Str.ofString B == ("__debug__" : Str)) = false
  stub : Manifest.isStub B = false
  hand : PySem.W.handedIn (.builtin initId) = true
  fnd : ∀ K : Frag, PySem.W.findCls K (.type B) (.type "type") "__init__" = some (.val (.builtin initId))
abbrev mValue : List Value := [.type "ValueError", .type "Exception", .type "BaseException", .type "object"]
theorem bxValue : BaseX "ValueError" "ValueError.__new__" "ValueError.__init__" mValue := ⟨F.excBase_ValueError, F.store_ValueError.passes, by decide +kernel, by decide +kernel, by kernel_rfl, by decide +kernel, by decide +kernel, by decide +kernel, by decide +kernel, fun K => by kernel_rfl⟩
/-! ### the class -/
def exB (K : Frag) (C : Addr) (bm : List Value) (newId : String) : Bool := match K.lookup C with
  | some ⟨.type c, _, .cls cd, sl⟩ => decide (c = "type") && (cd.hasDict && (!cd.hasDel && (decide (cd.mro = .ref C :: bm) && (match sl.toList with
    | [_, _, _, _, some (.builtin n), _] => decide (n = newId)
    | _ => false))))
  | _ => false
theorem exB_ok {K : Frag} {C : Addr} {bm : List Value} {newId : String} (h : exB K C bm newId = true) : ∃ nm q N bs sn sub ab col dd k0 k1 k2 k3 k5, K.lookup C = some (excClassObj nm q C N bs bm true sn sub ab col dd k0 k1 k2 k3 k5 newId) := by
  unfold exB at h
  cases e : K.lookup C with
  | none => rw [e] at h; cases h
  | some o =>
    obtain ⟨oc, od, dt, sl⟩ := o
    rw [e] at h
    cases oc with
    | type c =>
      cases dt with
      | cls cd =>
        obtain ⟨h1, h⟩ := He.ba h
        obtain ⟨h2, h⟩ := He.ba h
        obtain ⟨h3, h⟩ := He.ba h
        obtain ⟨h4, h5⟩ := He.ba h
        have e1 := of_decide_eq_true h1
        have e4 := of_decide_eq_true h4
        have e3 : cd.hasDel = false := by simpa using h3
        obtain ⟨nm, bs, mro, ns, qn, hd, sn, sub, ab, col, del⟩ := cd
        dsimp only at h2 e3 e4
        subst e1 e3 e4 h2
        obtain ⟨sl⟩ := sl
        dsimp only at h5
        split at h5
        · have e5 := of_decide_eq_true h5
          subst e5
          exact ⟨nm, qn, ns, bs, sn, sub, ab, col, od, _, _, _, _, _, rfl⟩
        · cases h5
      | _ => cases h
    | _ => cases dt <;> cases h
structure OexB (K : Frag) (C : Addr) (B newId initId : String) (bm : List Value) : Prop where
  base : BaseX B newId initId bm
  cls : ∃ nm q N bs sn sub ab col dd k0 k1 k2 k3 k5, K.lookup C = some (excClassObj nm q C N bs bm true sn sub ab col dd k0 k1 k2 k3 k5 newId)
  sa : PySem.W.findIn K (.ref C) "__setattr__" = some (some (.builtin "object.__setattr__"))
  exC : PySem.W.subIn K (.ref C) (.type "BaseException") = some true
  tyC : PySem.W.typeIn K (.ref C) = some (.type "type")
  kC : PySem.W.keepIn K (.ref C) = true
section
open Builtin Builtin.ObjectAttr PySem.HandSPX
variable {prog : Program} {w : World} {A : Around} {E : Value → Shared → Prop} {R : Result → Shared → Prop} {hp : Heap} {g : Array GenState} {d : Drawn} {t : Nat} {os : OsState}
/-- self.name = v, the first one, on an exception -/
theorem exc_store {K : Frag} {name : Str} {tk : Tok} {v : Value} {x C : Addr} {fv : Array Value} {cd : ClassData} (X : K.In hp) (hx : hp.get? x = some { cls := .ref C, data := .fields fv }) (hcd : W.clsIn K C = some cd)
    (hne : cd.mro.isEmpty = false) (hob : cd.mro.contains (.type "object") = true) (hps : ∀ self, refuseLoop self "__setattr__" cd.mro = pure ()) (hh : cd.hasDict = true) (ha : W.findIn K (.ref C) name = some none)
    (hq : ∀ h' tk' dx, (∀ b o, b ≠ x → hp.get? b = some o → h'.get? b = some o) → hp.objs.size ≤ dx → dx ≠ x → h'.get? x = some { cls := .ref C, dict := some dx, data := .fields fv } → h'.Ns1 dx (fun y => if y = name then some v else none) → R (.ok (.ret .none)) ⟨h', g, d, tk', os⟩) :
    codeAny (model prog w) A (.call (.builtin "object.__setattr__") ⟨[.ref x, .str name tk, v], []⟩) R ⟨hp, g, d, t, os⟩ := by
  have J : W.InstAt hp x { cls := .ref C, data := .fields fv } C none := ⟨hx, rfl, rfl, trivial⟩
  have nx : x ≠ hp.objs.size := Nat.ne_of_lt (Heap.lt_size hx)
  have sub : W.Looks (model prog w) hp (isInstance (.ref x) (.type "object")) true := J.type.andThen (W.looks_mroIn X (by unfold W.mroIn; rw [hcd, Option.bind_some, if_neg (by rw [hne]; decide), hob]))
  refine codeAny_call_builtin F.store_object.slot.plain F.store_object.entry (@W.check_slot (model prog w) _ _ ⟨hp, g, d, t, os⟩ "object.__setattr__" "object" "__setattr__" (.ref x) [.str name tk, v] [] _ F.store_object.kind F.store_object.split sub (F.store_object.args _ _ _) ?_)
  have lm : W.Looks (model prog w) hp (mroOf (.ref C)) cd.mro := (W.looks_clsIn X hcd).andThen .now
  have ln : W.Looks (model prog w) hp (storeTaker? none) none := .now
  have lc : W.Looks (model prog w) hp (classData C) cd := W.looks_clsIn X hcd
  rw [W.osa_eq, refuse_eq]
  refine wpAny_bind (wpAny_bind (J.type.at (wpAny_bind (lm.at ?_))))
  rw [hps]
  refine wpAny_pure (wpAny_bind (J.type.at (wpAny_bind ((W.looks_findIn X ha).at (wpAny_bind (ln.at ?_))))))
  show wpAny _ _ (storeInOwnDict (.ref x) (.ref C) (.str name tk) name v false) _ _ _
  obtain ⟨nm, bs, mro, ns, qn, hd, sn, sb, ab, col, del⟩ := cd
  cases (show hd = true from hh)
  unfold storeInOwnDict ownDictForStores
  repeat (first | with_reducible refine store_in_new ?_ ?_ | with_reducible refine wpAny_loadPart_at hx ?_ | with_reducible refine lc.at ?_ | wp_step)
  · exact ⟨_, #[], _, (Heap.get?_update_ne _ _ _ _ nx.symm).trans (Heap.get?_push_at rfl rfl), rfl, fun e he => absurd he (by simp), fun _ => rfl⟩
  · intro h' tk' hn' hs
    refine hq h' tk' hp.objs.size (fun b o hb ho => (hs.2 b (Nat.ne_of_lt (Heap.lt_size ho))).trans ((Heap.get?_update_ne _ _ _ _ hb).trans (Heap.get?_push_of_some _ ho))) (Nat.le_refl _) nx.symm ?_ hn'
    exact (hs.2 x nx).trans (Heap.get?_update_self _ (Heap.get?_push_of_some _ hx) rfl)
end
section
variable {X : Cx} {pins : List (Addr × Obj)} {t : L2.St} {H : Hp} {s : Shared} {a C : Addr} {f : Str} {y : V} {u : Value} {Q : Unit → Shared → Prop} {E : Value → Shared → Prop} {A : Around} {B newId initId : String} {bm : List Value}
theorem ostB (T : OexB X.K C B newId initId bm) (I : Inv X pins t H s) (e : H a = some (exo a C none)) (hno : PySem.W.findIn X.K (.ref C) f = some none) (ry : RelV y u)
    (h : ∀ dx s', H dx = none → dx ≠ a → Inv X pins t (upd (upd H dx (exd dx [(f, y)])) a (exo a C (some dx))) s' → Q () s') : wpAny (model X.prog X.w) A (setAttr (.ref a) f u) Q E s := by
  obtain ⟨nm, q, N, bs, sn, sub, ab, col, dd, k0, k1, k2, k3, k5, hC⟩ := T.cls
  have hcl : PySem.W.clsIn X.K C = some { name := nm, bases := bs, mro := .ref C :: bm, ns := N, qualname := q, hasDict := true, slotNames := sn, subclasses := sub, abstract := ab, collection := col, hasDel := false } := by
    unfold PySem.W.clsIn
    rw [hC] <;> rfl
  obtain ⟨t1, ho⟩ := exo_at I.hok e
  obtain ⟨hp, g, d, tk, os⟩ := s
  refine PySem.W.set_plain I.kIn (ox := { cls := .ref C, dict := none, data := .fields #[.ref t1, .none, .none, .none, .bool false, .none] }) (od := none) ⟨ho, rfl, rfl, trivial⟩ T.sa ?_
  refine exc_store I.kIn ho hcl rfl (by show (Value.ref C :: bm).contains (.type "object") = true; rw [List.contains_cons, T.base.ob, Bool.or_true]) (fun self => (refuseLoop_ref self "__setattr__" C bm).trans (T.base.pass self)) rfl hno fun h' tk' dx k dn dne hx hn => ?_
  have hnd : H dx = none := I.hok.fresh dn
  have nd : ∀ {b : Addr} {o : Obj}, hp.get? b = some o → b ≠ dx := fun {b o} z => Nat.ne_of_lt (Nat.lt_of_lt_of_le (Heap.lt_size z) dn)
  have na : ∀ {b : Addr}, H b = none → b ≠ a := fun {b} n z => by
    rw [z, e] at n
    cases n
  have U : Un X.fs [] H (upd (upd H dx (exd dx [(f, y)])) a (exo a C (some dx))) hp h' :=
    ⟨fun b o z n _ _ => k b o (na n) z, fun b o z n _ _ => ⟨o.slots, k b o (na n) z⟩, fun b o z n _ => by rw [upd_ne (na n), upd_ne (nd z)]; exact n,
      fun b o z _ => by
        by_cases hb : b = a
        · exact ⟨_, hb ▸ hx⟩
        · exact ⟨o, k b o hb z⟩,
      fun b xs z => by rw [upd_ne (at_ne e z exo_tup), upd_ne (ne_of_none z hnd)]; exact z, fun b o v z => by rw [upd_ne (at_ne e z exo_frz), upd_ne (ne_of_none z hnd)]; exact z,
      fun b ps z => ⟨#[], by rw [upd_ne (at_ne e z exo_tbl), upd_ne (ne_of_none z hnd), z]; simp⟩⟩
  refine h dx _ hnd dne (I.un (t' := tk') U fun b o z => ?_)
  by_cases hb : b = a
  · subst hb
    rw [upd_same] at z
    cases z
    exact exo_ok hx
  · rw [upd_ne hb] at z
    by_cases hd : b = dx
    · subst hd
      rw [upd_same] at z
      cases z
      exact exd_ok hn (relO_put (fs := []) ry fun _ => trivial)
    · rw [upd_ne hd] at z
      refine (I.hok b o z).stay (fun c v hc y => k c v (hc.elim (fun hc => hc ▸ hb) fun hc => at_ne e hc exo_own) y) (fun c hc => ?_) fun c xs hc => ?_
      · rw [upd_ne (at_ne e hc exo_own), upd_ne (ne_of_none hc hnd)]
        exact hc
      · rw [upd_ne (at_ne e hc exo_tup), upd_ne (ne_of_none hc hnd)]
        exact hc
theorem oinitB {us : List Value} {Q : Value → Shared → Prop} (T : OexB X.K C B newId initId bm) (I : Inv X pins t H s) (e : H a = some (exo a C none)) (hl : us.length ≤ sizeLine) (h : ∀ s', Inv X pins t H s' → Q .none s') : wpAny (model X.prog X.w) A (call (.builtin initId) (.ref a :: us)) Q E s := by
  obtain ⟨nm, q, N, bs, sn, sub, ab, col, dd, k0, k1, k2, k3, k5, hC⟩ := T.cls
  obtain ⟨t1, ho⟩ := exo_at I.hok e
  obtain ⟨hp, g, d, tk, os⟩ := s
  refine wpAny_call (PySem.HandSPX.init_base T.base.F (fun _ => rfl) (I.kIn _ _ hC) ho hl fun h' t2 k hx => ?_)
  have J := I.write (t' := tk) (x := a) (e := a) (o := exo a C none) (by rw [e]; exact trivial) (.inl rfl) k ⟨_, hx⟩ (exo_ok hx)
  have eu : upd H a (exo a C none) = H := by
    funext b
    by_cases hb : b = a
    · rw [hb, upd_same, e]
    · rw [upd_ne hb]
  exact h _ (eu ▸ J)
end
section
variable {X : Cx} {o e : Expr} {es : List Expr} {to te : TE} {ta : TA} {f : Str} {p p' p1 p2 pos : Pos} {B newId initId : String} {bm : List Value}
/-- B.__init__(self, ..) -/
def tIniB (K : Frag) (B newId initId : String) (bm : List Value) (ta : TA) : TE := fun t H Q => ta t H fun vs H1 => ∃ (a C : Addr) (ws : List V), vs = .ref a :: ws ∧ ws.length ≤ 1000 ∧ OexB K C B newId initId bm ∧ H1 a = some (exo a C none) ∧ Q .non H1
theorem pe_initB {pl : Sem Bool} (hB : BaseX B newId initId bm) (hg : Gl X (Str.ofString B)) (hm : X.mg (Str.ofString B) = none) (ha : PA X (e :: es) ta)
    (hc : eval (.Call (.Attribute (.Name (Str.ofString B) p1) "__init__" p2) (e :: es) [] pos) X.env = (eval (.Name (Str.ofString B) p1) X.env >>= fun ov => standAt p2.atName >>= fun _ => holding [ov] (getMethod ov "__init__" pl) >>= fun z => callWith pos z.1 z.2 (backTo pos (starEach (e :: es) X.env)) (backToKw pos (keywordEach [] X.env))) := by rfl)
    (he : starEach (e :: es) X.env = (false, eval e X.env) :: starEach es X.env := by rfl) (hpl : (backTo pos (starEach es X.env)).any (·.1) = false := by rfl) :
    PE X (.Call (.Attribute (.Name (Str.ofString B) p1) "__init__" p2) (e :: es) [] pos) (tIniB X.K B newId initId bm ta) := by
  refine ⟨fun pins s t H Q I h => ?_⟩
  refine PySem.W.methodCall_KW (ld_blt I hg hm hB.boot ?_ hB.nn hB.nd) hc
  obtain ⟨m, fr⟩ := I.fr
  refine PySem.W.method_type fr I.ok.mod.kin hB.typ hB.stub (hB.fnd X.K) hB.hand ?_
  show wpAny _ _ (callWith pos (Value.builtin initId) [] (backTo pos (starEach (e :: es) X.env)) []) _ _ _
  refine PyProof.Rows.callWith_method1 (thn (ha.run pos pins _ t H _ (I.tok _) h) fun us s1 z => ?_) he hpl
  obtain ⟨vs, H1, I1, r1, a, C, ws, rfl, hl, T, ea, q⟩ := z
  cases r1 with
  | @cons _ u0 _ ur ra rr =>
    obtain rfl : u0 = Value.ref a := ra
    exact oinitB T I1 ea (by rw [← Paired.length rr, sizeLine_eq]; omega) fun s' J => ⟨.non, H1, J, rfl, q⟩
/-- self.f = e, on an exception that has no field yet -/
def tOstB (K : Frag) (B newId initId : String) (bm : List Value) (f : Str) (to te : TE) : TS := fun E t H => te t H fun y H1 => to t H1 fun x H2 => ∃ a C : Addr, x = .ref a ∧ OexB K C B newId initId bm ∧ PySem.W.findIn K (.ref C) f = some none ∧ H2 a = some (exo a C none) ∧
  ∀ dx, H2 dx = none → dx ≠ a → E.nx t (upd (upd H2 dx (exd dx [(f, y)])) a (exo a C (some dx)))
theorem ps_ostB (ho : PE X o to) (he : PE X e te) (hs : swapsWith e (some (.Attribute o f p')) pos.line X.env = pure false := by rfl) : PS X (.Assign [.Attribute o f p'] e pos) (tOstB X.K B newId initId bm f to te) := by
  refine ⟨fun pins s t H E I h => ?_⟩
  refine plainObj_wpAny_Assign_Attribute (thn (he.run pins s t H _ I h) fun v s1 z1 => ?_) hs
  obtain ⟨y, H1, I1, r1, q1⟩ := z1
  refine thn (ho.run pins s1 t H1 _ I1 q1) fun u s2 z2 => ?_
  obtain ⟨x, H2, I2, r2, a, C, rfl, T, hno, ea, q⟩ := z2
  obtain rfl : u = Value.ref a := r2
  exact ostB T I2 ea hno r1 fun dx s' n ne J => ⟨t, _, J, q dx n ne⟩
end
/-! ### __init__ -/
/-- with one field: B.__init__(self, text); self.f = f -/
def spI1 (C : Addr) (f : Str) : Sp := fun vs H Q _ => ∃ (a : Addr) (v : V), vs = [.ref a, v] ∧ H a = some (exo a C none) ∧ ∀ dx, H dx = none → dx ≠ a → Q .non (upd (upd H dx (exd dx [(f, v)])) a (exo a C (some dx)))
section
variable {P : Program} {w : World} {K : Frag} {mg : Str → Option Value} {base : Heap} {B newId initId : String} {bm : List Value} {x qual f : Str} {params : Arguments} {scope : Scope} {g C : Addr} {fd : FuncData} {z : Str} {p0 p1 p2 p3 p4 p5 p6 p7 p8 p9 : Pos} {j : Nat}
theorem init_eq {env : Env} (hL : (p2.endLine == p5.line) = true) : eval (.Call (.Attribute (.Name (Str.ofString B) p1) "__init__" p2) [.Name "self" p3, .Constant (.str z) j p4] [] p5) env = (eval (.Name (Str.ofString B) p1) env >>= fun ov => standAt p2.atName >>= fun _ => holding [ov] (getMethod ov "__init__" (plainOf (.Name (Str.ofString B) p1) env)) >>= fun q => callWith p5 q.1 q.2 (backTo p5 (starEach [.Name "self" p3, .Constant (.str z) j p4] env)) (backToKw p5 (keywordEach [] env))) := by
  show (eval (.Name (Str.ofString B) p1) env >>= fun ov => standAt p2.atName >>= fun _ => methodCall (.Name (Str.ofString B) p1) "__init__" p2 p5 env ov 2 (backTo p5 (starEach [.Name "self" p3, .Constant (.str z) j p4] env)) (backToKw p5 (keywordEach [] env))) = _
  congr 1
  funext ov
  congr 1
  funext _
  rw [mcall_line (n := 2) rfl hL]
theorem fn_init1 (F : FunD K x qual params [.Expr (.Call (.Attribute (.Name (Str.ofString B) p1) "__init__" p2) [.Name "self" p3, .Constant (.str z) j p4] [] p5) p6, .Assign [.Attribute (.Name "self" p7) f p8] (.Name f p9) p0] scope [] [] g fd) (S : FnScope ["self", f] ["self", f] scope)
    (hL : (p2.endLine == p5.line) = true) (hG : scope.names.lookup (Str.ofString B) = some .globalImplicit) (h1 : (f == ("__debug__" : Str)) = false) (h2 : (f == ("__classdict__" : Str)) = false) (hm : mg (Str.ofString B) = none) (T : OexB K C B newId initId bm) (hno : PySem.W.findIn K (.ref C) f = some none) :
    FnOk P w K mg base (L2.CX P w) 1 g fd ["self", f] (spI1 C f) := by
  refine F.ok S (fun vs H Q E h => ?_) (fun cdv A outer s H vs Q E hr h => ?_)
  · obtain ⟨a, v, rfl, _⟩ := h
    rfl
  · obtain ⟨a, v, rfl, ea, q⟩ := h
    have v0 : Vis scope "self" := (S.par "self" (by simp)).elim .inl fun h => .inr (.inl h)
    have v1 : Vis scope f := (S.par f (by simp)).elim .inl fun h => .inr (.inl h)
    refine ⟨_, pss_cons (ps_expr (pe_initB (pl := plainOf (.Name (Str.ofString B) p1) _) T.base hG hm (pa_cons (pe_var (i := 0) rfl v0) (pa_cons pe_str pa_nil)) (init_eq hL))) (pss_one (ps_ostB (B := B) (newId := newId) (initId := initId) (bm := bm) (pe_var (i := 0) rfl v0) (pe_var (i := 1) rfl v1 h1 h2))), ?_⟩
    exact ⟨_, rfl, a, C, _, rfl, by show 1 ≤ 1000; decide, T, ea, _, rfl, _, rfl, a, C, rfl, T, hno, ea, q⟩
end
end Mp
set_option Elab.async false
set_option linter.all false
set_option maxRecDepth 100000
set_option maxHeartbeats 4000000
/-! Mp: raise, try. -/
namespace Mp
open PySem PySem.Spec PyProof.Rows L2
section
end
section
variable {X : Cx} {e : Expr} {ta : TA} {f x : Str} {p pos : Pos} {B newId initId : String} {bm : List Value} {C fI : Addr} {k : Nat} {fd : FuncData}
/-- what the written part says of an exception's class and its __init__ -/
structure ExcD (X : Cx) (C : Addr) (B newId initId : String) (bm : List Value) (fI : Addr) : Prop where
  T : OexB X.K C B newId initId bm
  ini : PySem.W.findIn X.K (.ref C) "__init__" = some (some (.ref fI))
  fn : PySem.W.typeIn X.K (.ref fI) = some (.type "function")
theorem pmkB1 (T : ExcD X C B newId initId bm fI) (F1 : FnOk X.prog X.w X.K X.mg X.base (L2.CX X.prog X.w) k fI fd ["self", f] (spI1 C f)) (hr : Room (k + 1) X.A) (hb : Binds X.K fd ["self", f] []) (hg : Gl X x) (hm : X.mg x = some (.ref C)) (ha : PA X [e] ta)
    (hdb : (x == ("__debug__" : Str)) = false := by decide) (he : starEach [e] X.env = (false, eval e X.env) :: starEach [] X.env := by rfl) :
    PMk X (.Call (.Name x p) [e] [] pos) (fun t H Q => ta t H fun vs H1 => ∃ v, vs = [v] ∧ ∀ d, H1 d = none → Q (.ref C) (some d) (upd H1 d (.xd [(f, v)]))) := by
  intro pins s t H Q I h
  obtain ⟨nm, q, N, bs, sn, sub, ab, col, dd, k0, k1, k2, k3, k5, hC⟩ := T.T.cls
  refine wpAny_Call_Name_kw (ld_glob I hg hm ?_ hdb)
  refine PySem.W.callWith_K (h₀ := X.base) I.ok.mod.kin T.T.kC (thn (ha.run pos pins s t H _ I h) fun us s1 z => ?_) he rfl
  obtain ⟨vs, H1, I1, r1, v, rfl, q1⟩ := z
  refine ⟨I1.kIn, ?_⟩
  show wpAny _ _ (call (.ref C) us) _ _ _
  obtain ⟨hp, g, dr, tk, os⟩ := s1
  cases r1 with
  | @cons _ u _ _ ru rr =>
    cases rr
    have hsz : hp.objs.size ≤ hp.objs.size + 1 := Nat.le_succ _
    have hn : H1 (hp.objs.size + 1) = none := I1.hok.fresh hsz
    have kk : ∀ b o, hp.get? b = some o → ((hp.push (PySem.W.kdv_tup [u])).push (PySem.HandSPX.excO C hp.objs.size)).get? b = some o := fun b o z => Heap.get?_push_of_some _ (Heap.get?_push_of_some _ z)
    have hget : ((hp.push (PySem.W.kdv_tup [u])).push (PySem.HandSPX.excO C hp.objs.size)).get? (hp.objs.size + 1) = some (PySem.HandSPX.excO C hp.objs.size) := by heap_get
    have I2 := I1.laid (t' := tk) (a := hp.objs.size + 1) (o := exo (hp.objs.size + 1) C none) (h' := (hp.push (PySem.W.kdv_tup [u])).push (PySem.HandSPX.excO C hp.objs.size)) kk hsz (exo_ok hget)
    have rv : Vals [V.ref (hp.objs.size + 1), v] [Value.ref (hp.objs.size + 1), u] := .cons rfl (.cons ru .nil)
    have hq : spI1 C f [.ref (hp.objs.size + 1), v] (upd H1 (hp.objs.size + 1) (exo (hp.objs.size + 1) C none)) (fun z H2 => z = .non ∧ ∃ d, H1 d = none ∧ d ≠ hp.objs.size + 1 ∧ H2 = upd (upd (upd H1 (hp.objs.size + 1) (exo (hp.objs.size + 1) C none)) d (exd d [(f, v)])) (hp.objs.size + 1) (exo (hp.objs.size + 1) C (some d))) (fun _ _ _ => False) :=
      ⟨_, v, rfl, upd_same, fun dx ndx ne => ⟨rfl, dx, (upd_ne ne).symm.trans ndx, ne, rfl⟩⟩
    refine wpAny_call (PySem.HandSPX.call_own T.T.base.F (fun _ => rfl) (I1.kIn _ _ hC) (PySem.W.looks_findIn I1.kIn T.ini) (fun self => PySem.W.bind_fn I1.kIn self T.fn) (by show 1 ≤ sizeLine; decide)
      (codeAny_mono (F1.run _ X.stack _ _ ⟨[.ref (hp.objs.size + 1), u], []⟩ [.ref (hp.objs.size + 1), u] _ _ (fun _ _ _ => False) (hr.make C [u] []) (I2.env0.make C [u] []) (hb _ [.ref (hp.objs.size + 1), u] I2.kIn rfl) rv hq) fun r s' hz => ?_))
    cases r with
    | error er =>
      obtain ⟨_, _, _, _, _, _, _, _, _, _, _, _, z⟩ := hz
      exact z.elim
    | ok fl =>
      cases fl with
      | ret w =>
        obtain ⟨z, H2, osE, bareE, unE, hokE, rz, ez, d, nd, ne, eH⟩ := hz
        subst ez
        obtain ⟨h2, g2, d2, t2, os'⟩ := s'
        have ea : H2 (hp.objs.size + 1) = some (exo (hp.objs.size + 1) C (some d)) := by rw [eH, upd_same]
        have ed : H2 d = some (exd d [(f, v)]) := by rw [eH, upd_ne ne, upd_same]
        refine ⟨rz, mk_end (raises_own T.T.exC T.T.tyC) I1 hsz kk unE hokE osE bareE ea ed nd ?_⟩
        have eq : upd (del H2 (hp.objs.size + 1)) d (.xd [(f, v)]) = upd H1 d (.xd [(f, v)]) := by
          funext b
          by_cases hb : b = d
          · rw [hb, upd_same, upd_same]
          · rw [upd_ne hb, upd_ne hb]
            by_cases hb2 : b = hp.objs.size + 1
            · rw [hb2, del_same, hn]
            · rw [del_ne hb2, eH, upd_ne hb2, upd_ne hb, upd_ne hb2]
        rw [eq]
        exact q1 d nd
      | next => exact hz.elim
      | brk => exact hz.elim
      | cont => exact hz.elim
end
/-! ### on data -/
def raiseS (C f : Str) (m : DM (List D)) : DS := thenS m fun ds => fun r s => match ds with
  | [d] => .exc C [(f, d)] r s
  | _ => .bad
def raise0S (C : Str) : DS := fun r s => .exc C [] r s
section
variable {X : Cx} {W : WX} {a : Expr} {f cc : Str} {p pos pos2 : Pos} {B newId initId : String} {bm : List Value} {fI : Addr} {k : Nat} {fd : FuncData} {mr : DM (List D)}
theorem s_raise1 (hc : X.calm = true) (tk : Takes X W) (T : ExcD X (He.ga X.K cc) B newId initId bm fI) (F1 : FnOk X.prog X.w X.K X.mg X.base (L2.CX X.prog X.w) k fI fd ["self", f] (spI1 (He.ga X.K cc) f)) (hr : Room (k + 1) X.A) (hb : Binds X.K fd ["self", f] []) (hg : Gl X cc) (hm : X.mg cc = some (.ref (He.ga X.K cc))) (ha : PA X [a] (tA X.K W mr))
    (hdb : (cc == ("__debug__" : Str)) = false := by decide) (he : starEach [a] X.env = (false, eval a X.env) :: starEach [] X.env := by rfl) : PS X (.Raise (some (.Call (.Name cc p) [a] [] pos)) none pos2) (tS X.K W (raiseS cc f mr)) :=
  PS.imp (ps_raise hc tk (pmkB1 T F1 hr hb hg hm ha hdb he)) fun E t H h => by
    obtain ⟨r, s, w, rfl, env, st, hp⟩ := h
    exact hp.bind env st fun vs ds s1 w1 e1 st1 r1 hp1 => by
      cases r1 with
      | nil => exact hp1.elim
      | @cons v d vs ds q r2 =>
        cases r2 with
        | cons _ _ => exact hp1.elim
        | nil =>
          refine ⟨v, rfl, fun dx ndx => ?_⟩
          have e2 := Wd.frz_ext st1 (o := .xd [(f, v)]) ndx
          exact hp1 t (some dx) (w1.frz dx (.xd [(f, v)])) e2 ((env.ext e1).ext e2) (Wd.frz_st st1 ndx) ⟨Wd.frz_z, _, Wd.frz_h, .cons (q.ext e2) .nil⟩
end
end Mp
set_option Elab.async false
set_option linter.all false
set_option maxRecDepth 100000
set_option maxHeartbeats 4000000
/-! Mp: built-in functions. -/
namespace Mp
open PySem PySem.Spec PyProof.Rows L2
/-! ### on data -/
def absD (ds : List D) (s : Sto) : Res D := match ds with
  | [.int i] => .ok (.int (if i < 0 then -i else i)) s
  | _ => .bad
def intD (ds : List D) (s : Sto) : Res D := match ds with
  | [.int i] => .ok (.int i) s
  | [.bl b] => .ok (.int (if b then 1 else 0)) s
  | _ => .bad
def lenD (ds : List D) (s : Sto) : Res D := match ds with
  | [.str z] => if z.length ≤ sizeLine then .ok (.int (z.length : Nat)) s else .bad
  | [x] => (match seqOf s x with
    | some l => .ok (.int (l.length : Nat)) s
    | none => .bad)
  | _ => .bad
def listD (k : Bool) (ds : List D) (s : Sto) : Res D := match ds with
  | [x] => (match seqOf s x with
    | some l => newL k l s
    | none => .bad)
  | _ => .bad
def bools : List D → Option (List Bool)
  | [] => some []
  | .bl b :: r => (bools r).map fun l => b :: l
  | _ => none
def allD (ds : List D) (s : Sto) : Res D := match ds with
  | [x] => (match (lstOf s x).bind bools with
    | some l => .ok (.bl (l.all id)) s
    | none => .bad)
  | _ => .bad
def anyD (ds : List D) (s : Sto) : Res D := match ds with
  | [x] => (match (lstOf s x).bind bools with
    | some l => .ok (.bl (l.any id)) s
    | none => .bad)
  | _ => .bad
inductive Tg where
  | bt (n : String) | own (C : Str)
def tagD (s : Sto) : D → Option Tg
  | .non => some (.bt "NoneType")
  | .bl _ => some (.bt "bool")
  | .int _ => some (.bt "int")
  | .str _ => some (.bt "str")
  | .tup _ => some (.bt "tuple")
  | .lst _ => some (.bt "list")
  | .dct _ => some (.bt "dict")
  | .ins C _ => some (.own C)
  | .cel n => (match s[n]? with
    | some (some (.lst _)) => some (.bt "list")
    | some (some (.dct _)) => some (.bt "dict")
    | some (some (.rod _)) => some (.bt "dict")
    | some (some (.ins C _)) => some (.own C)
    | _ => none)
  | _ => none
/-- which own classes are which: own of own, built-in of own (never), own of built-in -/
structure Isi where
  cs : List Str
  oo : List ((Str × Str) × Bool)
  bo : List Str
  ob : List ((Str × String) × Bool)
def isiT (it : Isi) : Tg → D → Option Bool
  | .bt a, .ty b => kitB a b
  | .bt _, .glo C => if C ∈ it.bo then some false else none
  | .own C, .glo E => if C ∈ it.cs then it.oo.lookup (C, E) else none
  | .own C, .ty b => if C ∈ it.cs then it.ob.lookup (C, b) else none
  | _, _ => none
def isiD (it : Isi) (ds : List D) (s : Sto) : Res D := match ds with
  | [x, c] => (match tagD s x with
    | some t => (match isiT it t c with
      | some b => .ok (.bl b) s
      | none => .bad)
    | none => .bad)
  | _ => .bad
/-! ### soundness -/
def VRC (K : Frag) (r : List V → Hp → VK → Prop) (f : DF) : Prop := ∀ w s xs ds Q E, StR K w s → Reps K w xs ds → Post K (Rep K) w E Q (f ds s) → r xs w.H Q
section
variable {X : Cx} {W : WX} {a : Expr} {es : List Expr} {pos p : Pos} {mr : DM (List D)} {x : Str} {f : DF} {r : List V → Hp → VK → Prop} {id T : String}
theorem e_callB (hc : CallR X (.builtin id) r) (hv : VRC X.K r f) (hg : Gl X x) (hm : X.mg x = none) (hb : bootBuiltins x = some (.builtin id)) (ha : PA X (a :: es) (tA X.K W mr)) (hn : x ≠ "__name__" := by decide) (hdb : (x == ("__debug__" : Str)) = false := by decide)
    (he : starEach (a :: es) X.env = (false, eval a X.env) :: starEach es X.env := by rfl) (hpl : (backTo pos (starEach es X.env)).any (·.1) = false := by rfl) : PE X (.Call (.Name x p) (a :: es) [] pos) (tE X.K W (argM f mr)) :=
  PE.imp (pe_callB hc hg hm hb ha hn hdb he hpl) fun t H Q h => by
    obtain ⟨r, s, w, rfl, env, st, hp⟩ := h
    exact hp.bind env st fun vs ds s1 w1 e1 st1 r1 hp1 => hv w1 s1 vs ds Q _ st1 r1 hp1
theorem e_callTy (hc : CallR X (.type T) r) (hv : VRC X.K r f) (hg : Gl X x) (hm : X.mg x = none) (hb : bootBuiltins x = some (.type T)) (ha : PA X (a :: es) (tA X.K W mr)) (hn : x ≠ "__name__" := by decide) (hdb : (x == ("__debug__" : Str)) = false := by decide)
    (he : starEach (a :: es) X.env = (false, eval a X.env) :: starEach es X.env := by rfl) (hpl : (backTo pos (starEach es X.env)).any (·.1) = false := by rfl) : PE X (.Call (.Name x p) (a :: es) [] pos) (tE X.K W (argM f mr)) :=
  PE.imp (pe_callTy hc hg hm hb ha hn hdb he hpl) fun t H Q h => by
    obtain ⟨r, s, w, rfl, env, st, hp⟩ := h
    exact hp.bind env st fun vs ds s1 w1 e1 st1 r1 hp1 => hv w1 s1 vs ds Q _ st1 r1 hp1
theorem v_abs : VRC X.K (fun xs H Q => ∃ i, xs = [.int i] ∧ Q (.int (if i < 0 then -i else i)) H) absD := fun w s xs ds Q E st rs hp => by
  unfold absD at hp
  split at hp
  · cases rs with | cons q r => cases q; cases r; exact ⟨_, rfl, hp.pure st (.int _)⟩
  · exact hp.elim
theorem v_int : VRC X.K (fun xs H Q => (∃ i, xs = [.int i] ∧ Q (.int i) H) ∨ ∃ k, xs = [.bl k] ∧ Q (.int (if k then 1 else 0)) H) intD := fun w s xs ds Q E st rs hp => by
  unfold intD at hp
  split at hp
  · cases rs with | cons q r => cases q; cases r; exact .inl ⟨_, rfl, hp.pure st (.int _)⟩
  · cases rs with | cons q r => cases q; cases r; exact .inr ⟨_, rfl, hp.pure st (.int _)⟩
  · exact hp.elim
theorem v_len : VRC X.K (fun xs H Q => ∃ x n, xs = [x] ∧ LenV X.K x H n ∧ Q (.int (n : Nat)) H) lenD := fun w s xs ds Q E st rs hp => by
  unfold lenD at hp
  split at hp
  · cases rs with
    | cons q r =>
      cases q
      cases r
      split at hp
      · rename_i z hl
        exact ⟨_, _, rfl, ⟨hl, rfl⟩, hp.pure st (.int _)⟩
      · exact hp.elim
  · cases rs with
    | cons q r =>
      cases r
      split at hp
      · rename_i l el
        obtain ⟨p, vs, rfl, hq, rs⟩ := seqOf_ok st q el
        refine ⟨_, vs.length, rfl, ?_, by rw [rs.length]; exact hp.pure st (.int _)⟩
        rcases hq with hq | hq
        · exact .inl ⟨vs, hq, rfl⟩
        · exact .inr ⟨vs, hq, rfl⟩
      · exact hp.elim
  · exact hp.elim
theorem v_list {k : Bool} : VRC X.K (fun xs H Q => ∃ p ys, xs = [.ref p] ∧ (SqL X.K H p ys ∨ SqT X.K H p ys) ∧ ∀ l, H l = none → Q (.ref l) (upd H l (.lst ys))) (listD k) := fun w s xs ds Q E st rs hp => by
  unfold listD at hp
  split at hp
  · cases rs with
    | cons q r =>
      cases r
      split at hp
      · rename_i l el
        obtain ⟨p, vs, rfl, hq, rs⟩ := seqOf_ok st q el
        exact ⟨p, vs, rfl, hq, hp.newL st rs⟩
      · exact hp.elim
  · exact hp.elim
theorem bools_ok {K : Frag} {w : Wd} : ∀ {ds : List D} {vs : List V} {l : List Bool}, Reps K w vs ds → bools ds = some l → vs = l.map V.bl
  | [], _, _, h, e => by
    cases h
    cases e
    rfl
  | d :: r, _, _, h, e => by
    cases h with
    | cons h1 h2 =>
      cases d with
      | bl b =>
        cases h1
        have e' : (bools r).map (fun l => b :: l) = some _ := e
        cases q : bools r with
        | none => rw [q] at e'; cases e'
        | some l2 =>
          rw [q] at e'
          cases e'
          rw [bools_ok h2 q]
          rfl
      | _ => cases e
theorem v_all : VRC X.K (rAll X.K) allD := fun w s xs ds Q E st rs hp => by
  unfold allD at hp
  split at hp
  · cases rs with
    | cons q r =>
      cases r
      split at hp
      · rename_i l el
        obtain ⟨l1, e1, e2⟩ := Option.bind_eq_some_iff.mp el
        obtain ⟨p, vs, rfl, hq, rs⟩ := lstOf_ok st q e1
        have ev := bools_ok rs e2
        subst ev
        exact ⟨p, l, rfl, hq, hp.pure st (.bl _)⟩
      · exact hp.elim
  · exact hp.elim
theorem v_any : VRC X.K (rAny X.K) anyD := fun w s xs ds Q E st rs hp => by
  unfold anyD at hp
  split at hp
  · cases rs with
    | cons q r =>
      cases r
      split at hp
      · rename_i l el
        obtain ⟨l1, e1, e2⟩ := Option.bind_eq_some_iff.mp el
        obtain ⟨p, vs, rfl, hq, rs⟩ := lstOf_ok st q e1
        have ev := bools_ok rs e2
        subst ev
        exact ⟨p, l, rfl, hq, hp.pure st (.bl _)⟩
      · exact hp.elim
  · exact hp.elim
/-! isinstance -/
structure TyC (K : Frag) (C : Addr) : Prop where
  cl : Cls K C
  ha : PySem.W.findIn K (.ref C) "__class__" = some (some (.builtin "object.__class__"))
  hn : PySem.W.specialIn K (.builtin "object.__class__") "__get__" = some (some (.builtin "getset_descriptor.__get__"))
  htk : PySem.W.takesIn K (.builtin "object.__class__") = some true
  hm : PySem.W.mroIn K C (.type "object") = some true
abbrev tyNames : List String := ["NoneType", "bool", "int", "str", "list", "tuple", "dict"]
structure IsiOk (K : Frag) (it : Isi) : Prop where
  cs : ∀ C ∈ it.cs, TyC K (He.ga K C)
  oo : ∀ q ∈ it.oo, PySem.W.kitOne K (.ref (He.ga K q.1.1)) (.ref (He.ga K q.1.2)) = some q.2
  bo : ∀ C ∈ it.bo, ∀ n ∈ tyNames, PySem.W.kitOne K (.type n) (.ref (He.ga K C)) = some false
  ob : ∀ q ∈ it.ob, PySem.W.kitOne K (.ref (He.ga K q.1.1)) (.type q.1.2) = some q.2
def TgOk (K : Frag) (w : Wd) (v : V) : Tg → Prop
  | .bt n => TyX K w.H v (.type n) ∧ n ∈ tyNames
  | .own C => ∃ a dx fs, v = .ref a ∧ w.H a = some (.ins (He.ga K C) dx fs)
theorem tag_ok {K : Frag} {w : Wd} {s : Sto} {v : V} {d : D} {t : Tg} (st : StR K w s) (r : Rep K w v d) (h : tagD s d = some t) : TgOk K w v t := by
  cases r with
  | non => cases h; exact ⟨.base .non, by simp⟩
  | bl b => cases h; exact ⟨.base (.bl b), by simp⟩
  | int i => cases h; exact ⟨.base (.int i), by simp⟩
  | str z => cases h; exact ⟨.base (.str z), by simp⟩
  | tup hh rs =>
    cases h
    refine ⟨?_, by simp⟩
    exact .base (.tup hh.2)
  | lst z hh rs => cases h; exact ⟨.base (.lst hh), by simp⟩
  | dct z hh hl rs => cases h; exact ⟨.fDict hh, by simp⟩
  | ins z hh hl rs => cases h; exact ⟨_, _, _, rfl, hh⟩
  | @cel n a0 hA =>
    unfold tagD at h
    dsimp only at h
    cases e : s[n]? with
    | none => rw [e] at h; cases h
    | some oc =>
      cases oc with
      | none => rw [e] at h; cases h
      | some ct =>
        rw [e] at h
        cases ct with
        | lst l =>
          cases h
          obtain ⟨a1, h1, _, vs, hh, rs⟩ := st.at_ n _ e
          have ea : a1 = a0 := Option.some.inj (h1.symm.trans hA)
          subst ea
          exact ⟨.base (.lst hh), by simp⟩
        | dct l =>
          cases h
          obtain ⟨a1, h1, _, vs, hh, rs⟩ := st.at_ n _ e
          have ea : a1 = a0 := Option.some.inj (h1.symm.trans hA)
          subst ea
          exact ⟨.base (.dK hh), by simp⟩
        | rod l =>
          cases h
          obtain ⟨a1, h1, _, o, vs, _, hh, rs⟩ := st.at_ n _ e
          have ea : a1 = a0 := Option.some.inj (h1.symm.trans hA)
          subst ea
          exact ⟨.fDict hh, by simp⟩
        | ins C l =>
          cases h
          obtain ⟨a1, h1, _, dx, vs, hh, rs⟩ := st.at_ n _ e
          have ea : a1 = a0 := Option.some.inj (h1.symm.trans hA)
          subst ea
          exact ⟨_, _, _, rfl, hh⟩
        | tab x => cases h
        | dtt m => cases h
  | _ => cases h
theorem look_mem {T : Type} [BEq T] [LawfulBEq T] {k : T} {b : Bool} : ∀ {l : List (T × Bool)}, l.lookup k = some b → (k, b) ∈ l
  | [], h => by cases h
  | (k2, b2) :: l, h => by
    rw [List.lookup_cons] at h
    split at h
    · rename_i hk
      have e1 := eq_of_beq hk
      cases h
      rw [e1]
      exact List.mem_cons_self
    · exact List.mem_cons_of_mem _ (look_mem h)
theorem v_isi {it : Isi} (O : IsiOk X.K it) : VRC X.K (rIsi X.K) (isiD it) := fun w s xs ds Q E st rs hp => by
  unfold isiD at hp
  split at hp
  · cases rs with
    | cons q r =>
      cases r with
      | cons q2 r =>
        cases r
        split at hp
        · rename_i t et
          have h1 := tag_ok st q et
          split at hp
          · rename_i b eb
            cases t with
            | bt n =>
              cases q2 with
              | ty m => exact ⟨_, _, _, _, b, rfl, .ty m, h1.1, kit_ty eb, hp.pure st (.bl _)⟩
              | glo C =>
                have eb' : (if C ∈ it.bo then some false else none) = some b := eb
                split at eb'
                · rename_i hc
                  cases eb'
                  exact ⟨_, _, _, _, false, rfl, .own _, h1.1, O.bo C hc n h1.2, hp.pure st (.bl _)⟩
                · cases eb'
              | _ => cases eb
            | own C =>
              obtain ⟨a, dx, fs, rfl, hh⟩ := h1
              cases q2 with
              | ty m =>
                have eb' : (if C ∈ it.cs then it.ob.lookup (C, m) else none) = some b := eb
                split at eb'
                · rename_i hc
                  obtain ⟨c1, c2, c3, c4, c5⟩ := O.cs C hc
                  exact ⟨_, _, _, _, b, rfl, .ty m, .base (.ins hh c1 c2 c3 c4 c5), O.ob _ (look_mem (k := (C, m)) eb'), hp.pure st (.bl _)⟩
                · cases eb'
              | glo E =>
                have eb' : (if C ∈ it.cs then it.oo.lookup (C, E) else none) = some b := eb
                split at eb'
                · rename_i hc
                  obtain ⟨c1, c2, c3, c4, c5⟩ := O.cs C hc
                  exact ⟨_, _, _, _, b, rfl, .own _, .base (.ins hh c1 c2 c3 c4 c5), O.oo _ (look_mem (k := (C, E)) eb'), hp.pure st (.bl _)⟩
                · cases eb'
              | _ => cases eb
          · exact hp.elim
        · exact hp.elim
  · exact hp.elim
end
end Mp
set_option Elab.async false
set_option linter.all false
set_option maxRecDepth 100000
set_option maxHeartbeats 4000000
/-! Mp: dicts, stores by key or place, x op= e, append. -/
namespace Mp
open PySem PySem.Spec PyProof.Rows L2
/-! ### on data -/
def putA {T U : Type} [DecidableEq T] (l : List (T × U)) (k : T) (v : U) : List (T × U) := if (l.any fun p => decide (p.1 = k)) = true then l.map (fun p => if p.1 = k then (p.1, v) else p) else l ++ [(k, v)]
def mergeA {T U : Type} [DecidableEq T] (l more : List (T × U)) : List (T × U) := more.foldl (fun acc p => putA acc p.1 p.2) l
def pairsM : List (DE × DE) → DM (List (D × D))
  | [] => pureM []
  | (k, v) :: r => bindM k fun x => bindM v fun y => bindM (pairsM r) fun l => pureM ((x, y) :: l)
def keyed : List (D × D) → Option (List (Key × D))
  | [] => some []
  | (k, v) :: r => (keyD k).bind fun x => (keyed r).map fun l => (x, v) :: l
/-- {k: v, ..}, a new cell -/
def dispM (l : List (DE × DE)) : DE := bindM (pairsM l) fun ps => fun _ s => match keyed ps with
  | some kvs => if kvs.length ≤ 15 then .ok (.cel s.length) (s ++ [some (.dct (mergeA [] kvs))]) else .bad
  | none => .bad
/-- o[k] = v: a cell's dict or list -/
def putI (o k v : D) (s : Sto) : Option Sto := match o with
  | .cel n => (match s[n]? with
    | some (some (.dct m)) => (match keyD k with
      | some q => if m.length < sizeLine then some (s.set n (some (.dct (putA m q v)))) else none
      | none => none)
    | some (some (.lst l)) => (match k with
      | .int i => (match ixN l.length i with
        | some j => some (s.set n (some (.lst (l.set j v))))
        | none => none)
      | _ => none)
    | _ => none)
  | _ => none
def subS (o k v : DE) : DS := thenS v fun y => thenS o fun x => thenS k fun z => fun r s => match putI x z y s with
  | some s' => .nx r s'
  | none => .bad
/-! ### soundness -/
section
variable {K : Frag} {w : Wd}
theorem KVR.any {T : Type} [DecidableEq T] {k : T} : ∀ {l : List (T × V)} {m : List (T × D)}, KVR K w l m → (l.any fun p => decide (p.1 = k)) = (m.any fun p => decide (p.1 = k))
  | _, _, .nil => rfl
  | _, _, .cons h r => by
    rw [List.any_cons, List.any_cons, r.any]
theorem KVR.mapP {T : Type} [DecidableEq T] {k : T} {y : V} {d : D} (q : Rep K w y d) : ∀ {l : List (T × V)} {m : List (T × D)}, KVR K w l m → KVR K w (l.map fun p => if p.1 = k then (p.1, y) else p) (m.map fun p => if p.1 = k then (p.1, d) else p)
  | _, _, .nil => .nil
  | _, _, .cons (k := j) h r => by
    rw [List.map_cons, List.map_cons]
    by_cases e : j = k
    · rw [if_pos e, if_pos e]
      exact .cons q (r.mapP q)
    · rw [if_neg e, if_neg e]
      exact .cons h (r.mapP q)
theorem KVR.app {T : Type} : ∀ {l l2 : List (T × V)} {m m2 : List (T × D)}, KVR K w l m → KVR K w l2 m2 → KVR K w (l ++ l2) (m ++ m2)
  | _, _, _, _, .nil, r => r
  | _, _, _, _, .cons h t, r => .cons h (t.app r)
theorem KVR.putK {T : Type} [DecidableEq T] {k : T} {y : V} {d : D} (q : Rep K w y d) {l : List (T × V)} {m : List (T × D)} (r : KVR K w l m) : KVR K w (L2.putK l k y) (putA m k d) := by
  unfold L2.putK putA
  rw [r.any]
  by_cases e : (m.any fun p => decide (p.1 = k)) = true
  · rw [if_pos e, if_pos e]
    exact r.mapP q
  · rw [if_neg e, if_neg e]
    exact r.app (.cons q .nil)
theorem KVR.merge : ∀ {l2 : List (Key × V)} {m2 : List (Key × D)} {l : List (Key × V)} {m : List (Key × D)}, KVR K w l m → KVR K w l2 m2 → KVR K w (mergeK l l2) (mergeA m m2)
  | _, _, _, _, r, .nil => r
  | _, _, _, _, r, .cons h t => (r.putK h).merge t
inductive RPs (K : Frag) (w : Wd) : List (V × V) → List (D × D) → Prop
  | nil : RPs K w [] []
  | cons {x y : V} {a b : D} {l : List (V × V)} {m : List (D × D)} : Rep K w x a → Rep K w y b → RPs K w l m → RPs K w ((x, y) :: l) ((a, b) :: m)
theorem RPs.ext {w' : Wd} (e : Ext w w') : ∀ {l : List (V × V)} {m : List (D × D)}, RPs K w l m → RPs K w' l m
  | _, _, .nil => .nil
  | _, _, .cons h k r => .cons (h.ext e) (k.ext e) (r.ext e)
theorem keyed_ok : ∀ {l : List (V × V)} {m : List (D × D)} {kvs : List (Key × D)}, RPs K w l m → keyed m = some kvs → ∃ kv : List (Key × V), l = kv.map (fun p => (kV p.1, p.2)) ∧ KVR K w kv kvs
  | _, _, _, .nil, h => by
    cases h
    exact ⟨[], rfl, .nil⟩
  | _, _, _, .cons (a := a) (b := b) (m := m) h k r, e => by
    have e' : ((keyD a).bind fun x => (keyed m).map fun l => (x, b) :: l) = some _ := e
    cases q1 : keyD a with
    | none => rw [q1] at e'; cases e'
    | some z =>
      cases q2 : keyed m with
      | none => rw [q1, q2] at e'; cases e'
      | some kvs2 =>
        rw [q1, q2] at e'
        cases e'
        obtain ⟨kv, rfl, hr⟩ := keyed_ok r q2
        exact ⟨(z, _) :: kv, by rw [keyD_ok h q1]; rfl, .cons k hr⟩
end
theorem pairs_imp {K : Frag} {W : WX} {r : En} {t : L2.St} : ∀ {l : List (DE × DE)} {w : Wd} {s : Sto} {Q : List (V × V) → Hp → Prop}, EnvR K w r t → StR K w s → Post K (RPs K) w (fun c d H' => W c d t H') Q (pairsM l r s) → tPairs (l.map fun p => (tE K W p.1, tE K W p.2)) t w.H Q
  | [], w, s, Q, env, st, hp => hp.pure st .nil
  | (k, v) :: l, w, s, Q, env, st, hp => hp.bind env st fun x d s1 w1 e1 st1 r1 hp1 => hp1.bind (env.ext e1) st1 fun y d2 s2 w2 e2 st2 r2 hp2 => by
    refine pairs_imp ((env.ext e1).ext e2) st2 ?_
    unfold bindM at hp2
    cases e : pairsM l r s2 with
    | ok ps s3 =>
      rw [e] at hp2
      exact fun z w3 e3 st3 r3 => hp2 _ w3 e3 st3 (.cons ((r1.ext e2).ext e3) (r2.ext e3) r3)
    | exc C fs s3 => rw [e] at hp2; exact hp2
    | bad => rw [e] at hp2; exact hp2
/-- the pinned thing becomes a cell -/
theorem unpin_cell {K : Frag} {w0 w : Wd} {s : Sto} {p : Addr} {ct : Ct} (e : Ext w0 w) (st : StR K w s) (h1 : ¬ w0.P p) (hP : w.P p) (hc : CtR K w p ct) :
    ∃ w2 : Wd, w2.H = w.H ∧ Ext w0 w2 ∧ StR K w2 (s ++ [some ct]) ∧ Rep K w2 (.ref p) (.cel s.length) := by
  have nz := (st.pz p hP).1
  let w2 : Wd := ⟨fun m => if m = s.length then some p else w.A m, w.Z, fun a => w.P a ∧ a ≠ p, w.H⟩
  have hA : ∀ m a, w.A m = some a → w2.A m = some a := fun m a q => by
    have ne : ¬ m = s.length := fun z => by
      rw [st.new m (by omega)] at q
      exact nomatch q
    show (if m = s.length then some p else w.A m) = some a
    rw [if_neg ne]
    exact q
  have e0 : Ex0 w w2 := ⟨hA, fun _ h => h, fun _ _ => rfl⟩
  have at' : ∀ m c, (s ++ [some ct])[m]? = some (some c) → (m < s.length ∧ s[m]? = some (some c)) ∨ (m = s.length ∧ c = ct) := fun m c q => by
    by_cases hm : m < s.length
    · rw [List.getElem?_append_left hm] at q
      exact .inl ⟨hm, q⟩
    · rw [List.getElem?_append_right (by omega)] at q
      by_cases h0 : m - s.length = 0
      · rw [h0] at q
        exact .inr ⟨by omega, by simpa using q.symm⟩
      · rw [List.getElem?_eq_none (by simp; omega)] at q
        cases q
  have AtN : w2.A s.length = some p := if_pos rfl
  have AtO : ∀ m, m < s.length → w2.A m = w.A m := fun m hm => if_neg (by omega)
  have npo : ∀ m c a, s[m]? = some (some c) → w.A m = some a → a ≠ p := fun m c a q ha z => st.np m c a q ha (z ▸ hP)
  refine ⟨w2, rfl, ⟨⟨fun n a q => hA n a (e.A n a q), e.Z, e.H⟩, fun a z => ⟨e.P a z, fun q => h1 (q ▸ z)⟩, e.HP⟩, ⟨fun m c q => ?_, fun m c a q ha z => ?_, fun a z => st.pz a z.1, fun m k b x y qm qk hm hk => ?_, st.fz, fun m hm => ?_, st.ptk (fun _ h => h.1) (fun _ _ => rfl)⟩, .cel AtN⟩
  · rcases at' m c q with ⟨hm, q⟩ | ⟨rfl, rfl⟩
    · obtain ⟨a, k1, k2, k3⟩ := st.at_ m c q
      exact ⟨a, hA m a k1, k2, k3.sam0 e0 rfl⟩
    · exact ⟨p, AtN, NZ.of nz, hc.sam0 e0 rfl⟩
  · rcases at' m c q with ⟨hm, q⟩ | ⟨rfl, rfl⟩
    · rw [AtO m hm] at ha
      exact st.np m c a q ha z.1
    · rw [AtN] at ha
      cases ha
      exact z.2 rfl
  · rcases at' m x qm with ⟨lm, qm'⟩ | ⟨rfl, rfl⟩
    · rcases at' k y qk with ⟨lk, qk'⟩ | ⟨rfl, rfl⟩
      · rw [AtO m lm] at hm
        rw [AtO k lk] at hk
        exact st.inj m k b x y qm' qk' hm hk
      · rw [AtO m lm] at hm
        rw [AtN] at hk
        cases hk
        exact absurd rfl (npo m x _ qm' hm)
    · rcases at' k y qk with ⟨lk, qk'⟩ | ⟨rfl, rfl⟩
      · rw [AtO k lk] at hk
        rw [AtN] at hm
        cases hm
        exact absurd rfl (npo k y _ qk' hk)
      · rfl
  · rw [List.length_append] at hm
    have hm' : s.length + 1 ≤ m := hm
    show (if m = s.length then some p else w.A m) = none
    rw [if_neg (by omega)]
    exact st.new m (by omega)
section
variable {X : Cx} {W : WX} {a b o : Expr} {es : List Expr} {pos pos' p apos : Pos} {ma mb mo : DE} {mr : DM (List D)}
theorem pp_nil : PPs X pos [] [] (([] : List (DE × DE)).map fun p => (tE X.K W p.1, tE X.K W p.2)) := pps_nil
theorem pp_cons {ks : List (Option Expr)} {vs : List Expr} {l : List (DE × DE)} (hk : PE X a (tE X.K W ma)) (hv : PE X b (tE X.K W mb)) (hr : PPs X pos ks vs (l.map fun p => (tE X.K W p.1, tE X.K W p.2))) : PPs X pos (some a :: ks) (b :: vs) (((ma, mb) :: l).map fun p => (tE X.K W p.1, tE X.K W p.2)) := pps_cons hk hv hr
theorem e_disp {ks : List (Option Expr)} {vs : List Expr} {l : List (DE × DE)} (h : PPs X pos ks vs (l.map fun p => (tE X.K W p.1, tE X.K W p.2))) (hall : ks.all (·.isSome) = true := by rfl) (hl : ks.length = vs.length := by rfl) (h0 : ks ≠ [] := by exact fun z => nomatch z) (h15 : ks.length ≤ 15 := by decide) :
    PE X (.Dict ks vs pos) (tE X.K W (dispM l)) := PE.imp (pe_disp h hall hl h0 h15) fun t H Q h => by
  obtain ⟨r, s, w, rfl, env, st, hp⟩ := h
  intro q nq
  have hP : ¬ w.P q := fun z => (st.pz q z).2 nq
  have hz : ¬ w.Z q := fun z => st.fz q z nq
  have e1 := Wd.pin_ext (o := .dK []) st nq
  refine pairs_imp (w := w.pin q (.dK [])) (env.ext e1) (Wd.pin_st st nq) ?_
  unfold dispM bindM at hp
  cases e : pairsM l r s with
  | exc C fs s3 => rw [e] at hp; exact Post.ext e1 hp
  | bad => rw [e] at hp; exact hp
  | ok ps s3 =>
    rw [e] at hp
    dsimp only at hp
    intro vs2 w3 e3 st3 r3
    have P3 : w3.P q := e3.P q (.inr rfl)
    have H3 : w3.H q = some (.dK []) := (e3.HP q (.inr rfl)).trans upd_same
    refine ⟨H3, ?_⟩
    cases ek : keyed ps with
    | none => rw [ek] at hp; exact hp.elim
    | some kvs =>
      rw [ek] at hp
      dsimp only at hp
      obtain ⟨kv, rfl, hr⟩ := keyed_ok r3 ek
      by_cases hl : kvs.length ≤ 15
      · rw [if_pos hl] at hp
        refine ⟨kv, rfl, by rw [hr.length]; exact hl, ?_⟩
        have x4 := Wd.turn_ext (o := .dK (mergeK [] kv)) (e1.trans e3) hz hP
        have st4 := Wd.turn_st (o := .dK (mergeK [] kv)) st3 P3
        have e0 := Wd.turn_ex0 (o := .dK (mergeK [] kv)) st3 P3
        obtain ⟨w5, h5, x5, st5, r5⟩ := unpin_cell (ct := .dct (mergeA [] kvs)) x4 st4 hP P3 ⟨mergeK [] kv, upd_same, KVR.merge .nil (hr.ex0 e0)⟩
        have z := hp (.ref q) w5 x5 st5 r5
        rw [h5] at z
        exact z
      · rw [if_neg hl] at hp
        exact hp.elim
/-! stores -/
theorem set_dict (hu : X.A.units + 1 < cLine) : PSet X (fun o i v H Q => ∃ a H', o = .ref a ∧ DPut H a i v H' ∧ Q H') := fun pins s t H o i v ov iv u Q I ro ri rv h => by
  obtain ⟨q, H', rfl, g, k⟩ := h
  obtain rfl : ov = Value.ref q := ro
  exact d_setItem hu I g ri rv fun s3 I3 => ⟨H', I3, k⟩
theorem PSet.or {t t' : TSet} (h : PSet X t) (h' : PSet X t') : PSet X (fun o i v H Q => t o i v H Q ∨ t' o i v H Q) := fun pins s σ H o i v ov iv u Q I ro ri rv q => q.elim (h pins s σ H o i v ov iv u Q I ro ri rv) (h' pins s σ H o i v ov iv u Q I ro ri rv)
theorem putI_ok {w : Wd} {s s' : Sto} {x z y : V} {dx dz dy : D} {Q : Hp → Prop} (st : StR X.K w s) (rx : Rep X.K w x dx) (rz : Rep X.K w z dz) (ry : Rep X.K w y dy) (h : putI dx dz dy s = some s') (k : ∀ w', Ext w w' → StR X.K w' s' → Q w'.H) :
    (∃ a H', x = .ref a ∧ DPut w.H a z y H' ∧ Q H') ∨ (∃ p xs i j, x = V.ref p ∧ z = .int i ∧ w.H p = some (.lst xs) ∧ ixN xs.length i = some j ∧ Q (upd w.H p (.lst (xs.set j y)))) := by
  cases rx with
  | @cel n a0 hA =>
    unfold putI at h
    dsimp only at h
    cases e : s[n]? with
    | none => rw [e] at h; cases h
    | some oc =>
      cases oc with
      | none => rw [e] at h; cases h
      | some ct =>
        rw [e] at h
        obtain ⟨a1, h1, hz, hc⟩ := st.at_ n _ e
        have ea : a1 = a0 := Option.some.inj (h1.symm.trans hA)
        subst ea
        have hP := st.np n _ a1 e h1
        cases ct with
        | dct m =>
          dsimp only at h
          obtain ⟨l, hh, kv⟩ := hc
          cases ek : keyD dz with
          | none => rw [ek] at h; cases h
          | some q =>
            rw [ek] at h
            dsimp only at h
            split at h
            · rename_i hl
              cases h
              have e3 : Ext w (w.put a1 (.dK (L2.putK l q y))) := Wd.mut_ext hz hP
              refine .inl ⟨a1, _, rfl, .inl ⟨l, q, hh, keyD_ok rz ek, by rw [kv.length]; exact hl, rfl⟩, ?_⟩
              exact k (w.put a1 (.dK (L2.putK l q y))) e3 (Wd.mut_st st e h1 hz ⟨_, upd_same, (kv.ext e3).putK (ry.ext e3)⟩)
            · cases h
        | lst l =>
          dsimp only at h
          obtain ⟨vs, hh, rs⟩ := hc
          cases rz with
          | int i =>
            dsimp only at h
            cases ei : ixN l.length i with
            | none => rw [ei] at h; cases h
            | some j =>
              rw [ei] at h
              cases h
              have e3 : Ext w (w.put a1 (.lst (vs.set j y))) := Wd.mut_ext hz hP
              refine .inr ⟨a1, vs, i, j, rfl, rfl, hh, by rw [rs.length]; exact ei, ?_⟩
              exact k (w.put a1 (.lst (vs.set j y))) e3 (Wd.mut_st st e h1 hz ⟨_, upd_same, (rs.ext e3).set (ry.ext e3) j⟩)
          | _ => cases h
        | ins C l => cases h
        | rod l => cases h
        | tab x => cases h
        | dtt m => cases h
  | _ => cases h
theorem s_sub {mk : DE} (hu : X.A.units + 1 < cLine) (ho : PE X o (tE X.K W mo)) (hk : PE X b (tE X.K W mk)) (hv : PE X a (tE X.K W ma)) (hs : swapsWithSole [.Subscript o b p] a pos.line X.env = pure false := by rfl) (hw : swappedStores [.Subscript o b p] a X.env = pure none := by rfl)
    (h1 : (assignEach [.Subscript o b p] X.env).map (·.2) = [assign (.Subscript o b p) X.env] := by rfl)
    (hA : ∀ v, assign (.Subscript o b p) X.env v = (holding [v] (eval o X.env) >>= fun ov => holding [v, ov] (eval b X.env) >>= fun iv => standAt p >>= fun _ => holding [v, ov, iv] (setItem ov iv v) >>= fun _ => release [v, ov, iv] []) := by intro _; rfl) :
    PS X (.Assign [.Subscript o b p] a pos) (tS X.K W (subS mo mk ma)) := PS.imp (ps_asg hv (pg_sub ho hk (PSet.or (set_dict hu) set_list) hA) hs hw h1) fun E t H h => by
  obtain ⟨r, s, w, rfl, env, st, hp⟩ := h
  exact hp.bind env st fun y dy s1 w1 e1 st1 r1 hp1 => hp1.bind (env.ext e1) st1 fun x dx s2 w2 e2 st2 r2 hp2 => hp2.bind ((env.ext e1).ext e2) st2 fun z dz s3 w3 e3 st3 r3 hp3 => by
    cases e : putI dx dz dy s3 with
    | none => rw [e] at hp3; exact hp3.elim
    | some s4 =>
      rw [e] at hp3
      have q := putI_ok (Q := fun H3 => E.nx t H3) st3 (r2.ext e3) r3 ((r1.ext e2).ext e3) e fun w4 e4 st4 => hp3 t w4 e4 ((((env.ext e1).ext e2).ext e3).ext e4) st4
      rcases q with q | q
      · exact .inl q
      · obtain ⟨p1, xs, i, j, h1, h2, h3, h4, h5⟩ := q
        exact .inr ⟨p1, xs, i, j, h1, h2, h3, h4, h5⟩
/-! x op= e -/
def addI (x y : D) (s : Sto) : Res D := match x with
  | .int i => (match y with
    | .int j => .ok (.int (i + j)) s
    | _ => .bad)
  | _ => .bad
end
end Mp
set_option Elab.async false
set_option linter.all false
set_option maxRecDepth 100000
set_option maxHeartbeats 4000000
/-! Mp: try. -/
namespace Mp
open PySem PySem.Spec PyProof.Rows L2
/-! ### on data -/
def noExc : Fl → Fl
  | .exc _ _ _ _ => .bad
  | f => f
/-- try: body except c: suite; tb: which of the package's errors c is -/
def tryS (mb : DS) (tb : List (Str × Bool)) (mh : DS) : DS := fun r s => match mb r s with
  | .exc C fs r' s' => (match tb.lookup C with
    | some true => noExc (mh r' s')
    | some false => .exc C fs r' s'
    | none => .bad)
  | f => f
def offS (i : Nat) : Fl → Fl
  | .nx r s => .nx (r.set i none) s
  | .bk r s => .bk (r.set i none) s
  | .ct r s => .ct (r.set i none) s
  | .rt d s => .rt d s
  | _ => .bad
open Classical in
noncomputable def joinF (f : Addr → Option Addr → Fl) : Fl := if ∀ a d, f a d = f 0 none then f 0 none else .bad
theorem joinF_of {f : Addr → Option Addr → Fl} (h : ∀ a d, f a d = f 0 none) : joinF f = f 0 none := if_pos h
noncomputable def tryAsS (i : Nat) (E : Str) (mb : DS) (tb : List (Str × Bool)) (mh : Addr → Option Addr → List (Str × D) → DS) : DS := fun r s => match mb r s with
  | .exc C fs r' s' => (match tb.lookup C with
    | some true => if C = E then joinF (fun a d => offS i (mh a d fs (r'.set i (some (.exn a d C fs))) s')) else .bad
    | some false => .exc C fs r' s'
    | none => .bad)
  | f => f
/-- e.f of the caught one -/
def exnM (a : Addr) (d : Option Addr) (f : Str) (m : DE) : DE := bindM m fun x => fun _ s => match x with
  | .exn a' d' _ fs => if a' = a ∧ d' = d then okO s (fs.lookup f) else .bad
  | _ => .bad
/-! ### soundness -/
def ExTab (K : Frag) (c : Value) (tb : List (Str × Bool)) : Prop := ∀ q ∈ tb, PySem.W.exmOne K (.ref (He.ga K q.1)) c = some q.2
section
variable {X : Cx} {W : WX} {x n : Str} {c : Value} {body suite : List Stmt} {b0 : Stmt} {np pos pos' : Pos} {mb mh : DS} {tb : List (Str × Bool)}
theorem s_tryAs {i : Nat} {E : Str} {mh : Addr → Option Addr → List (Str × D) → DS} (hs : X.stack = X.env :: X.outer) (hf : X.env.frame = some X.env.locals) (hN : X.N.Nodup) (hi : X.N[i]? = some n) (hln : X.env.kindOf n = some .local) (hc : Names X x c) (tk : Takes X W) (T : ExTab X.K c tb)
    (hb : ∀ (W' : WX) (pn : List (Addr × Obj)) (xe : Value → Shared → Prop), Takes (X.tr pn xe) W' → PassesOwn (model X.prog X.w) X.A X.env xe → PSs (X.tr pn xe) body (tS X.K W' mb))
    (hsu : ∀ (a : Addr) (oe : Obj) (d : Option Addr) (pn : List (Addr × Obj)) (fs : List (Str × D)), Zc (.ref (He.ga X.K E)) d oe → (∃ vs, oe.data = .fields vs) → PSs (X.suite a ((a, oe) :: pn)) (b0 :: suite) (tS X.K W0 (mh a d fs))) :
    PS X (.Try body [.ExceptHandler (some (.Name x np)) (some n) (b0 :: suite) pos'] [] [] pos) (tS X.K W (tryAsS i E mb tb mh)) :=
  PS.imp (ps_try_as (i := i) (tb := fun W' => tS X.K W' mb) (ts := fun a cls d E0 t H => ∃ fs, cls = .ref (He.ga X.K E) ∧ tS X.K W0 (mh a d fs) E0 t H) hs hf hN hi hln hc tk hb fun a oe cls d pn hz hd => ⟨fun pins s t H E0 I z => by
      obtain ⟨fs, rfl, z⟩ := z
      exact (hsu a oe d pn fs hz hd).run pins s t H E0 I z⟩) fun E0 t H h => by
    obtain ⟨r, s, w, rfl, env, st, hp⟩ := h
    refine ⟨r, s, w, rfl, env, st, ?_⟩
    unfold tryAsS at hp
    cases e : mb r s with
    | exc C fs r' s' =>
      rw [e] at hp
      dsimp only at hp
      intro t' ed w' e' env' st' x'
      cases e2 : tb.lookup C with
      | none => rw [e2] at hp; exact hp.elim
      | some k =>
        rw [e2] at hp
        refine ⟨k, T _ (look_mem e2), fun hk a _ => ?_, fun hk => ?_⟩
        · subst hk
          dsimp only at hp
          by_cases hC : C = E
          · rw [if_pos hC] at hp
            subst hC
            unfold joinF at hp
            split at hp
            · rename_i hj
              rw [← hj a ed] at hp
              refine ⟨fs, rfl, r'.set i (some (.exn a ed C fs)), s', w', rfl, env'.set (Rep.exnK x') i, st', ?_⟩
              have hp2 := PostS.ext e' hp
              dsimp only at hp2
              cases e3 : mh a ed fs (r'.set i (some (.exn a ed C fs))) s' with
              | nx r3 s3 => rw [e3] at hp2; exact fun t4 w4 e4 env4 st4 => hp2 _ w4 e4 (env4.unset i) st4
              | bk r3 s3 => rw [e3] at hp2; exact fun t4 w4 e4 env4 st4 => hp2 _ w4 e4 (env4.unset i) st4
              | ct r3 s3 => rw [e3] at hp2; exact fun t4 w4 e4 env4 st4 => hp2 _ w4 e4 (env4.unset i) st4
              | rt d3 s3 => rw [e3] at hp2; exact hp2
              | exc C3 f3 r3 s3 => rw [e3] at hp2; exact hp2.elim
              | bad => rw [e3] at hp2; exact hp2.elim
            · exact hp.elim
          · rw [if_neg hC] at hp
            exact hp.elim
        · subst hk
          exact hp t' ed w' e' env' st' x'
    | nx r' s' => rw [e] at hp; exact hp
    | rt d s' => rw [e] at hp; exact hp
    | bk r' s' => rw [e] at hp; exact hp
    | ct r' s' => rw [e] at hp; exact hp
    | bad => rw [e] at hp; exact hp
theorem e_exn {a : Addr} {oe : Obj} {d : Option Addr} {pn : List (Addr × Obj)} {C f : Str} {e : Expr} {m : DE} (T : XfC X.K (He.ga X.K C)) (hno : PySem.W.findIn X.K (.ref (He.ga X.K C)) f = some none) (hz : Zc (.ref (He.ga X.K C)) d oe) (hf : ∃ vs, oe.data = .fields vs)
    (he : PE (X.suite a ((a, oe) :: pn)) e (tE X.K W m)) (hb : attributeBase e f X.env (eval e X.env) = eval e X.env := by rfl) : PE (X.suite a ((a, oe) :: pn)) (.Attribute e f pos) (tE X.K W (exnM a d f m)) :=
  PE.imp (pe_xf T hno hz hf he hb) fun t H Q h => by
    obtain ⟨r, s, w, rfl, env, st, hp⟩ := h
    exact hp.bind env st fun v dv s1 w1 e1 st1 r1 hp1 => by
      cases dv with
      | exn a' d' C' fs =>
        dsimp only at hp1
        obtain ⟨rfl, hx⟩ := r1.exn_inv
        split at hp1
        · rename_i hq
          obtain ⟨rfl, rfl⟩ := hq
          refine ⟨rfl, rfl, ?_⟩
          cases d' with
          | none =>
            cases hx
            exact hp1.elim
          | some dd =>
            obtain ⟨z, l, hl, kv⟩ := hx
            have g := kv.lookup (f := f)
            cases eg : fs.lookup f with
            | none => rw [eg] at hp1; exact hp1.elim
            | some d3 =>
              rw [eg] at g hp1
              obtain ⟨v3, h3, r3⟩ := g
              exact ⟨dd, l, v3, rfl, hl, h3, hp1.pure st1 r3⟩
        · exact hp1.elim
      | _ => exact hp1.elim
end
end Mp
set_option Elab.async false
set_option linter.all false
set_option maxRecDepth 100000
set_option maxHeartbeats 4000000
/-! Mp: methods that say super().m(..). -/
namespace Mp
open PySem PySem.Spec PyProof.Rows L2
/-- statements whose own code stands on top of the stack -/
structure QSs (X : Cx) (c : Code) (st : List Stmt) (t : TS) : Prop where
  run : ∀ (pins : List (Addr × Obj)) (s : Shared) (σ : L2.St) (H : Hp) (D : Ends), Inv X pins σ H s → t D σ H → PySem.wpAt (model X.prog X.w) X.A c (execs st X.env) (SP X pins D) X.xe s
section
variable {X : Cx} {W : WX} {c : Code} {st : Stmt} {rest : List Stmt} {m1 m2 : DS}
theorem q_of {l : List Stmt} {t : TS} (h : PSs X l t) : QSs X c l t := ⟨fun pins s σ H D I q => wpAt_of_wpAny (h.run pins s σ H D I q)⟩
theorem q_cons (h1 : PS X st (tS X.K W m1)) (h2 : QSs X c rest (tS X.K W m2)) : QSs X c (st :: rest) (tS X.K W (seqS m1 m2)) := by
  refine ⟨fun pins s σ H D I h => ?_⟩
  have q := seq_imp h
  refine ks_wpAt_execs_cons (wpAt_of_wpAny (thn (h1.run pins s σ H { D with nx := tS X.K W m2 D } I q) fun f s1 q => ?_))
  cases f with
  | next =>
    obtain ⟨σ', H', I', q⟩ := q
    exact h2.run pins s1 σ' H' D I' q
  | ret v => exact q
  | brk => exact q
  | cont => exact q
end
/-- super().m(a, ..): by the class of the instance -/
def superM (tb : List (Str × DF)) (a : DM (List D)) : DE := bindM (vM 0) fun x => fun r s => match insOf s x with
  | none => .bad
  | some (C, _) => (match tb.lookup C with
    | none => .bad
    | some f => (bindM a fun ds => fun _ s => f (x :: ds) s) r s)
def superS (tb : List (Str × DF)) (a : DM (List D)) : DS := thenS (superM tb a) fun _ => fun r s => .nx r s
structure SupF (X : Cx) (D : Addr) (C m : Str) (mf : DF) : Prop where
  cls : (PySem.W.clsIn X.K (He.ga X.K C)).isSome = true
  sub : PySem.W.mroIn X.K (He.ga X.K C) (.ref D) = some true
  ex : ∃ (g : Addr) (k : Nat), PySem.W.ks_superIn X.K (He.ga X.K C) D m = some (some (.ref g)) ∧ PySem.W.typeIn X.K (.ref g) = some (.type "function") ∧ PySem.W.fnIn X.K g = true ∧ FnD X.prog X.w X.K X.mg X.base k g mf ∧ Rm k X.A
inductive STab (X : Cx) (D : Addr) (m : Str) : List (Str × DF) → Prop
  | nil : STab X D m []
  | cons {C : Str} {f : DF} {r : List (Str × DF)} : SupF X D C m f → STab X D m r → STab X D m ((C, f) :: r)
theorem STab.get {X : Cx} {D : Addr} {m C : Str} {f : DF} : ∀ {tb : List (Str × DF)}, STab X D m tb → tb.lookup C = some f → SupF X D C m f
  | _, .nil, h => by simp at h
  | _, .cons (C := E) h1 r, h => by
    by_cases e : C = E
    · subst e
      rw [List.lookup_cons_self] at h
      cases h
      exact h1
    · have hb : (C == E) = false := by simpa using e
      rw [List.lookup_cons, hb] at h
      exact r.get h
/-- what a method's context has where super() may be said -/
structure SupX (X : Cx) (Dc f cc cda : Addr) (me : Str) : Prop where
  fu : X.env.func = some f
  co : X.env.code = .ref cda
  cl : X.env.cells.lookup ("__class__" : Str) = some cc
  ks : X.env.kindOf "super" = some .globalImplicit
  kc : X.env.kindOf "__class__" = some .free
  km : X.env.kindOf me = some .local
  n0 : X.N[0]? = some me
  fd : ∃ (oc : Value) (od : Option Addr) (fd : FuncData) (osl : Array (Option Value)) (ar : Arg), X.K.lookup f = some ⟨oc, od, .func fd, osl⟩ ∧ (fd.params.posonlyargs ++ fd.params.args).head? = some ar ∧ ar.arg = me
  cd : ∃ (ccl : Value) (cdd : Option Addr) (vs : Array Value) (ccs : Array (Option Value)) (file : Str) (tf : Tok), X.K.lookup cda = some ⟨ccl, cdd, .fields vs, ccs⟩ ∧ vs[2]? = some (.str file tf) ∧ ((X.prog.main.file : Str) == file) = true
  ce : ∃ (cl : Value) (cld : Option Addr) (csl : Array (Option Value)), X.K.lookup cc = some ⟨cl, cld, .cell (some (.ref Dc)), csl⟩
  cD : (PySem.W.clsIn X.K Dc).isSome = true
  nos : X.mg "super" = none
  top : (X.prog.main.scope.names.lookup ("super" : Str)).isSome = false
  tp : PySem.W.nsIn X.K cStatics "thirdparty.any" = some none
section
variable {X : Cx} {W : WX} {Dc f cc cda : Addr} {me m : Str} {tb : List (Str × DF)} {mr : DM (List D)} {a : Expr} {es : List Expr} {p0 p1 p2 apos pos : Pos} {body rest : List Stmt} {m2 : DS}
theorem cls_obj {K : Frag} {h : Heap} {C : Addr} (KX : K.In h) (hc : (PySem.W.clsIn K C).isSome = true) : ∃ (o : Obj) (cd : ClassData), h.get? C = some o ∧ o.data = .cls cd ∧ PySem.W.clsIn K C = some cd := by
  obtain ⟨cd, hc⟩ := Option.isSome_iff_exists.mp hc
  have hc' := hc
  unfold PySem.W.clsIn at hc
  split at hc
  · rename_i ho
    cases hc
    exact ⟨_, _, KX _ _ ho, rfl, hc'⟩
  · cases hc
theorem q_super (tk : Takes X W) (S : SupX X Dc f cc cda me) (T : STab X Dc m tb) (ha : PA X (a :: es) (tA X.K W mr)) (h2 : QSs X (.func body X.env) rest (tS X.K W m2)) (hat : (m == ("__class__" : Str)) = false := by decide)
    (he : starEach (a :: es) X.env = (false, eval a X.env) :: starEach es X.env := by rfl) (hpl : (backTo pos (starEach es X.env)).any (·.1) = false := by rfl) {pl : Sem Bool}
    (ht : eval (.Call (.Attribute (.Call (.Name "super" p0) [] [] p1) m apos) (a :: es) [] pos) X.env = (attributeBase (.Call (.Name "super" p0) [] [] p1) m X.env (eval (.Call (.Name "super" p0) [] [] p1) X.env) >>= fun ov => standAt apos.atName >>= fun _ => holding [ov] (getMethod ov m pl) >>= fun z => callWith pos z.1 z.2 (backTo pos (starEach (a :: es) X.env)) []) := by rfl)
    (hi : interactive X.env = false := by rfl) (hs : swapsWith (.Call (.Attribute (.Call (.Name "super" p0) [] [] p1) m apos) (a :: es) [] pos) none p2.line X.env = pure false := by rfl) :
    QSs X (.func body X.env) (.Expr (.Call (.Attribute (.Call (.Name "super" p0) [] [] p1) m apos) (a :: es) [] pos) p2 :: rest) (tS X.K W (seqS (superS tb mr) m2)) := by
  refine ⟨fun pins s t H E I h => ?_⟩
  have q := seq_imp h
  obtain ⟨r, so, w, rfl, env, st, hp⟩ := q
  refine ks_wpAt_execs_cons (ks_wpAt_Expr_any ?_ hi hs)
  refine ks_wpAt_MethodCall (pl := pl) ?_ ht
  obtain ⟨oc, od, fd, osl, ar, hf, har, rfl⟩ := S.fd
  obtain ⟨ccl, cdd, vs, ccs, file, tf, hcd, hvs, hfile⟩ := S.cd
  obtain ⟨cl, cld, csl, hce⟩ := S.ce
  obtain ⟨oD, cdD, hD1, hD2, hD3⟩ := cls_obj I.kIn S.cD
  obtain ⟨mb, hb1, hb2⟩ := I.mod.blt
  refine ks_wpAt_super_base (env := X.env) S.ks S.kc hat S.fu (I.kIn _ _ hf) rfl har S.co (I.kIn _ _ hcd) rfl hvs hfile S.top ?_
  refine PySem.W.ks_loadName_global I.ok.kind S.ks (Calls.loadGlobal_builtin (by rw [I.ok.glob]; exact I.mod.glob.keeps I.bk) S.nos (by rw [I.ok.blt]; exact hb1.keeps I.bk) ((hb2 "super" (by decide)).trans (by decide +kernel)) ⟨rfl, ?_⟩)
  refine wpAny_loadName_free I.ok.kind S.kc S.cl ⟨_, I.kIn _ _ hce, rfl⟩ ?_
  unfold superS superM thenS bindM vM at hp
  cases e0 : r[0]? with
  | none => rw [e0] at hp; exact hp.elim
  | some od0 =>
    rw [e0] at hp
    cases od0 with
    | none => exact hp.elim
    | some d =>
      dsimp only at hp
      obtain ⟨v, hv, rv⟩ := env.2 0 d e0
      cases e : insOf so d with
      | none => rw [e] at hp; exact hp.elim
      | some q =>
        obtain ⟨C, fs⟩ := q
        rw [e] at hp
        dsimp only at hp
        obtain ⟨q, dx, l, rfl, hh, kv⟩ := insOf_ok st rv e
        cases e2 : tb.lookup C with
        | none => rw [e2] at hp; exact hp.elim
        | some mf =>
          rw [e2] at hp
          dsimp only at hp
          have SF := T.get e2
          obtain ⟨g, k, hsup, hty, hfi, F, hr⟩ := SF.ex
          obtain ⟨m0, hn, hl⟩ := I.loc
          obtain ⟨u, ru, lk⟩ := hl 0 ar.arg _ S.n0 hv (.inl S.km)
          obtain rfl : u = Value.ref q := ru
          have hm0 : m0 ar.arg = some (.ref q) := by
            rcases lk with ⟨_, z⟩ | ⟨z, _⟩
            · exact z
            · rw [S.km] at z
              rcases z with z | z <;> cases z
          refine wpAny_loadName_local I.ok.kind S.km hn hm0 ?_
          refine ks_wpAny_isType_cls hD1 hD2 ⟨rfl, ?_⟩
          obtain ⟨mA, O, _⟩ := ins_get I.hok hh
          obtain ⟨odI, J, _⟩ := O.look
          have hnc : ∀ cx, (_ : Obj).data ≠ .cls cx := fun cx ez => by
            have z := J.no
            unfold PySem.W.notCls at z
            rw [ez] at z
            exact Bool.noConfusion z
          refine ks_wpAny_call_super hD1 hD2 J.at_ J.cls hnc (PySem.W.looks_mroIn I.kIn SF.sub) fun h1 hso k1 => ?_
          have I1 : Inv X pins t w.H { s with heap := h1, toks := s.toks } := I.kept k1
          obtain ⟨oC, cdC, hC1, hC2, hC3⟩ := cls_obj I1.kIn SF.cls
          have hsup2 : PySem.W.alongIn X.K m ((cdC.mro.dropWhile (· != .ref Dc)).drop 1) = some (some (.ref g)) := by
            unfold PySem.W.ks_superIn at hsup
            rw [hC3] at hsup
            exact hsup
          obtain ⟨oF, hoF, hcF⟩ : ∃ oF, h1.get? g = some oF ∧ oF.cls = .type "function" := by
            have z : (X.K.lookup g).map (·.cls) = some (.type "function") := hty
            cases y : X.K.lookup g with
            | none => rw [y] at z; cases z
            | some oF => rw [y] at z; exact ⟨oF, I1.kIn _ _ y, Option.some.inj z⟩
          have hmro : PySem.W.Looks (model X.prog X.w) h1 (mroOf (.ref (He.ga X.K C))) cdC.mro := fun A2 Q2 E2 s2 k2 q2 => wpAny_bind ((PySem.W.looks_clsIn I1.kIn hC3) A2 _ E2 s2 k2 (wpAny_pure q2))
          refine ks_wpAny_getMethod_super hso (PySem.W.looks_opaque I1.kIn S.tp) hmro rfl I1.kIn hsup2 hoF hcF (PySem.W.ks_ne I.kIn J hC3) hat ?_
          have I2 : Inv X pins t (upd w.H h1.objs.size (.met g q)) { s with heap := h1.push { cls := .type "method", data := .fields #[.ref g, .ref q] }, toks := s.toks + 1 } :=
            I1.laid (t' := s.toks + 1) (a := h1.objs.size) (o := .met g q) (fun b u z => Heap.get?_push_of_some _ z) (Nat.le_refl _) (Heap.get?_push_size h1 rfl)
          have hq1 : w.H h1.objs.size = none := I1.hok.fresh (Nat.le_refl _)
          have e3 := Wd.frz_ext st (o := .met g q) hq1
          have st3 := Wd.frz_st st (o := .met g q) hq1
          have hp3 := PostS.ext e3 hp
          rw [he]
          refine PySem.W.callWith_of (P := PySem.W.MethP X.K h1.objs.size g (.ref q)) (by show ((false || (backTo pos (starEach es X.env)).any (·.1)) || false) = false; rw [hpl]; rfl) (PySem.W.keeps_M hfi) (Calls.evalArgs_plain ?_)
          have hr1 := ha.run pos pins _ t (w.frz h1.objs.size (.met g q)).H (fun vs H2 => H2 h1.objs.size = some (.met g q) ∧ spD X.K mf (.ref q :: vs) H2 (fun _ H3 => tS X.K W m2 E t H3) (WE W t)) I2 ⟨r, so, w.frz h1.objs.size (.met g q), rfl, env.ext e3, st3, ?_⟩
          · rw [he] at hr1
            refine thn hr1 fun us s2 z => ?_
            obtain ⟨vs2, H2, I3, rv2, hmt, hsp⟩ := z
            refine ⟨met_P I3 hmt, ?_⟩
            refine wpAny_call (PySem.W.method_call (met_P I3 hmt).1 ?_)
            refine codeAny_mono (F X.A X.stack s2 H2 (.ref q :: us) (.ref q :: vs2) (fun _ H3 => tS X.K W m2 E t H3) (WE W t) hr I3.env0 (.cons rfl rv2) hsp) fun z s3 hz => ?_
            cases z with
            | error er => exact passAt tk t pins H2 s2 er s3 I3 hz
            | ok fl =>
              cases fl with
              | ret u3 =>
                obtain ⟨v3, H3, I4, rv3, q3⟩ := I3.after hz
                exact h2.run pins s3 t H3 E I4 q3
              | _ => exact hz.elim
          · cases e5 : mr r so with
            | bad => rw [e5] at hp3; exact hp3.elim
            | exc C5 f5 s5 =>
              rw [e5] at hp3
              exact fun ed w5 e6 st5 x5 => hp3 t ed w5 e6 ((env.ext e3).ext e6) st5 x5
            | ok dv s5 =>
              rw [e5] at hp3
              intro vs5 w5 e6 st5 r5
              refine ⟨(e6.H _ Wd.frz_z).trans Wd.frz_h, _, s5, w5, rfl, .cons ((rv.ext e3).ext e6) r5, st5, ?_⟩
              have hp5 := PostS.ext e6 hp3
              dsimp only at hp5
              cases e7 : mf (d :: dv) s5 with
              | bad => rw [e7] at hp5; exact hp5.elim
              | exc C8 f8 s8 =>
                rw [e7] at hp5
                exact fun ed w8 e8 st8 x8 => hp5 t ed w8 e8 (((env.ext e3).ext e6).ext e8) st8 x8
              | ok d8 s8 =>
                rw [e7] at hp5
                exact fun v8 w8 e8 st8 r8 => hp5 t w8 e8 (((env.ext e3).ext e6).ext e8) st8
end
/-- a method that says super(): its object, its code, its cell -/
structure FunS (K : Frag) (P : Program) (x qual : Str) (params : Arguments) (body : List Stmt) (scope : Scope) (f Dc cc cda : Addr) : Prop where
  ex : ∃ (oc : Value) (od : Option Addr) (kV doc pm : Value) (an : Option Addr) (ct : Value) (osl : Array (Option Value)), K.lookup f = some ⟨oc, od, .func (PySem.W.fnX x qual params body scope [("__class__", cc)] .none kV doc pm an (.ref cda) ct), osl⟩
  cdi : PySem.W.codeIn K (.ref cda) qual = true
  cd : ∃ (ccl : Value) (cdd : Option Addr) (vs : Array Value) (ccs : Array (Option Value)) (file : Str) (tf : Tok), K.lookup cda = some ⟨ccl, cdd, .fields vs, ccs⟩ ∧ vs[2]? = some (.str file tf) ∧ ((P.main.file : Str) == file) = true
  ce : ∃ (cl : Value) (cld : Option Addr) (csl : Array (Option Value)), K.lookup cc = some ⟨cl, cld, .cell (some (.ref Dc)), csl⟩
  cD : (PySem.W.clsIn K Dc).isSome = true
  kp : PySem.W.keepIn K (.ref f) = true
  tp : PySem.W.nsIn K cStatics "thirdparty.any" = some none
abbrev nfS (x qual : Str) (params : Arguments) (body : List Stmt) (scope : Scope) (cc cda : Addr) : NdefX.NF := ⟨x, qual, params, body, scope, [("__class__", cc)], cda⟩
abbrev cxS (P : Program) (w : World) (K : Frag) (mg : Str → Option Value) (base : Heap) (N : List Str) (x qual : Str) (params : Arguments) (body : List Stmt) (scope : Scope) (f cc cda : Addr) (A : Around) (outer : List Env) (s : Shared) (H : Hp) (E : XK) : Cx :=
  NdefX.ncx (L2.CX P w) P w K mg base N (nfS x qual params body scope cc cda) f A outer s H E
section
variable {P : Program} {w : World} {K : Frag} {mg : Str → Option Value} {base : Heap} {N ps : List Str} {x qual : Str} {params : Arguments} {body : List Stmt} {scope : Scope} {f Dc cc cda : Addr} {k : Nat} {b : DS} {A : Around} {outer : List Env} {s : Shared} {H : Hp} {E : XK}
theorem sup_x {me : Str} {ar : Arg} (F : FunS K P x qual params body scope f Dc cc cda) (har : (params.posonlyargs ++ params.args).head? = some ar) (hme : ar.arg = me) (hN : N[0]? = some me) (hks : scope.names.lookup ("super" : Str) = some .globalImplicit) (hkc : scope.names.lookup ("__class__" : Str) = some .free)
    (hkm : scope.names.lookup me = some .local) (hm : mg "super" = none) (ht : (P.main.scope.names.lookup ("super" : Str)).isSome = false) : SupX (cxS P w K mg base N x qual params body scope f cc cda A outer s H E) Dc f cc cda me := by
  obtain ⟨oc, od, kV, doc, pm, an, ct, osl, lk⟩ := F.ex
  exact ⟨rfl, rfl, rfl, hks, hkc, hkm, hN, ⟨_, _, _, _, ar, lk, har, hme⟩, F.cd, F.ce, F.cD, hm, ht, F.tp⟩
theorem fn_sup (F : FunS K P x qual params body scope f Dc cc cda) (S : NdefX.NScope N ps ["__class__"] scope)
    (hb : ∀ (kV doc pm : Value) (an : Option Addr) (ct : Value) (us : List Value), us.length = ps.length → bindArgs (PySem.W.fnX x qual params body scope [("__class__", cc)] .none kV doc pm an (.ref cda) ct) ⟨us, []⟩ = pure (ps.zip us))
    (hbody : ∀ (A : Around) (outer : List Env) (s : Shared) (H : Hp) (E : XK), Rm k (cxS P w K mg base N x qual params body scope f cc cda A outer s H E).A →
      QSs (cxS P w K mg base N x qual params body scope f cc cda A outer s H E) (.func body (cxS P w K mg base N x qual params body scope f cc cda A outer s H E).env) body (tS K (fun c d _ H' => E c d H') b)) : FnD P w K mg base (k + 1) f (bodyM ps.length [] N.length b) := by
  intro A outer s H us vs Q E hr e0 r h
  obtain ⟨ds, so, u, rfl, rs, st, hp⟩ := h
  unfold bodyM argsD at hp
  rw [List.drop_nil, List.append_nil] at hp
  split at hp
  · rename_i es he
    split at he
    · rename_i hc
      cases he
      have l1 := rs.length
      have hl : vs.length = ps.length := by
        have := hc.2
        simp only [List.length_nil] at this
        omega
      obtain ⟨oc, od, kV, doc, pm, an, ct, osl, lk⟩ := F.ex
      obtain ⟨cl, cld, csl, hce⟩ := F.ce
      have KX : K.In s.heap := e0.mod.kin.keeps fun b o e => (e0.bs b o e).1
      have lim : s.heap.NoLimit := e0.mod.nolimit.keeps fun b o e => (e0.bs b o e).1
      refine codeAny_call_function hr.rm.depth (KX _ _ lk) rfl S.co S.gen rfl (PySem.W.codeRec_of KX F.cdi) ?_
      rw [hb kV doc pm an ct us (by rw [← r.length]; exact hl)]
      refine wpAny_pure (wpAny_newFunctionEnv S.nocell (fun ⟨n, _⟩ hy => S.par n (List.of_mem_zip hy).1) (fun h₁ hns hsb => ⟨lim.fresh _ hsb, ?_⟩) S.kind)
      show codeAny _ _ (.func body (cxS P w K mg base N x qual params body scope f cc cda A outer s u.H E).env) _ _
      refine ks_codeAny_funcAt ?_
      have kp : ∀ b o, s.heap.get? b = some o → h₁.get? b = some o := fun b o e => hsb.extBut b o (Nat.ne_of_lt (Heap.lt_size e)) (Heap.get?_push_of_some _ e)
      have lk1 : ∀ y c, List.lookup y ([("__class__", cc)] : List (Str × Addr)) = some c → y = ("__class__" : Str) ∧ c = cc := fun y c e => by
        by_cases ey : y = ("__class__" : Str)
        · subst ey
          rw [List.lookup_cons_self] at e
          exact ⟨rfl, (Option.some.inj e).symm⟩
        · have hb : (y == ("__class__" : Str)) = false := by simpa using ey
          rw [List.lookup_cons, hb] at e
          simp at e
      have CA : NdefX.CellsAt (nfS x qual params body scope cc cda).cl ["__class__"] [none] s.heap u.H := by
        refine ⟨rfl, fun y c e => ?_, fun y z c e1 e2 => ?_, fun i y e => ?_⟩
        · obtain ⟨_, rfl⟩ := lk1 y c e
          exact ⟨(e0.bs _ _ (e0.mod.kin _ _ hce)).2, _, ⟨_, KX _ _ hce, rfl⟩⟩
        · exact (lk1 y c e1).1.trans (lk1 z c e2).1.symm
        · cases i with
          | zero =>
            simp at e
            subst e
            exact ⟨cc, List.lookup_cons_self, fun v hv => by simp at hv⟩
          | succ n => simp at e
      have hN : ps.length + 1 ≤ N.length := by
        have q := congrArg List.length S.pre
        rw [List.length_take, List.length_append] at q
        simp only [List.length_cons, List.length_nil] at q
        omega
      have hst : NdefX.startF N vs [none] = vs.map some ++ List.replicate (N.length - vs.length) none := by
        unfold NdefX.startF
        congr 1
        have e1 : N.length - vs.length = (N.length - vs.length - 1) + 1 := by omega
        rw [e1, List.replicate_succ]
        rfl
      have I : Inv (cxS P w K mg base N x qual params body scope f cc cda A outer s u.H E) [] (NdefX.startF N vs [none]) u.H { s with heap := h₁, toks := s.toks + (ps.zip us).length } := NdefX.inv_startN S hr.rm.hd e0 hl r CA hns kp
      have hq := body_end (n := N.length) (b := b) rs st hp
      rw [← hst] at hq
      refine PySem.wpAt_mono ((hbody A outer s u.H E (hr.deeper _)).run [] _ _ _ _ I hq) (fun fl s' hs => ?_) fun e s' hs => hs
      have fin : ∀ {σ' : L2.St} {H' : Hp} {v' : V} {u' : Value}, Inv (cxS P w K mg base N x qual params body scope f cc cda A outer s u.H E) [] σ' H' s' → RelV v' u' → Q v' H' → CE outer P w u.H s Q u' s' :=
        fun {σ' H' v' u'} J rv' q => ⟨v', H', J.os, J.bare, J.base, J.hok, rv', q⟩
      cases fl with
      | ret u' =>
        obtain ⟨v', σ', H', J, rv', q⟩ := hs
        exact fin J rv' q
      | next =>
        obtain ⟨σ', H', J, q⟩ := hs
        exact fin (v' := V.non) (u' := Value.none) J rfl q
      | brk =>
        obtain ⟨_, _, _, q⟩ := hs
        exact q.elim
      | cont =>
        obtain ⟨_, _, _, q⟩ := hs
        exact q.elim
    · cases he
  · exact hp.elim
end
end Mp
set_option Elab.async false
set_option linter.all false
set_option maxRecDepth 100000
set_option maxHeartbeats 4000000
/-! Mp: repr of plain data, chained comparisons. -/
namespace Mp
open PySem PySem.Spec PyProof.Rows L2
section
variable {X : Cx} {W : WX} {a b c : Expr} {pos : Pos} {ma mb mc : DE}
/-! a op b op c -/
def chainT (g : D → D → Sto → Res D) (y : D) (c : DE) : D → DE
  | .bl true => bindM c fun u => fun _ s => g y u s
  | .bl false => pureM (.bl false)
  | _ => fun _ _ => .bad
def chainM (f g : D → D → Sto → Res D) (a b c : DE) : DE := bindM a fun x => bindM b fun y => fun r s => match f x y s with
  | .ok z s' => chainT g y c z r s'
  | .exc C fs s' => .exc C fs s'
  | .bad => .bad
theorem chain_imp {op op' : CmpOp} {f g : D → D → Sto → Res D} {r r' : R2} (hv : VR2 X.K r f) (hv' : VR2 X.K r' g) {t : L2.St} {H : Hp} {Q : VK} (h : tE X.K W (chainM f g ma mb mc) t H Q) :
    tChain r r' (tE X.K W ma) (tE X.K W mb) (tE X.K W mc) t H Q := by
  obtain ⟨q, s, w, rfl, env, st, hp⟩ := h
  refine hp.bind env st fun x d s1 w1 e1 st1 r1 hp1 => ?_
  refine hp1.bind (env.ext e1) st1 fun y e s2 w2 e2 st2 r2 hp2 => ?_
  cases e5 : f d e s2 with
  | bad => rw [e5] at hp2; exact hp2.elim
  | exc C fs s3 =>
    rw [e5] at hp2
    refine hv w2 s2 x y d e _ (fun c d H' => W c d t H') st2 (r1.ext e2) r2 ?_
    rw [e5]
    exact hp2
  | ok z s3 =>
    rw [e5] at hp2
    refine hv w2 s2 x y d e _ (fun c d H' => W c d t H') st2 (r1.ext e2) r2 ?_
    rw [e5]
    intro vz w3 e3 st3 r3
    have hp3 := Post.ext e3 hp2
    cases z with
    | bl k =>
      cases r3
      refine ⟨k, rfl, ?_⟩
      cases k with
      | false =>
        exact hp3.pure st3 (.bl false)
      | true =>
        refine Post.bind (m := mc) (f := fun u => fun _ s => g e u s) (r := q) (R' := Rep X.K) hp3 (((env.ext e1).ext e2).ext e3) st3 fun u du s4 w4 e4 st4 r4 hp4 => ?_
        exact hv' w4 s4 y u e du Q _ st4 ((r2.ext e3).ext e4) r4 hp4
    | _ => exact hp3.elim
theorem e_chain {op op' : CmpOp} {f g : D → D → Sto → Res D} {r r' : R2} (ho : OpR X (compareOp op) r) (ho' : OpR X (compareOp op') r') (hv : VR2 X.K r f) (hv' : VR2 X.K r' g) (ha : PE X a (tE X.K W ma)) (hb : PE X b (tE X.K W mb)) (hc : PE X c (tE X.K W mc))
    (hm : lastMarks [op, op'] [b, c] = false := by with_unfolding_all rfl) : PE X (.Compare a [op, op'] [b, c] pos) (tE X.K W (chainM f g ma mb mc)) := PE.imp (pe_chain ho ho' ha hb hc hm) fun t H Q h => chain_imp (op := op) (op' := op') hv hv' h
end
end Mp
set_option Elab.async false
set_option linter.all false
set_option maxRecDepth 100000
set_option maxHeartbeats 4000000
/-! Mp: the end of a law, the head's facts. -/
namespace Mp
open PySem PySem.Spec PyProof.Rows L2
/-! ### the end -/
abbrev LawEnd (s₁ : Shared) : Result → Shared → Prop := fun r s' => r = .ok (.ret (.bool true)) ∧ OldK s₁.heap s'.heap ∧ s'.os = s₁.os ∧ AllBare s'.gens
section
variable {P : Program} {w : World} {K : Frag} {mg mb : Str → Option Value} {k : Nat} {fa a : Addr} {s₁ : Shared} {vs : List Value} {ns : List Int} {m : DF}
/-- the law's call, from an abstract heap that knows at most the script -/
theorem law_core (KX : K.In s₁.heap) (hns : s₁.heap.Ns mainGlobals mg) (hb : s₁.heap.Ns builtinsNs mb) (hbb : ∀ x : Str, x ≠ "__name__" → mb x = bootBuiltins x) (hlim : s₁.heap.NoLimit) (hg : s₁.gens = #[])
    (ha : s₁.heap.get? a = some { cls := .type "list", data := .seq vs.toArray }) (hr : Rm k callerA) (F : ∀ base : Heap, K.In base → base.Ns mainGlobals mg → FnD P w K mg base k fa m) (hm : ∃ s', m [.rol (ns.map .int)] [] = .ok (.bl true) s')
    (H : Hp) (hO : Only H) (hS : SqL K H a (ns.map V.int)) (hok : HOk P w H s₁.heap) (hA : ∀ b, H b ≠ none → b = a) (hK : H a ≠ none → K.lookup a = none) : codeAny (model P w) callerA (.call (.ref fa) ⟨[.ref a], []⟩) (LawEnd s₁) s₁ := by
  have off : ∀ {b : Addr} {o : Obj}, s₁.heap.get? b = some o → o.data ≠ .seq vs.toArray → H b = none := fun {b o} e d => by
    by_cases q : H b = none
    · exact q
    · have z := hA b q
      subst z
      rw [ha] at e
      cases e
      exact absurd rfl d
  have nsH : ∀ {b : Addr} {f : Str → Option Value}, s₁.heap.Ns b f → (hidT s₁.heap H).Ns b f := fun ⟨o, es, ep, e, d, r⟩ => ⟨o, es, ep, hidT_get e (off e (by rw [d]; exact fun z => nomatch z)), d, r⟩
  have KH : K.In (hidT s₁.heap H) := fun b o e => hidT_get (KX b o e) (by
    by_cases q : H b = none
    · exact q
    · have z := hA b q
      subst z
      rw [hK q] at e
      cases e)
  have M0 : Mod K mg (hidT s₁.heap H) := ⟨KH, nsH hns, ⟨mb, nsH hb, hbb⟩, hlim.elim fun mc z => ⟨mc, nsH z.1, z.2⟩⟩
  have E0 : Env0 P w K mg (hidT s₁.heap H) callerA [] s₁ H := ⟨rfl, M0, fun b o e => of_hidT e, Nat.le_of_eq (hidT_size _ _), trivial, fun b z => absurd (show b ∈ ([] : List Addr) from z) (by simp), hok, .of_eq hg⟩
  obtain ⟨s', hm⟩ := hm
  have hsp : spD K m [.ref a] H (fun v _ => v = .bl true) fun _ _ _ => False := by
    refine ⟨[.rol (ns.map .int)], [], ⟨fun _ => none, fun b => H b ≠ none, fun _ => False, H⟩, rfl, .cons (.rol (hS.elim (fun z => .inl ⟨?_, z⟩) .inr) ?_) .nil, ?_, ?_⟩
    · rcases z with z | ⟨o, z⟩ <;> exact fun e => by rw [e] at z; cases z
    · clear hm hS
      induction ns with
      | nil => exact .nil
      | cons i r ih => exact .cons (.int i) ih
    · constructor <;> intros <;> simp_all
    · rw [hm]
      intro v w' _ _ rv
      cases rv
      rfl
  refine codeAny_mono (F _ KH (nsH hns) callerA [] s₁ H [.ref a] [.ref a] _ _ hr E0 (.cons rfl .nil) hsp) fun r s' h => ?_
  cases r with
  | error e =>
    obtain ⟨_, _, _, _, _, _, _, _, _, _, _, _, z⟩ := h
    exact z.elim
  | ok fl =>
    cases fl with
    | ret u =>
      obtain ⟨v, H', os, bare, un, hok', r', q⟩ := h
      obtain rfl : v = .bl true := q
      obtain rfl : u = Value.bool true := r'
      refine ⟨rfl, OldK.of_keep fun b o e => ?_, os, bare⟩
      rcases hO b with z | ⟨ob, xs, z⟩
      · exact un.keep b o e z (fun y => absurd (show b ∈ ([] : List Addr) from y) (by simp)) (by simp)
      · have e1 := (hok b _ z).1
        have e2 := (hok' b _ (un.frzs b ob _ z)).1
        rw [e] at e1
        cases e1
        exact e2
    | _ => exact h.elim
theorem law_end (KX : K.In s₁.heap) (hns : s₁.heap.Ns mainGlobals mg) (hb : s₁.heap.Ns builtinsNs mb) (hbb : ∀ x : Str, x ≠ "__name__" → mb x = bootBuiltins x) (hlim : s₁.heap.NoLimit) (hg : s₁.gens = #[])
    (ha : s₁.heap.get? a = some { cls := .type "list", data := .seq vs.toArray }) (hi : IntsAre vs ns) (hl : ns.length ≤ sizeLine) (hr : Rm k callerA) (F : ∀ base : Heap, K.In base → base.Ns mainGlobals mg → FnD P w K mg base k fa m) (hm : ∃ s', m [.rol (ns.map .int)] [] = .ok (.bl true) s') :
    codeAny (model P w) callerA (.call (.ref fa) ⟨[.ref a], []⟩) (LawEnd s₁) s₁ := by
  have go := law_core (m := m) (ns := ns) KX hns hb hbb hlim hg ha hr F hm
  have rv := vals_ints hi
  cases hk : K.lookup a with
  | some o =>
    have e := KX a o hk
    rw [ha] at e
    cases e
    exact go (fun _ => none) (fun _ => .inl rfl) (.inr ⟨_, vs.toArray, _, hk, rfl, rfl, rfl, by rw [List.size_toArray, hi.length]; exact hl, by simpa using rv⟩) (fun _ _ z => nomatch (show (none : Option HO) = some _ from z)) (fun _ z => (z rfl).elim) fun z => (z rfl).elim
  | none =>
    refine go (upd (fun _ => none) a (.frz { cls := .type "list", data := .seq vs.toArray } (.lst (ns.map V.int)))) (fun b => ?_) (.inl (.inr ⟨_, upd_same⟩)) (fun b u z => ?_) (fun b z => ?_) fun _ => hk
    · by_cases e : b = a
      · subst e
        exact .inr ⟨_, _, upd_same⟩
      · exact .inl (upd_ne e)
    · by_cases e : b = a
      · subst e
        rw [upd_same] at z
        cases z
        exact ⟨ha, by rw [List.length_map]; exact hl, vs, _, rv, ha⟩
      · rw [upd_ne e] at z
        cases z
    · by_cases e : b = a
      · exact e
      · exact absurd (upd_ne e) z
end
/-- a law row, by its def's function on data -/
theorem walk_end {l : PySem.W.OpenLaw} {n k : Nat} {q : Program} {loose : List Str} {XP : (Str → Option Value) → Heap → Prop} {YP : World → Heap → Prop} {d : DefRec} {m : DF} (hn : l.most = some n) (hn2 : n ≤ sizeLine) (hdf : d.params.defaults = []) (hr : Rm k callerA)
    (F : ∀ (w : World) (mg : Str → Option Value) (fa : Addr) (h : Heap), YP w h → h.Ns mainGlobals mg → mg d.name = some (.ref fa) → ∃ K : Frag, K.In h ∧ ∀ base : Heap, K.In base → base.Ns mainGlobals mg → FnD l.prog w K mg base k fa m)
    (hm : ∀ ns : List Int, ns.length ≤ n → (∀ z ∈ ns, Builtin.Int.intBits z ≤ 1048576) → ∃ s', m [.rol (ns.map .int)] [] = .ok (.bl true) s') : PySem.W.WalkO q loose XP YP l.row.toRowW d [] (fun f vs => PySem.call f vs) := by
  refine Att.attach_callB hn hdf fun w s₀ s₁ mg mb fa o pm cd doc a vs ns G Y ho hd hcd hmg hobj hints hlen hbits hg => ?_
  obtain ⟨K, KX, hF⟩ := F w mg fa _ Y G.T.g hmg
  exact law_end KX G.T.g G.T.b G.T.builtins G.T.nolimit hg hobj hints (Nat.le_trans hlen hn2) hr hF (hm ns hlen hbits)
end Mp
set_option Elab.async false
set_option linter.all false
set_option maxRecDepth 100000
set_option maxHeartbeats 4000000
/-! Mp: the head's facts. -/
namespace Mp
open PySem PySem.Spec PyProof.Rows L2
/-! ### defs -/
structure DefM where
  ad : Frag → Addr
  name : Str
  qual : Str
  params : Arguments
  body : List Stmt
  scope : Scope
  dfl : List He.Dv := []
  sup : Option Str := none
def fnWM (K : Frag) (d : DefM) : He.FnW := match K.lookup (d.ad K) with
  | some ⟨_, _, .func fd, _⟩ => some (fd.name, fd.qualname, fd.params, fd.body, fd.scope, fd.globals, [], fd.builtins)
  | _ => none
def DefM.val (d : DefM) : He.FnW := some (d.name, d.qual, d.params, .stmts d.body, d.scope, mainGlobals, [], builtinsNs)
def DefM.dvs (K : Frag) (d : DefM) : List V := d.dfl.map (He.Dv.v K)
def fileB (file : Str) (K : Frag) : Value → Bool
  | .ref c => (match K.lookup c with
    | some ⟨_, _, .fields vs, _⟩ => (match (vs[2]? : Option Value) with
      | some (.str f _) => file == f
      | _ => false)
    | _ => false)
  | _ => false
def clB (file : Str) (K : Frag) (sup : Option Str) (fd : FuncData) : Bool := match sup with
  | none => (match fd.closure with
    | [] => true
    | _ => false)
  | some C => (match fd.closure with
    | [(n, cc)] => decide (n = "__class__") && ((match K.lookup cc with
      | some ⟨_, _, .cell (some (.ref e)), _⟩ => decide (e = He.ga K C)
      | _ => false) && ((PySem.W.clsIn K (He.ga K C)).isSome && (fileB file K fd.code && He.eqO (PySem.W.nsIn K cStatics "thirdparty.any") (some none))))
    | _ => false)
def DefM.ok (file : Str) (K : Frag) (d : DefM) : Bool := PySem.W.keepIn K (.ref (d.ad K)) && (match K.lookup (d.ad K) with
  | some ⟨_, _, .func fd, _⟩ => PySem.W.codeIn K fd.code d.qual && (He.dflB K fd.defaults (d.dvs K) && clB file K d.sup fd)
  | _ => false)
theorem DefM.funD {file : Str} {K : Frag} {d : DefM} (hs : d.sup = none) (e : fnWM K d = d.val) (c : d.ok file K = true) : ∃ fd, FunD K d.name d.qual d.params d.body d.scope (d.dvs K) [] (d.ad K) fd := by
  obtain ⟨kp, c2⟩ := He.ba c
  unfold fnWM at e
  cases q : K.lookup (d.ad K) with
  | none => rw [q] at c2; cases c2
  | some o =>
    obtain ⟨oc, od, dt, osl⟩ := o
    rw [q] at c2 e
    cases dt with
    | func fd =>
      obtain ⟨n1, n2, n3, n4, n5, n6, n7, n8, n9, n10, n11, n12, n13, n14, n15⟩ := fd
      have e2 : (some (n1, n2, n3, n4, n5, n6, [], n15) : He.FnW) = some (d.name, d.qual, d.params, .stmts d.body, d.scope, mainGlobals, [], builtinsNs) := e
      simp only [Option.some.injEq, Prod.mk.injEq] at e2
      obtain ⟨h1, h2, h3, h4, h5, h6, _, h8⟩ := e2
      subst h1 h2 h3 h4 h5 h6 h8
      obtain ⟨k1, k2⟩ := He.ba c2
      obtain ⟨k3, k4⟩ := He.ba k2
      unfold clB at k4
      rw [hs] at k4
      dsimp only at k4
      cases n7 with
      | nil => exact ⟨_, ⟨oc, od, n8, n9, n10, n11, n12, n13, n14, osl, rfl, q, k1, He.dflB_ok k3, .inl rfl⟩, kp⟩
      | cons _ _ => cases k4
    | _ => cases c2
theorem DefM.funS {P : Program} {K : Frag} {d : DefM} {C : Str} (hs : d.sup = some C) (hd : d.dfl = []) (e : fnWM K d = d.val) (c : d.ok P.main.file K = true) :
    ∃ cc cda, FunS K P d.name d.qual d.params d.body d.scope (d.ad K) (He.ga K C) cc cda := by
  obtain ⟨kp, c2⟩ := He.ba c
  unfold fnWM at e
  cases q : K.lookup (d.ad K) with
  | none => rw [q] at c2; cases c2
  | some o =>
    obtain ⟨oc, od, dt, osl⟩ := o
    rw [q] at c2 e
    cases dt with
    | func fd =>
      obtain ⟨n1, n2, n3, n4, n5, n6, n7, n8, n9, n10, n11, n12, n13, n14, n15⟩ := fd
      have e2 : (some (n1, n2, n3, n4, n5, n6, [], n15) : He.FnW) = some (d.name, d.qual, d.params, .stmts d.body, d.scope, mainGlobals, [], builtinsNs) := e
      simp only [Option.some.injEq, Prod.mk.injEq] at e2
      obtain ⟨h1, h2, h3, h4, h5, h6, _, h8⟩ := e2
      subst h1 h2 h3 h4 h5 h6 h8
      obtain ⟨k1, k2⟩ := He.ba c2
      obtain ⟨k3, k4⟩ := He.ba k2
      unfold clB at k4
      rw [hs] at k4
      dsimp only at k4
      match n7, k4 with
      | [(n, cc)], k4 =>
        obtain ⟨a1, a⟩ := He.ba k4
        obtain ⟨a2, a⟩ := He.ba a
        obtain ⟨a3, a⟩ := He.ba a
        obtain ⟨a4, a5⟩ := He.ba a
        have en := of_decide_eq_true a1
        subst en
        have hdv : n8 = .none := by
          unfold DefM.dvs at k3
          rw [hd] at k3
          cases n8 with
          | none => rfl
          | _ => cases k3
        subst hdv
        cases n13 with
        | ref cda =>
          refine ⟨cc, cda, ⟨⟨oc, od, n9, n10, n11, n12, n14, osl, q⟩, k1, ?_, ?_, a3, kp, He.eqO_ok a5⟩⟩
          · have a4' : (match K.lookup cda with
              | some ⟨_, _, .fields vs, _⟩ => (match (vs[2]? : Option Value) with
                | some (.str f _) => P.main.file == f
                | _ => false)
              | _ => false) = true := a4
            cases q4 : K.lookup cda with
            | none => rw [q4] at a4'; cases a4'
            | some o4 =>
              obtain ⟨o1, o2, o3, o5⟩ := o4
              rw [q4] at a4'
              cases o3 with
              | fields vs4 =>
                dsimp only at a4'
                cases q5 : vs4[2]? with
                | none => rw [q5] at a4'; cases a4'
                | some v5 =>
                  rw [q5] at a4'
                  cases v5 with
                  | str f5 t5 => exact ⟨_, _, _, _, f5, t5, rfl, q5, a4'⟩
                  | _ => cases a4'
              | _ => cases a4'
          · cases q4 : K.lookup cc with
            | none => rw [q4] at a2; cases a2
            | some o4 =>
              obtain ⟨o1, o2, o3, o5⟩ := o4
              rw [q4] at a2
              cases o3 with
              | cell v4 =>
                cases v4 with
                | none => cases a2
                | some v4 =>
                  cases v4 with
                  | ref e4 =>
                    have z : e4 = He.ga K C := of_decide_eq_true a2
                    subst z
                    exact ⟨_, _, _, rfl⟩
                  | _ => cases a2
              | _ => cases a2
        | _ => cases a4
    | _ => cases c2
/-! ### the Hook -/
abbrev AlM : Type := Bool × List He.FnW
def obsM (file : Str) (fb : List (Frag → Bool)) (fn : List DefM) (K : Frag) : AlM := ((fb.all fun f => f K) && fn.all fun d => d.ok file K, fn.map fun d => fnWM K d)
def valM (fn : List DefM) : AlM := (true, fn.map DefM.val)
def SaysM (file : Str) (fb : List (Frag → Bool)) (fn : List DefM) (K : Frag) : Prop := obsM file fb fn K = valM fn
def refsM (g : Addr → Option Obj) (a : Addr) : List Addr := match g a with
  | some o => He.refsD o
  | none => []
/-- those that are not marked yet -/
def markK (k : Nat → List Addr → List Addr) : List Addr → Nat → List Addr → List Addr
  | [], seen, out => k seen out
  | a :: as, seen, out => (match Nat.testBit seen a with
    | true => markK k as seen out
    | false => markK k as (seen ||| (1 <<< a)) (a :: out))
def levelM (g : Addr → Option Obj) : Nat → List Addr → Nat → List Addr
  | 0, front, _ => front
  | n + 1, front, seen => front ++ markK (fun seen' out => levelM g n out seen') (front.flatMap (refsM g)) seen []
def asM (g : Addr → Option Obj) (n : Nat) : List Addr := cStatics :: sysModules :: levelM g n [mainGlobals] (1 <<< mainGlobals)
def obsMG (n : Nat) (file : Str) (fb : List (Frag → Bool)) (fn : List DefM) (g : Addr → Option Obj) : AlM := obsM file fb fn (He.frG g (asM g n))
def hookM (n : Nat) (file : Str) (fb : List (Frag → Bool)) (fn : List DefM) : PySem.W.Hook where
  α := AlM
  obs := fun s => obsMG n file fb fn s.heap.get?
  val := fun _ => valM fn
  says := fun _ h => ∃ K : Frag, K.In h ∧ SaysM file fb fn K
  of := fun _ _ e => ⟨_, He.frG_in, e⟩
  keeps := fun _ _ _ ⟨K, hK, c⟩ k => ⟨K, PySem.W.Frag.In.keeps hK k, c⟩
theorem obsMG_eq {n : Nat} {file : Str} {fb : List (Frag → Bool)} {fn : List DefM} {g : Addr → Option Obj} {s : Shared} (h : ∀ a, g a = s.heap.get? a) : obsMG n file fb fn g = (hookM n file fb fn).obs s := by
  have e : g = s.heap.get? := funext h
  rw [e]
  rfl
/-- all that a derivation may ask of the head -/
structure Fx (P : Program) (fb : List (Frag → Bool)) (fn : List DefM) (K : Frag) (mg : Str → Option Value) : Prop where
  says : SaysM P.main.file fb fn K
  ex : ∃ h : Heap, K.In h ∧ h.Ns mainGlobals mg
section
variable {P : Program} {fb : List (Frag → Bool)} {fn : List DefM} {K : Frag} {mg : Str → Option Value} (Z : Fx P fb fn K mg)
include Z
theorem Fx.fact (i : Nat) {f : Frag → Bool} (h : fb[i]? = some f) : f K = true := by
  have c1 := (He.ba (show ((fb.all fun f => f K) && fn.all fun d => d.ok P.main.file K) = true from congrArg (fun z : AlM => z.1) Z.says)).1
  exact List.all_eq_true.mp c1 f (List.mem_of_getElem? h)
theorem Fx.dfOk (i : Nat) {d : DefM} (h : fn[i]? = some d) : fnWM K d = d.val ∧ d.ok P.main.file K = true := by
  have c2 := (He.ba (show ((fb.all fun f => f K) && fn.all fun d => d.ok P.main.file K) = true from congrArg (fun z : AlM => z.1) Z.says)).2
  have e : fn.map (fun d => fnWM K d) = fn.map DefM.val := congrArg (fun z : AlM => z.2) Z.says
  have e2 : (fn.map fun d => fnWM K d)[i]? = (fn.map DefM.val)[i]? := by rw [e]
  rw [List.getElem?_map, List.getElem?_map, h] at e2
  exact ⟨Option.some.inj e2, List.all_eq_true.mp c2 d (List.mem_of_getElem? h)⟩
theorem Fx.df (i : Nat) {d : DefM} (h : fn[i]? = some d) (hs : d.sup = none) : ∃ fd, FunD K d.name d.qual d.params d.body d.scope (d.dvs K) [] (d.ad K) fd := let q := Z.dfOk i h; DefM.funD hs q.1 q.2
theorem Fx.dfS (i : Nat) {d : DefM} {C : Str} (h : fn[i]? = some d) (hs : d.sup = some C) (hd : d.dfl = []) : ∃ cc cda, FunS K P d.name d.qual d.params d.body d.scope (d.ad K) (He.ga K C) cc cda := let q := Z.dfOk i h; DefM.funS hs hd q.1 q.2
theorem Fx.keep (i : Nat) {d : DefM} (h : fn[i]? = some d) : PySem.W.keepIn K (.ref (d.ad K)) = true := (He.ba (Z.dfOk i h).2).1
abbrev ckF (f : He.Fa) : Frag → Bool := fun K => f.ok K
omit Z in
theorem fx_in (Z : Fx P fb fn K mg) {T : Prop} (k : ∀ h : Heap, K.In h → h.Ns mainGlobals mg → T) : T := let ⟨h, a, b⟩ := Z.ex; k h a b
theorem Fx.glo (i : Nat) {x : Str} (h : fb[i]? = some (ckF (.glo x))) : mg x = some (.ref (He.ga K x)) := fx_in Z fun _ a b => He.glo_ok a b (Z.fact i h)
theorem Fx.free (i : Nat) {x : Str} (h : fb[i]? = some (ckF (.free x))) : mg x = none := fx_in Z fun _ a b => He.free_ok a b (Z.fact i h)
theorem Fx.int (i : Nat) {x : Str} {j : Int} (h : fb[i]? = some (ckF (.int x j))) : ∃ t, mg x = some (.int j t) := fx_in Z fun _ a b => He.int_ok a b (Z.fact i h)
theorem Fx.str (i : Nat) {x z : Str} (h : fb[i]? = some (ckF (.str x z))) : ∃ t, mg x = some (.str z t) := fx_in Z fun _ a b => He.str_ok a b (Z.fact i h)
theorem Fx.cls (i : Nat) {x : Str} (h : fb[i]? = some (ckF (.cls x))) : Cls K (He.ga K x) := He.cls_ok (Z.fact i h)
theorem Fx.noat (i : Nat) {x f : Str} (h : fb[i]? = some (ckF (.noat x f))) : NoAttr K (He.ga K x) f := He.noat_ok (Z.fact i h)
theorem Fx.meth (i : Nat) {x f : Str} (h : fb[i]? = some (ckF (.meth x f))) : Meth K (He.ga K x) f (He.ma K (He.ga K x) f) := He.meth_ok (Z.fact i h)
theorem Fx.mkr (i : Nat) {x : Str} (h : fb[i]? = some (ckF (.mkr x))) : Mk K (He.ga K x) (He.ma K (He.ga K x) "__init__") := He.mkr_ok (Z.fact i h)
abbrev ckTup (x : Str) (vs : List He.Dv) : Frag → Bool := fun K => He.tupB K x vs
theorem Fx.tup (i : Nat) {x : Str} {vs : List He.Dv} (h : fb[i]? = some (ckTup x vs)) : KT K (He.ga K x) (vs.map (He.Dv.v K)) := by
  rcases He.tupB_ok (Z.fact i h) (fun _ => none) with (z | ⟨o, z⟩) | z
  · cases z
  · cases z
  · exact z
/-! own exceptions -/
abbrev ckExc (x : Str) (newId : String) (bm : List Value) : Frag → Bool := fun K => exB K (He.ga K x) bm newId && (He.eqO (PySem.W.findIn K (.ref (He.ga K x)) "__setattr__") (some (some (.builtin "object.__setattr__"))) && (decide (PySem.W.subIn K (.ref (He.ga K x)) (.type "BaseException") = some true) &&
  (decide (PySem.W.typeIn K (.ref (He.ga K x)) = some (.type "type")) && (PySem.W.keepIn K (.ref (He.ga K x)) && (He.eqO (PySem.W.findIn K (.ref (He.ga K x)) "__init__") (some (some (.ref (He.ma K (He.ga K x) "__init__")))) && decide (PySem.W.typeIn K (.ref (He.ma K (He.ga K x) "__init__")) = some (.type "function")))))))
theorem Fx.exc (i : Nat) {x : Str} {B newId initId : String} {bm : List Value} (b : BaseX B newId initId bm) (h : fb[i]? = some (ckExc x newId bm)) :
    OexB K (He.ga K x) B newId initId bm ∧ PySem.W.findIn K (.ref (He.ga K x)) "__init__" = some (some (.ref (He.ma K (He.ga K x) "__init__"))) ∧ PySem.W.typeIn K (.ref (He.ma K (He.ga K x) "__init__")) = some (.type "function") := by
  obtain ⟨h1, r⟩ := He.ba (Z.fact i h)
  obtain ⟨h2, r⟩ := He.ba r
  obtain ⟨h3, r⟩ := He.ba r
  obtain ⟨h4, r⟩ := He.ba r
  obtain ⟨h5, r⟩ := He.ba r
  obtain ⟨h6, h7⟩ := He.ba r
  exact ⟨⟨b, exB_ok h1, He.eqO_ok h2, of_decide_eq_true h3, of_decide_eq_true h4, h5⟩, He.eqO_ok h6, of_decide_eq_true h7⟩
abbrev ckExm (c : Frag → Value) (tb : List (Str × Bool)) : Frag → Bool := fun K => tb.all fun q => decide (PySem.W.exmOne K (.ref (He.ga K q.1)) (c K) = some q.2)
theorem Fx.exm (i : Nat) {c : Frag → Value} {tb : List (Str × Bool)} (h : fb[i]? = some (ckExm c tb)) : ExTab K (c K) tb := fun q hq => of_decide_eq_true (List.all_eq_true.mp (Z.fact i h) q hq)
/-! isinstance -/
abbrev ckTyC (x : Str) : Frag → Bool := fun K => (ckF (.cls x)) K && (He.eqO (PySem.W.findIn K (.ref (He.ga K x)) "__class__") (some (some (.builtin "object.__class__"))) && (He.eqO (PySem.W.specialIn K (.builtin "object.__class__") "__get__") (some (some (.builtin "getset_descriptor.__get__"))) &&
  (decide (PySem.W.takesIn K (.builtin "object.__class__") = some true) && decide (PySem.W.mroIn K (He.ga K x) (.type "object") = some true))))
abbrev ckIsi (it : Isi) : Frag → Bool := fun K => (it.cs.all fun C => ckTyC C K) && ((it.oo.all fun q => decide (PySem.W.kitOne K (.ref (He.ga K q.1.1)) (.ref (He.ga K q.1.2)) = some q.2)) && ((it.bo.all fun C => tyNames.all fun n => decide (PySem.W.kitOne K (.type n) (.ref (He.ga K C)) = some false)) &&
  it.ob.all fun q => decide (PySem.W.kitOne K (.ref (He.ga K q.1.1)) (.type q.1.2) = some q.2)))
theorem Fx.isi (i : Nat) {it : Isi} (h : fb[i]? = some (ckIsi it)) : IsiOk K it := by
  obtain ⟨h1, r⟩ := He.ba (Z.fact i h)
  obtain ⟨h2, r⟩ := He.ba r
  obtain ⟨h3, h4⟩ := He.ba r
  refine ⟨fun C hC => ?_, fun q hq => of_decide_eq_true (List.all_eq_true.mp h2 q hq), fun C hC n hn => of_decide_eq_true (List.all_eq_true.mp (List.all_eq_true.mp h3 C hC) n hn), fun q hq => of_decide_eq_true (List.all_eq_true.mp h4 q hq)⟩
  obtain ⟨a1, a⟩ := He.ba (List.all_eq_true.mp h1 C hC)
  obtain ⟨a2, a⟩ := He.ba a
  obtain ⟨a3, a⟩ := He.ba a
  obtain ⟨a4, a5⟩ := He.ba a
  exact ⟨He.cls_ok a1, He.eqO_ok a2, He.eqO_ok a3, of_decide_eq_true a4, of_decide_eq_true a5⟩
/-! bound methods, super -/
abbrev ckBm (x m : Str) : Frag → Bool := fun K => (ckF (.meth x m)) K && (He.eqO (PySem.W.specialIn K (.ref (He.ma K (He.ga K x) m)) "__get__") (some (some (.builtin "function.__get__"))) && (decide (PySem.W.takesIn K (.ref (He.ma K (He.ga K x) m)) = some false) && (!PySem.W.copiedNames.contains m && PySem.W.fnIn K (He.ma K (He.ga K x) m))))
theorem Fx.bm (i : Nat) {x m : Str} (h : fb[i]? = some (ckBm x m)) : BMeth K (He.ga K x) m (He.ma K (He.ga K x) m) := by
  obtain ⟨h1, r⟩ := He.ba (Z.fact i h)
  obtain ⟨h2, r⟩ := He.ba r
  obtain ⟨h3, r⟩ := He.ba r
  obtain ⟨h4, h5⟩ := He.ba r
  exact ⟨He.meth_ok h1, He.eqO_ok h2, of_decide_eq_true h3, by simpa using h4, h5⟩
abbrev ckSup (C E m : Str) (g : Frag → Addr) : Frag → Bool := fun K => (PySem.W.clsIn K (He.ga K C)).isSome && (decide (PySem.W.mroIn K (He.ga K C) (.ref (He.ga K E)) = some true) && (He.eqO (PySem.W.ks_superIn K (He.ga K C) (He.ga K E) m) (some (some (.ref (g K)))) && (decide (PySem.W.typeIn K (.ref (g K)) = some (.type "function")) && PySem.W.fnIn K (g K))))
end
theorem Fx.supF {X : Cx} {fb : List (Frag → Bool)} {fn : List DefM} (Z : Fx X.prog fb fn X.K X.mg) (i : Nat) {C E m : Str} {g : Frag → Addr} {mf : DF} {k : Nat} (h : fb[i]? = some (ckSup C E m g)) (F : FnD X.prog X.w X.K X.mg X.base k (g X.K) mf) (hr : Rm k X.A) : SupF X (He.ga X.K E) C m mf := by
  obtain ⟨h1, r⟩ := He.ba (Z.fact i h)
  obtain ⟨h2, r⟩ := He.ba r
  obtain ⟨h3, r⟩ := He.ba r
  obtain ⟨h4, h5⟩ := He.ba r
  exact ⟨h1, of_decide_eq_true h2, _, k, He.eqO_ok h3, of_decide_eq_true h4, h5, F, hr⟩
/-! properties, constants -/
def propG (C f : Str) (K : Frag) : Addr := match PySem.W.recIn K (He.ma K (He.ga K C) f) "property" with
  | some (.ref g :: _) => g
  | _ => 0
abbrev ckProp (C f : Str) : Frag → Bool := fun K => He.eqO (PySem.W.findIn K (.ref (He.ga K C)) f) (some (some (.ref (He.ma K (He.ga K C) f)))) && (He.eqO (PySem.W.specialIn K (.ref (He.ma K (He.ga K C) f)) "__get__") (some (some (.builtin "property.__get__"))) && (decide (PySem.W.takesIn K (.ref (He.ma K (He.ga K C) f)) = some true) &&
  (match PySem.W.recIn K (He.ma K (He.ga K C) f) "property" with
    | some (.ref _ :: _) => true
    | _ => false)))
theorem Fx.propOf {P : Program} {fb : List (Frag → Bool)} {fn : List DefM} {K : Frag} {mg : Str → Option Value} (Z : Fx P fb fn K mg) (i : Nat) {C f : Str} (h : fb[i]? = some (ckProp C f)) : PropOf K (He.ga K C) f (He.ma K (He.ga K C) f) (propG C f K) := by
  obtain ⟨h1, r⟩ := He.ba (Z.fact i h)
  obtain ⟨h2, r⟩ := He.ba r
  obtain ⟨h3, h4⟩ := He.ba r
  refine ⟨He.eqO_ok h1, He.eqO_ok h2, of_decide_eq_true h3, ?_⟩
  unfold propG
  split at h4
  · rename_i g rest e
    rw [e]
    exact ⟨rest, rfl⟩
  · cases h4
abbrev ckCon (C f : Str) (v : He.Dv) : Frag → Bool := fun K => (match PySem.W.findIn K (.ref (He.ga K C)) f with
  | some (some u) => He.relB (v.v K) u && He.eqO (PySem.W.specialIn K u "__get__") (some none)
  | _ => false) && !PySem.W.copiedNames.contains f
theorem Fx.con {P : Program} {fb : List (Frag → Bool)} {fn : List DefM} {K : Frag} {mg : Str → Option Value} (Z : Fx P fb fn K mg) (i : Nat) {C f : Str} {v : He.Dv} (h : fb[i]? = some (ckCon C f v)) : ∃ u, Con K (He.ga K C) f (v.v K) u := by
  obtain ⟨h1, h2⟩ := He.ba (Z.fact i h)
  split at h1
  · rename_i u e
    obtain ⟨a, b⟩ := He.ba h1
    exact ⟨u, e, He.relB_ok a, He.eqO_ok b, by simpa using h2⟩
  · cases h1
end Mp
set_option Elab.async false
set_option linter.all false
set_option maxRecDepth 100000
set_option maxHeartbeats 4000000
/-! Mp: more built-in functions. -/
namespace Mp
open PySem PySem.Spec PyProof.Rows L2
def max2D (ds : List D) (s : Sto) : Res D := match ds with
  | [.int i, .int j] => .ok (.int (if j > i then j else i)) s
  | _ => .bad
def min2D (ds : List D) (s : Sto) : Res D := match ds with
  | [.int i, .int j] => .ok (.int (if j < i then j else i)) s
  | _ => .bad
section
variable {X : Cx}
theorem v_min2 : VRC X.K (fun xs H Q => ∃ i j, xs = [.int i, .int j] ∧ Q (.int (if j < i then j else i)) H) min2D := fun w s xs ds Q E st rs hp => by
  unfold min2D at hp
  split at hp
  · cases rs with | cons q r => cases r with | cons q2 r2 => cases q; cases q2; cases r2; exact ⟨_, _, rfl, hp.pure st (.int _)⟩
  · exact hp.elim
end
/-- a getter that lets no exception out -/
def noxF (m : DF) : DF := fun ds s => match m ds s with
  | .exc _ _ _ => .bad
  | r => r
theorem noxF_ne {m : DF} : ∀ d s C fs s', noxF m [d] s ≠ .exc C fs s' := fun d s C fs s' => by
  unfold noxF
  cases m [d] s <;> simp
theorem FnD.nox {P : Program} {w : World} {K : Frag} {mg : Str → Option Value} {base : Heap} {k : Nat} {f : Addr} {m : DF} (F : FnD P w K mg base k f m) : FnD P w K mg base k f (noxF m) := fun A outer s H us vs Q E hr e0 r h => by
  obtain ⟨ds, so, u, hu, rs, st, hp⟩ := h
  refine F A outer s H us vs Q E hr e0 r ⟨ds, so, u, hu, rs, st, ?_⟩
  unfold noxF at hp
  cases e : m ds so <;> rw [e] at hp
  · exact hp
  · exact hp.elim
  · exact hp
end Mp
set_option Elab.async false
set_option linter.all false
set_option maxRecDepth 100000
set_option maxHeartbeats 4000000
/-! Mp: a caught error as a value: isinstance(e, C). -/
namespace Mp
open PySem PySem.Spec PyProof.Rows L2 PySem.Calls
section
variable {prog : Program} {w : World} {A : Around} {E : Value → Shared → Prop} {s : Shared} {K : Frag} {x C : Addr} {ox : Obj} {od : Option Obj}
theorem fo_data {n : Str} {a g : Value} (hc : (PySem.W.clsIn K C).isSome = true) (ha : PySem.W.findIn K (.ref C) n = some (some a)) (hg : PySem.W.specialIn K a "__get__" = some (some g)) (ht : PySem.W.takesIn K a = some true) : PySem.W.findObj K C od n = some (.bind g a) := by
  cases od with
  | none => exact PySem.W.findObj_dataN hc ha hg ht
  | some o => exact PySem.W.findObj_data hc ha hg ht
/-- e.__class__, with an own dict or without -/
theorem exc_class {Q : Option Value → Shared → Prop} (T : ExcC K C) (X : K.In s.heap) (I : PySem.W.InstAt s.heap x ox C od) (h : Q (some (.ref C)) { s with toks := s.toks + 1 }) : wpAny (model prog w) A (getAttr? (.ref x) "__class__") Q E s := by
  have isS : (PySem.W.clsIn K C).isSome = true := by
    obtain ⟨cd, hc, _⟩ := PySem.W.any_some T.hd
    rw [hc] <;> rfl
  have hf := fo_data (od := od) isS T.ha T.hn T.ht
  obtain ⟨hp, g, d, t, os⟩ := s
  have l0 := I.type (M := model prog w)
  have l1 := PySem.W.looks_findIn (M := model prog w) X T.hg
  have l2 := PySem.W.looks_findIn (M := model prog w) X T.hk
  have l3 := PySem.W.looks_find (M := model prog w) X I hf
  have isB : PySem.W.Looks (model prog w) hp (isInstance (.ref x) (.type "BaseException")) true := l0.andThen (PySem.W.looks_subIn X T.hs)
  have n1 : (Value.builtin "BaseException.__getattribute__" == Value.builtin "object.__getattribute__") = false := by
    decide +kernel
  unfold getAttr? getAttrBy? getAttrBy
  refine wpAny_bind (wpAny_mkText (wpAny_bind (wpAny_attempt (wpAny_holding (wpAny_bind (l0.at (wpAny_bind (l1.at ?_))))))))
  dsimp only
  rw [show (onTheHeap (Value.ref C) && Value.builtin "BaseException.__getattribute__" == Value.builtin "object.__getattribute__") = false from by
    rw [n1] <;> rfl]
  rw [if_neg (by decide)]
  unfold getAttrByItsOwn hookBefore
  refine wpAny_bind ?_
  rw [if_pos (show onTheHeap (Value.ref C) = true by rfl)]
  refine l2.at (wpAny_bind (wpAny_attempt (wpAny_holding ?_)))
  unfold callGetattribute
  rw [show (false && onTheHeap (Value.builtin "BaseException.__getattribute__")) = false by rfl, if_neg (by decide)]
  unfold boundAndCalled
  rw [PySem.F.excAttr_ValueError.ga.bind (.ref x)]
  refine wpAny_bind (wpAny_pure (wpAny_call (codeAny_call_builtin PySem.F.excAttr_ValueError.ga.plain PySem.F.entry_bexc_ga ?_)))
  refine @PySem.W.check_slot (model prog w) _ _ ⟨hp, g, d, t + 1, os⟩ "BaseException.__getattribute__" "BaseException" "__getattribute__" (.ref x) [.str "__class__" t] [] _ (by decide +kernel)
    (by decide +kernel) isB (PySem.F.args_bexc_ga (.ref x) (.str "__class__" t)) ?_
  unfold Builtin.«object.__getattribute__»
  refine wpAny_bind (wpAny_of_eq (a := ((Value.ref x : Value), [Value.str "__class__" t])) (by
    first
      | rfl
      | (simp only [slotArgs] <;> rfl)) (wpAny_bind (wpAny_pure (wpAny_bind (l0.at (wpAny_bind (l3.at ?_)))))))
  refine wpAny_bind (wpAny_holding (wpAny_call (PySem.W.class_get (s := ⟨hp, g, d, t + 1, os⟩) (ox := ox) (od := od) X I T.hm (wpAny_pure ?_))))
  show wpAny _ _ (handedOut (Value.ref C)) _ _ _
  rw [PySem.W.handedOut_of (v := Value.ref C) rfl]
  first
    | exact wpAny_pure h
    | exact wpAny_pure (wpAny_pure h)
    | exact wpAny_pure (wpAny_bind (wpAny_pure (wpAny_pure h)))
theorem exc_kit (T : ExcC K C) : PySem.W.KitX K (.ref x) (.ref C) (fun h => PySem.W.InstAt h x ox C od) := by
  have key : ∃ (c : Value) (d : Option Addr) (cd : ClassData) (sl : Array (Option Value)), K.lookup C = some ⟨c, d, .cls cd, sl⟩ := by
    obtain ⟨cd, hc, _⟩ := PySem.W.any_some T.hd
    unfold PySem.W.clsIn at hc
    split at hc
    · rename_i c' d' cd' sl' ho
      exact ⟨_, _, _, _, ho⟩
    · cases hc
  obtain ⟨c, d, cd, sl, ho⟩ := key
  refine ⟨fun _ _ _ I => I.type, fun h h' X I => ?_, fun h tp dd its n sl' X htp => ?_, fun X I k => exc_class T X I k⟩
  · intro A' Q' E' s' k q
    unfold isType loadHead
    exact wpAny_bind (wpAny_loadPart (k _ _ (X _ _ ho)) (wpAny_pure q))
  · refine Bool.eq_false_iff.mpr fun q => ?_
    have e : C = tp := Value.ref.inj (beq_iff_eq.mp q)
    subst e
    exact nomatch (X _ _ ho).symm.trans htp
end
/-- what isinstance(e, c) asks, e the error that the suite holds -/
def rIsX (K : Frag) (C a : Addr) (d : Option Addr) : List V → Hp → VK → Prop := fun xs H Q => ∃ (c : V) (cv : Value) (b : Bool), xs = [.ref a, c] ∧ (∀ u, RelV c u → u = cv) ∧ PySem.W.kitOne K (.ref C) cv = some b ∧ (∀ dx, d = some dx → ∃ l, H dx = some (.xd l)) ∧ Q (.bl b) H
theorem call_isX {X : Cx} {a C : Addr} {d : Option Addr} {oe : Obj} {pn : List (Addr × Obj)} (T : ExcC X.K C) (hz : Zc (.ref C) d oe) (hf : ∃ vs, oe.data = .fields vs) : CallR (X.suite a ((a, oe) :: pn)) (.builtin "isinstance") (rIsX X.K C a d) := by
  intro pins s t H xs us Q I r h
  obtain ⟨c, cv, b, rfl, hcv, e, hx, q⟩ := h
  cases r with
  | cons rx rr =>
    cases rr with
    | cons rt rr =>
      cases rr
      cases rx
      obtain rfl := hcv _ rt
      obtain ⟨hget, _⟩ := I.pin (a, oe) (List.mem_append.mpr (.inl List.mem_cons_self))
      obtain ⟨vs, hv⟩ := hf
      have no : PySem.W.notCls oe = true := by
        unfold PySem.W.notCls
        rw [hv]
      obtain ⟨od, J⟩ : ∃ od, PySem.W.InstAt s.heap a oe C od := by
        cases d with
        | none => exact ⟨none, hget, hz.1, no, by rw [hz.2]; trivial⟩
        | some dx =>
          obtain ⟨l, hl⟩ := hx dx rfl
          obtain ⟨mA, hns, hr⟩ : ObjOk X.prog X.w H s.heap dx (.xd l) := I.hok dx _ hl
          obtain ⟨o, ho, _⟩ := lookIn_ns hns
          exact ⟨some o, hget, hz.1, no, by rw [hz.2]; exact ho⟩
      exact PySem.W.kia_one (exc_kit T) I.kIn J e (fun z => nomatch z) fun tk => ⟨.bl b, H, I.kept (t' := tk) fun _ _ z => z, rfl, q⟩
/-! ### on data -/
def isxD (a : Addr) (d : Option Addr) (tt : List (String × Bool)) (ds : List D) (s : Sto) : Res D := match ds with
  | [.exn a' d' _ _, .ty n] => if a' = a ∧ d' = d then (match tt.lookup n with
    | some b => .ok (.bl b) s
    | none => .bad) else .bad
  | _ => .bad
def KitTab (K : Frag) (C : Str) (tt : List (String × Bool)) : Prop := ∀ q ∈ tt, PySem.W.kitOne K (.ref (He.ga K C)) (.type q.1) = some q.2
theorem v_isx {X : Cx} {C : Str} {a : Addr} {d : Option Addr} {tt : List (String × Bool)} (hT : KitTab X.K C tt) : VRC X.K (rIsX X.K (He.ga X.K C) a d) (isxD a d tt) := fun w s xs ds Q E st rs hp => by
  unfold isxD at hp
  split at hp
  · cases rs with | cons q r => cases r with | cons q2 r2 =>
    cases r2
    cases q2
    obtain ⟨rfl, hx⟩ := q.exn_inv
    split at hp
    · rename_i hc
      obtain ⟨rfl, rfl⟩ := hc
      split at hp
      · rename_i b hb
        refine ⟨_, _, b, rfl, fun u z => z, hT _ (look_mem hb), fun dx hd => ?_, hp.pure st (.bl _)⟩
        subst hd
        obtain ⟨_, l, hl, _⟩ := hx
        exact ⟨l, hl⟩
      · exact hp.elim
    · exact hp.elim
  · exact hp.elim
/-! ### the head's facts -/
abbrev ckXc (x : Str) : Frag → Bool := fun K => decide (PySem.W.findIn K (.ref (He.ga K x)) "__getattribute__" = some (some (.builtin "BaseException.__getattribute__"))) && (decide (PySem.W.findIn K (.ref (He.ga K x)) "__getattr__" = some none) && (decide (PySem.W.subIn K (.ref (He.ga K x)) (.type "BaseException") = some true) &&
  (PySem.W.hasDictIn K (He.ga K x) && (decide (PySem.W.findIn K (.ref (He.ga K x)) "__class__" = some (some (.builtin "object.__class__"))) && (decide (PySem.W.specialIn K (.builtin "object.__class__") "__get__" = some (some (.builtin "getset_descriptor.__get__"))) &&
  (decide (PySem.W.takesIn K (.builtin "object.__class__") = some true) && decide (PySem.W.mroIn K (He.ga K x) (.type "object") = some true)))))))
theorem Fx.xc {P : Program} {fb : List (Frag → Bool)} {fn : List DefM} {K : Frag} {mg : Str → Option Value} (Z : Fx P fb fn K mg) (i : Nat) {x : Str} (h : fb[i]? = some (ckXc x)) : ExcC K (He.ga K x) := by
  have f := Z.fact i h
  simp only [ckXc, Bool.and_eq_true, decide_eq_true_eq] at f
  obtain ⟨h1, h2, h3, h4, h5, h6, h7, h8⟩ := f
  exact ⟨h1, h2, h3, h4, h5, h6, h7, h8⟩
theorem xf_of {K : Frag} {C : Addr} (T : ExcC K C) : XfC K C := ⟨T.hg, T.hk, T.hs, T.hd⟩
abbrev ckKt (x : Str) (tt : List (String × Bool)) : Frag → Bool := fun K => tt.all fun q => decide (PySem.W.kitOne K (.ref (He.ga K x)) (.type q.1) = some q.2)
theorem Fx.kt {P : Program} {fb : List (Frag → Bool)} {fn : List DefM} {K : Frag} {mg : Str → Option Value} (Z : Fx P fb fn K mg) (i : Nat) {x : Str} {tt : List (String × Bool)} (h : fb[i]? = some (ckKt x tt)) : KitTab K x tt := fun q hq => of_decide_eq_true (List.all_eq_true.mp (Z.fact i h) q hq)
end Mp
set_option Elab.async false
set_option linter.all false
set_option maxRecDepth 100000
set_option maxHeartbeats 4000000
/-! Mp: repr of data with dicts. -/
namespace Mp
open PySem PySem.Spec PyProof.Rows L2
def keyP : Key → PyData
  | .inl i => .int i
  | .inr z => .str z
mutual
inductive Dq (K : Frag) (H : Hp) : V → PyData → Prop
  | non : Dq K H .non .none
  | bl (b : Bool) : Dq K H (.bl b) (.bool b)
  | int (i : Int) : Dq K H (.int i) (.int i)
  | str (x : Str) : Dq K H (.str x) (.str x)
  | lst {a : Addr} {xs : List V} {ds : List PyData} : SqL K H a xs → Dqs K H xs ds → Dq K H (.ref a) (.list ds)
  | tup {a : Addr} {xs : List V} {ds : List PyData} : SqT K H a xs → Dqs K H xs ds → Dq K H (.ref a) (.tuple ds)
  | dic {a : Addr} {kvs : List (Key × V)} {ds : List PyData} : Rd H a (.dK kvs) → Dqs K H (kvs.map (·.2)) ds → Dq K H (.ref a) (.dict ((kvs.map fun p => keyP p.1).zip ds))
inductive Dqs (K : Frag) (H : Hp) : List V → List PyData → Prop
  | nil : Dqs K H [] []
  | cons {v : V} {vs : List V} {d : PyData} {ds : List PyData} : Dq K H v d → Dqs K H vs ds → Dqs K H (v :: vs) (d :: ds)
end
theorem Dqs.length {K : Frag} {H : Hp} : ∀ {vs : List V} {ds : List PyData}, Dqs K H vs ds → vs.length = ds.length
  | _, _, .nil => rfl
  | _, _, .cons _ r => congrArg (· + 1) r.length
/-- sys.modules is no list -/
def SysD (K : Frag) : Prop := ∃ o, K.lookup sysModules = some o ∧ o.cls = .type "dict"
theorem pairs_keys {P : Program} {w : World} {h : Heap} : ∀ {es : List DictEntry} {vs : List (Key × Value)}, Pairs (mixKind P w) es vs → ∃ as, ReadsAll h (es.map (·.key)) (vs.map fun p => keyP p.1) as ∧ sysModules ∉ as
  | _, _, .nil => ⟨[], .nil, by simp⟩
  | e :: es, kv :: vs, .cons h1 h2 r => by
    obtain ⟨as, ra, hn⟩ := pairs_keys (h := h) r
    have k1 : ∃ as1, Reads h e.key (keyP kv.1) as1 ∧ sysModules ∉ as1 := by
      rcases keyIs_shape h1 with ⟨i, t, e1, e2⟩ | ⟨x, t, e1, e2⟩
      · rw [e1, e2]
        exact ⟨_, .int i t, by simp⟩
      · rw [e1, e2]
        exact ⟨_, .str x t, by simp⟩
    obtain ⟨as1, r1, n1⟩ := k1
    exact ⟨_, .cons r1 ra, fun z => (List.mem_append.mp z).elim n1 hn⟩
theorem pairs_vals {P : Program} {w : World} : ∀ {es : List DictEntry} {vs : List (Key × Value)}, Pairs (mixKind P w) es vs → es.map (·.val) = vs.map (·.2)
  | _, _, .nil => rfl
  | e :: es, kv :: vs, .cons h1 h2 r => by
    rw [List.map_cons, List.map_cons, pairs_vals r, h2]
theorem kv_vals : ∀ {l : List (Key × V)} {m : List (Key × Value)}, KV l m → Vals (l.map (·.2)) (m.map (·.2)) ∧ l.map (·.1) = m.map (·.1)
  | _, _, .nil => ⟨.nil, rfl⟩
  | _, _, .cons h r => by
    obtain ⟨h1, h2⟩ := kv_vals r
    exact ⟨.cons h.2 h1, by rw [List.map_cons, List.map_cons, h2, h.1]⟩
section
variable {X : Cx} {pins : List (Addr × Obj)} {t : L2.St} {H : Hp} {s : Shared}
mutual
theorem Dq.reads (I : Inv X pins t H s) (hS : SysD X.K) : ∀ {v : V} {d : PyData}, Dq X.K H v d → ∀ {u : Value}, RelV v u → ∃ as, Reads s.heap u d as ∧ sysModules ∉ as
  | _, _, .non, _, r => by
    cases r
    exact ⟨_, .none, by simp⟩
  | _, _, .bl b, _, r => by
    cases r
    exact ⟨_, .bool b, by simp⟩
  | _, _, .int i, _, r => by
    obtain ⟨k, rfl⟩ := r
    exact ⟨_, .int i k, by simp⟩
  | _, _, .str x, _, r => by
    obtain ⟨k, rfl⟩ := r
    exact ⟨_, .str x k, by simp⟩
  | _, _, .lst hs ha, _, r => by
    cases r
    obtain ⟨its, rv, ⟨o, n, ho, hc, _, hd⟩, _⟩ := I.list hs
    obtain ⟨as, hr, hn⟩ := Dqs.reads I hS ha rv
    refine ⟨_, Reads.list ho hc hd hr, fun z => ?_⟩
    rcases List.mem_cons.mp z with z | z
    · obtain ⟨o2, h2, h3⟩ := hS
      have h4 := I.kIn _ _ h2
      rw [z, ho] at h4
      cases h4
      rw [hc] at h3
      exact absurd h3 (by decide)
    · exact hn z
  | _, _, .tup hs ha, _, r => by
    cases r
    obtain ⟨its, rv, ⟨o, ho, hc, n, hd⟩, _⟩ := I.tuple hs
    obtain ⟨as, hr, hn⟩ := Dqs.reads I hS ha rv
    exact ⟨_, Reads.tuple ho hc hd hr, hn⟩
  | _, _, .dic hs ha, _, r => by
    cases r
    obtain ⟨_, hne, vs, kv, o, es, ep, ho, hx, hd, _, hp, _⟩ := dk_rd I.hok hs
    obtain ⟨rv, rk⟩ := kv_vals kv
    obtain ⟨as, ra, na⟩ := pairs_keys (h := s.heap) hp
    obtain ⟨bs, rb, nb⟩ := Dqs.reads I hS ha rv
    have hl := ha.length
    have e1 : ∀ (ks : List PyData) (ds : List PyData), ks.length = ds.length → (ks.zip ds).map (·.1) = ks := fun ks ds hl => List.map_fst_zip (by omega)
    have e2 : ∀ (ks : List PyData) (ds : List PyData), ks.length = ds.length → (ks.zip ds).map (·.2) = ds := fun ks ds hl => List.map_snd_zip (by omega)
    rw [List.length_map] at hl
    refine ⟨_, Reads.dict (as := as) (bs := bs) ho hx.1 hd ?_ ?_, fun z => ?_⟩
    · rw [e1 _ _ (by rw [List.length_map]; exact hl)]
      have e3 : ∀ {l : List (Key × V)} {m : List (Key × Value)}, l.map (·.1) = m.map (·.1) → (l.map fun p => keyP p.1) = m.map fun p => keyP p.1 := fun {l m} e => by
        have := congrArg (List.map keyP) e
        rw [List.map_map, List.map_map] at this
        exact this
      rw [e3 rk]
      exact ra
    · rw [e2 _ _ (by rw [List.length_map]; exact hl), pairs_vals hp]
      exact rb
    · rw [List.mem_append, List.mem_cons] at z
      rcases z with (z | z) | z
      · subst z
        exact absurd hne (by simp)
      · exact na z
      · exact nb z
theorem Dqs.reads (I : Inv X pins t H s) (hS : SysD X.K) : ∀ {vs : List V} {ds : List PyData}, Dqs X.K H vs ds → ∀ {us : List Value}, Vals vs us → ∃ as, ReadsAll s.heap us ds as ∧ sysModules ∉ as
  | _, _, .nil, _, r => by
    cases r
    exact ⟨_, .nil, by simp⟩
  | _, _, .cons h1 h2, _, r => by
    cases r with
    | cons r1 r2 =>
      obtain ⟨as, q1, n1⟩ := Dq.reads I hS h1 r1
      obtain ⟨bs, q2, n2⟩ := Dqs.reads I hS h2 r2
      exact ⟨_, .cons q1 q2, fun z => (List.mem_append.mp z).elim n1 n2⟩
end
end
/-! ### on data -/
mutual
def rdP (s : Sto) : Nat → D → Option PyData
  | 0, _ => none
  | n + 1, d => match d with
    | .non => some .none
    | .bl b => some (.bool b)
    | .int i => some (.int i)
    | .str z => some (.str z)
    | .tup l => (rdPs s n l).map .tuple
    | .lst l => (rdPs s n l).map .list
    | .rol l => (rdPs s n l).map .list
    | .dct m => (rdPs s n (m.map (·.2))).map fun ps => .dict ((m.map fun p => keyP p.1).zip ps)
    | .cel k => (match s[k]? with
      | some (some (.lst l)) => (rdPs s n l).map .list
      | some (some (.dct m)) => (rdPs s n (m.map (·.2))).map fun ps => .dict ((m.map fun p => keyP p.1).zip ps)
      | some (some (.rod m)) => (rdPs s n (m.map (·.2))).map fun ps => .dict ((m.map fun p => keyP p.1).zip ps)
      | _ => none)
    | _ => none
def rdPs (s : Sto) : Nat → List D → Option (List PyData)
  | 0, _ => none
  | _ + 1, [] => some []
  | n + 1, d :: l => (rdP s n d).bind fun p => (rdPs s n l).map fun ps => p :: ps
end
section
variable {K : Frag} {w : Wd} {s : Sto}
theorem KVR.keyP {l : List (Key × V)} {m : List (Key × D)} (h : KVR K w l m) : (l.map fun p => Mp.keyP p.1) = m.map fun p => Mp.keyP p.1 := by
  have := congrArg (List.map Mp.keyP) h.keys
  rw [List.map_map, List.map_map] at this
  exact this
mutual
theorem rdP_ok (st : StR K w s) : ∀ {n : Nat} {d : D} {v : V} {p : PyData}, Rep K w v d → rdP s n d = some p → Dq K w.H v p
  | 0, _, _, _, _, e => by
    rw [rdP] at e
    cases e
  | n + 1, d, v, p, r, e => by
    cases d with
    | non =>
      simp only [rdP] at e
      cases r
      cases e
      exact .non
    | bl b =>
      simp only [rdP] at e
      cases r
      cases e
      exact .bl b
    | int i =>
      simp only [rdP] at e
      cases r
      cases e
      exact .int i
    | str z =>
      simp only [rdP] at e
      cases r
      cases e
      exact .str z
    | tup l =>
      simp only [rdP] at e
      cases r with
      | tup h1 rs =>
        obtain ⟨ps, e1, rfl⟩ := Option.map_eq_some_iff.mp e
        exact .tup h1.sq (rdPs_ok st rs e1)
    | lst l =>
      simp only [rdP] at e
      cases r with
      | lst z h1 rs =>
        obtain ⟨ps, e1, rfl⟩ := Option.map_eq_some_iff.mp e
        exact .lst (SqL.of h1) (rdPs_ok st rs e1)
    | rol l =>
      simp only [rdP] at e
      cases r with
      | rol h1 rs =>
        obtain ⟨ps, e1, rfl⟩ := Option.map_eq_some_iff.mp e
        exact .lst h1.sq (rdPs_ok st rs e1)
    | dct m =>
      simp only [rdP] at e
      obtain ⟨a, o, l, rfl, _, h1, h2⟩ := r.dct_inv
      obtain ⟨ps, e1, rfl⟩ := Option.map_eq_some_iff.mp e
      rw [← h2.keyP]
      exact .dic (.inr ⟨o, h1⟩) (rdPs_ok st h2.vals e1)
    | cel k =>
      simp only [rdP] at e
      cases r with
      | cel ha =>
        cases hk : s[k]? with
        | none => rw [hk] at e; cases e
        | some oc =>
          rw [hk] at e
          cases oc with
          | none => cases e
          | some c =>
            obtain ⟨a1, h1, _, h3⟩ := st.at_ k c hk
            have ea := Option.some.inj (h1.symm.trans ha)
            subst ea
            cases c with
            | lst l =>
              obtain ⟨vs, hh, rs⟩ := h3
              obtain ⟨ps, e1, rfl⟩ := Option.map_eq_some_iff.mp e
              exact .lst (SqL.of hh) (rdPs_ok st rs e1)
            | dct m =>
              obtain ⟨l, hh, rs⟩ := h3
              obtain ⟨ps, e1, rfl⟩ := Option.map_eq_some_iff.mp e
              rw [← rs.keyP]
              exact .dic (.inl hh) (rdPs_ok st rs.vals e1)
            | rod m =>
              obtain ⟨o, l, _, hh, rs⟩ := h3
              obtain ⟨ps, e1, rfl⟩ := Option.map_eq_some_iff.mp e
              rw [← rs.keyP]
              exact .dic (.inr ⟨o, hh⟩) (rdPs_ok st rs.vals e1)
            | ins C fs => cases e
            | tab x => cases e
            | dtt m => cases e
    | clo _ _ _ _ _ => simp [rdP] at e
    | kot _ => simp [rdP] at e
    | ty _ => simp [rdP] at e
    | glo _ => simp [rdP] at e
    | ins _ _ => simp [rdP] at e
    | exn _ _ _ _ => simp [rdP] at e
theorem rdPs_ok (st : StR K w s) : ∀ {n : Nat} {ds : List D} {vs : List V} {ps : List PyData}, Reps K w vs ds → rdPs s n ds = some ps → Dqs K w.H vs ps
  | 0, _, _, _, _, e => by
    rw [rdPs] at e
    cases e
  | n + 1, [], _, _, r, e => by
    rw [rdPs] at e
    cases r
    cases e
    exact .nil
  | n + 1, d :: l, _, _, r, e => by
    rw [rdPs] at e
    cases r with
    | cons r1 r2 =>
      obtain ⟨p, e1, e2⟩ := Option.bind_eq_some_iff.mp e
      obtain ⟨ps, e3, rfl⟩ := Option.map_eq_some_iff.mp e2
      exact .cons (rdP_ok st r1 e1) (rdPs_ok st r2 e3)
end
end
def reprX (ds : List D) (s : Sto) : Res D := match ds with
  | [x] => (match rdP s 99 x with
    | some p => if p.showable = true ∧ p.depth < 60 ∧ p.shown.length ≤ sizeLine then .ok (.str p.shown) s else .bad
    | none => .bad)
  | _ => .bad
def rReprX (K : Frag) : List V → Hp → VK → Prop := fun xs H Q => ∃ v d, xs = [v] ∧ Dq K H v d ∧ d.showable = true ∧ d.depth < 60 ∧ d.shown.length ≤ sizeLine ∧ Q (.str d.shown) H
section
variable {X : Cx} {W : WX}
theorem call_reprX (hS : SysD X.K) (hg : X.A.guards = some []) (hu : X.A.units + 64 < cLine) : CallR X (.builtin "repr") (rReprX X.K) := by
  intro pins s t H xs us Q I r h
  obtain ⟨v, d, rfl, dp, h1, h3, h4, q⟩ := h
  obtain ⟨u, rfl, ru⟩ := vals1 r
  obtain ⟨as, rd, nas⟩ := Dq.reads I hS dp ru
  have fin : ∀ (h' : Heap) (tk : Nat) (tq : Tok), (∀ b o, s.heap.get? b = some o → h'.get? b = some o) → EP X pins t Q (.str d.shown tq) { s with heap := h', toks := tk } := fun h' tk tq k => ⟨.str d.shown, H, I.kept k, ⟨_, rfl⟩, q⟩
  cases u with
  | ref p => exact repr_of_reads' rd h1 (fun _ => nas) hg (by omega) (fun _ _ e => e) (fun h' tq tk k => fin h' tk tq k) h4
  | none =>
    cases rd
    exact PySem.P.repr_of_none (fin s.heap _ _ fun _ _ e => e)
  | bool k =>
    cases rd
    have e : (PyData.bool k).shown = if k = true then Str.ofString "True" else Str.ofString "False" := by
      simp only [PyData.shown]
    rw [e] at fin
    exact PySem.P.repr_of_bool (fin s.heap _ _ fun _ _ e => e)
  | int i tk =>
    cases rd
    have e : (PyData.int i).shown = toString i := by
      simp only [PyData.shown]
    rw [e] at fin
    exact PySem.P.repr_of_int (by simpa [PyData.showable] using h1) (fin s.heap _ _ fun _ _ e => e)
  | str z tk =>
    cases rd
    have e : (PyData.str z).shown = reprText z := by
      simp only [PyData.shown]
    rw [e] at fin h4
    exact PySem.P.repr_of_str (fin s.heap _ _ fun _ _ e => e) h4
  | _ => nomatch rd
theorem v_reprX : VRC X.K (rReprX X.K) reprX := fun w s xs ds Q E st rs hp => by
  unfold reprX at hp
  cases rs with
  | nil => exact hp.elim
  | @cons v d vs ds h1 rs =>
    cases rs with
    | cons _ _ => exact hp.elim
    | nil =>
      dsimp only at hp
      cases e : rdP s 99 d with
      | none => rw [e] at hp; exact hp.elim
      | some p =>
        rw [e] at hp
        dsimp only at hp
        split at hp
        · rename_i hc
          exact ⟨v, p, rfl, rdP_ok st h1 e, hc.1, hc.2.1, hc.2.2, hp.pure st (.str _)⟩
        · exact hp.elim
/-- {} : a new cell -/
def disp0M : DE := fun _ s => .ok (.cel s.length) (s ++ [some (.dct [])])
theorem e_disp0 {pos : Pos} : PE X (.Dict [] [] pos) (tE X.K W disp0M) := PE.imp pe_dnewK fun t H Q h => by
  obtain ⟨r, s, w, rfl, env, st, hp⟩ := h
  intro p np
  have e := Wd.cell_ext st (o := .dK []) np
  exact hp (.ref p) (w.cell s.length p (.dK [])) e (Wd.cell_st st np ⟨[], upd_same, .nil⟩) (.cel (if_pos rfl))
end
abbrev ckSys : Frag → Bool := fun K => match K.lookup sysModules with
  | some o => decide (o.cls = .type "dict")
  | none => false
theorem Fx.sys {P : Program} {fb : List (Frag → Bool)} {fn : List DefM} {K : Frag} {mg : Str → Option Value} (Z : Fx P fb fn K mg) (i : Nat) (h : fb[i]? = some ckSys) : SysD K := by
  have f := Z.fact i h
  dsimp only [ckSys] at f
  cases e : K.lookup sysModules with
  | none => rw [e] at f; cases f
  | some o =>
    rw [e] at f
    exact ⟨o, e, of_decide_eq_true f⟩
end Mp
set_option Elab.async false
set_option linter.all false
set_option maxRecDepth 100000
set_option maxHeartbeats 4000000
/-! Mp: methods of lists and texts. -/
namespace Mp
open PySem PySem.Spec PyProof.Rows L2
def isStrD (_ : Sto) : D → Bool
  | .str _ => true
  | _ => false
/-- o.m(..), o of a built-in type -/
def bmD (ty : Sto → D → Bool) (f : D → List D → Sto → Res D) (o : DE) (a : DM (List D)) : DE := bindM o fun x => fun r s => if ty s x = true then bindM a (fun ds => fun _ s => f x ds s) r s else .bad
def TyOk (K : Frag) (T : String) (ty : Sto → D → Bool) : Prop := ∀ w s x d, StR K w s → Rep K w x d → ty s d = true → tyV K T x w.H
def VRM (K : Frag) (r : V → List V → Hp → VK → Prop) (f : D → List D → Sto → Res D) : Prop := ∀ w s x xs d ds Q E, StR K w s → Rep K w x d → Reps K w xs ds → Post K (Rep K) w E Q (f d ds s) → r x xs w.H Q
theorem ty_str {K : Frag} : TyOk K "str" isStrD := fun w s x d st r h => by
  cases r with
  | str z => rfl
  | _ => cases h
section
variable {X : Cx} {W : WX} {o e : Expr} {es : List Expr} {apos cpos : Pos} {mo : DE} {ma : DM (List D)} {T id : String} {name : Str} {r : V → List V → Hp → VK → Prop} {ty : Sto → D → Bool} {f : D → List D → Sto → Res D}
theorem e_bm (pa : PlainAttrs T) (slot : Slot T name id) (hty : typeOf (.builtin id) = pure (.type "method_descriptor")) (hm : MtR X id r) (hT : TyOk X.K T ty) (hv : VRM X.K r f) (ho : PE X o (tE X.K W mo)) (ha : PA X (e :: es) (tA X.K W ma))
    (hbase : attributeBase o name X.env (eval o X.env) = eval o X.env := by rfl)
    (hfew : ((backTo cpos (starEach (e :: es) X.env)).all (fun x => !x.1) && (backToKw cpos (keywordEach [] X.env)).all (fun x => x.1.isSome)
      && decide ((e :: es).length + ([] : List Keyword).length + (if ([] : List Keyword).isEmpty then 0 else 1) < 30)) = true := by rfl)
    (hline : (apos.endLine == cpos.line) = true := by rfl) (hs : starEach (e :: es) X.env = (false, eval e X.env) :: starEach es X.env := by rfl) (hplain : (backTo cpos (starEach es X.env)).any (·.1) = false := by rfl) :
    PE X (.Call (.Attribute o name apos) (e :: es) [] cpos) (tE X.K W (bmD ty f mo ma)) := PE.imp (pe_bm pa slot hty hm ho ha hbase hfew hline hs hplain) fun t H Q h => by
  obtain ⟨r, s, w, rfl, env, st, hp⟩ := h
  exact hp.bind env st fun x d s1 w1 e1 st1 r1 hp1 => by
    by_cases hk : ty s1 d = true
    · rw [if_pos hk] at hp1
      exact ⟨hT w1 s1 x d st1 r1 hk, hp1.bind (env.ext e1) st1 fun xs ds s2 w2 e2 st2 r2 hp2 => hv w2 s2 x xs d ds Q _ st2 (r1.ext e2) r2 hp2⟩
    · rw [if_neg hk] at hp1
      exact hp1.elim
end
/-! ### lists -/
theorem Reps.one {K : Frag} {w : Wd} {xs : List V} {d : D} (h : Reps K w xs [d]) : ∃ x, xs = [x] ∧ Rep K w x d := by
  cases h with
  | cons q r => cases r; exact ⟨_, rfl, q⟩
/-! ### texts -/
def startsD (x : D) (ds : List D) (s : Sto) : Res D := match x with
  | .str a => (match ds with
    | [.str b] => .ok (.bl (Txt.startswith a b)) s
    | _ => .bad)
  | _ => .bad
theorem v_starts {K : Frag} : VRM K (fun x xs H Q => ∃ a b, x = .str a ∧ xs = [.str b] ∧ Q (.bl (Txt.startswith a b)) H) startsD := fun w s x xs d ds Q E st r rs hp => by
  unfold startsD at hp
  split at hp
  · split at hp
    · rename_i _ a _ b
      cases r
      obtain ⟨y, rfl, ry⟩ := rs.one
      cases ry
      exact ⟨a, b, rfl, rfl, hp.pure st (.bl _)⟩
    · exact hp.elim
  · exact hp.elim
end Mp
set_option Elab.async false
set_option linter.all false
set_option maxRecDepth 100000
set_option maxHeartbeats 4000000
/-! Mp: dict comprehensions. -/
namespace Mp
open PySem PySem.Spec PyProof.Rows L2
section
end
end Mp
set_option Elab.async false
set_option linter.all false
set_option maxRecDepth 100000
set_option maxHeartbeats 4000000
/-! Mp: sorted, dict(..). -/
namespace Mp
open PySem PySem.Spec PyProof.Rows L2
section
end
end Mp
set_option Elab.async false
set_option linter.all false
set_option maxRecDepth 100000
set_option maxHeartbeats 1000000
/-! Mp: zip(*rows), rows a tuple of tuples of one length: at the library's level. -/
namespace ZN
open PySem RZ
open PySem.Sem (wp)
/-- iterators it, it + 1, .. over the tuples ls (below B), all at place k, with the items xs there -/
def Ready (h : Heap) (B k : Nat) : Nat → List Addr → List Value → Prop
  | _, [], xs => xs = []
  | it, l :: ls, xs => ∃ x xs', xs = x :: xs' ∧ h.IsTupleIter it l k ∧ @LT.lt Nat _ l B ∧ (∃ items, h.IsTuple l items ∧ items[k]? = some x) ∧ Ready h B k (it + 1) ls xs'
def After (h : Heap) (k : Nat) : Nat → List Addr → Prop
  | _, [] => True
  | it, l :: ls => h.IsTupleIter it l k ∧ After h k (it + 1) ls
theorem Ready.stay {B k : Nat} {h h' : Heap} : ∀ {ls : List Addr} {it : Nat} {xs : List Value}, (∀ (c : Nat) (o : Obj), (c < B ∨ it ≤ c ∧ c < it + ls.length) → h.get? c = some o → h'.get? c = some o) → Ready h B k it ls xs → Ready h' B k it ls xs
  | [], _, _, _, r => r
  | l :: ls, it, xs, k1, ⟨x, xs', e, h1, h2, ⟨items, ⟨o, ho, hr⟩, hx⟩, h4⟩ => ⟨x, xs', e, h1.at fun o q => k1 it o (.inr ⟨Nat.le_refl _, by simp⟩) q, h2, ⟨items, ⟨o, k1 l o (.inl h2) ho, hr⟩, hx⟩,
      Ready.stay (fun (c : Nat) (o : Obj) hc q => k1 c o (hc.imp id fun z => ⟨by omega, by simp only [List.length_cons]; omega⟩) q) h4⟩
theorem After.stay {k : Nat} {h h' : Heap} : ∀ {ls : List Addr} {it : Nat}, (∀ (c : Nat) (o : Obj), it ≤ c ∧ c < it + ls.length → h.get? c = some o → h'.get? c = some o) → After h k it ls → After h' k it ls
  | [], _, _, _ => trivial
  | l :: ls, it, k1, ⟨h1, h4⟩ => ⟨h1.at fun o q => k1 it o ⟨Nat.le_refl _, by simp⟩ q, After.stay (fun (c : Nat) (o : Obj) hc q => k1 c o ⟨by omega, by simp only [List.length_cons]; omega⟩ q) h4⟩
theorem After.get {k : Nat} {h : Heap} : ∀ {ls : List Addr} {it : Nat} {c : Nat}, After h k it ls → it ≤ c → c < it + ls.length → ∃ l, h.IsTupleIter c l k
  | [], it, c, _, h1, h2 => by simp at h2; omega
  | l :: ls, it, c, a, h1, h2 => by
    by_cases e : c = it
    · subst e; exact ⟨l, a.1⟩
    · exact a.2.get (by omega) (by simp only [List.length_cons] at h2; omega)
theorem Ready.after {B k : Nat} {h : Heap} : ∀ {ls : List Addr} {it : Nat} {xs : List Value}, Ready h B k it ls xs → After h k it ls
  | [], _, _, _ => trivial
  | _ :: _, _, _, ⟨_, _, _, h1, _, _, h4⟩ => ⟨h1, h4.after⟩
theorem Ready.length {B k : Nat} {h : Heap} : ∀ {ls : List Addr} {it : Nat} {xs : List Value}, Ready h B k it ls xs → xs.length = ls.length
  | [], _, _, r => by rw [show _ = [] from r]; rfl
  | _ :: _, _, _, ⟨_, _, e, _, _, _, h4⟩ => by rw [e, List.length_cons, List.length_cons, h4.length]
section
end
/-- the zip object: what it handed out last, whether it was held -/
def IsZ (h : Heap) (z TI TO : Nat) : Prop := ∃ (g0 : Value) (b : Bool), (g0 = .none ∨ ∃ T : Nat, g0 = rawInt T) ∧ h.get? z = some { cls := .type "zip", dict := none, data := .fields #[g0, .bool b, .bool false, .ref TI, .ref TO], slots := #[] }
theorem IsZ.at {h h' : Heap} {z TI TO : Nat} (x : IsZ h z TI TO) (e : ∀ o, h.get? z = some o → h'.get? z = some o) : IsZ h' z TI TO := let ⟨g, b, q, r⟩ := x; ⟨g, b, q, e _ r⟩
section
end
section
end
section
end
end ZN
set_option Elab.async false
set_option linter.all false
set_option maxRecDepth 100000
set_option maxHeartbeats 4000000
/-! Mp: zip(*rows). -/
namespace Mp
open PySem PySem.Spec PyProof.Rows L2
/-! ### on data -/
inductive RowR (K : Frag) (w : Wd) : List Addr → List (List V) → List (List D) → Prop
  | nil : RowR K w [] [] []
  | cons {a : Addr} {vs : List V} {ds : List D} {as : List Addr} {vss : List (List V)} {dss : List (List D)} : TAt K w a vs → Reps K w vs ds → RowR K w as vss dss → RowR K w (a :: as) (vs :: vss) (ds :: dss)
theorem RowR.ext {K : Frag} {w w' : Wd} (e : Ext w w') : ∀ {ls : List Addr} {vss : List (List V)} {dss : List (List D)}, RowR K w ls vss dss → RowR K w' ls vss dss
  | _, _, _, .nil => .nil
  | _, _, _, .cons h r t => .cons (h.ext e) (r.ext e) (t.ext e)
section
end
end Mp
set_option Elab.async false
set_option linter.all false
set_option maxRecDepth 100000
set_option maxHeartbeats 4000000
/-! Mp: isinstance of a tuple of classes, len of dicts, list(range(n)). -/
namespace Mp
open PySem PySem.Spec PyProof.Rows L2
section
end
section
/-! ### len -/
end
/-! ### list(range(n)) -/
section
end
end Mp
set_option Elab.async false
set_option linter.all false
set_option maxRecDepth 100000
set_option maxHeartbeats 4000000
/-! Mp: lambdas without parameters, handed to a def. -/
namespace Mp
open PySem PySem.Spec PyProof.Rows L2
/-! ### a frame as data -/
/-! ### mirrors -/
/-! ### the lambda is made -/
section
end
/-! ### it is called -/
section
variable {X : Cx} {pins : List (Addr × Obj)} {t : L2.St} {H : Hp} {s : Shared}
/-- a def that gets a lambda: its text for any reading of the call -/
def LamD (P : Program) (w : World) (K : Frag) (mg : Str → Option Value) (base : Heap) (N : List Str) (x : Str) (sg : Scope) (g : Addr) (k : Nat) (bg : List Stmt) (a : Str) (b : DE → DS) : Prop :=
  ∀ (cdv : Value) (A : Around) (outer : List Env) (s : Shared) (H : Hp) (th : DE), Rm k (A.deeper (envOfC x sg s.heap.objs.size g cdv)) →
    (∀ (pn : List (Addr × Obj)) (xe : Value → Shared → Prop) (W : WX) (p1 p2 : Pos), Takes ((cxOf C8.CX0 P w K mg base N x sg g cdv A outer s H C8.E0).tr pn xe) W → PE ((cxOf C8.CX0 P w K mg base N x sg g cdv A outer s H C8.E0).tr pn xe) (.Call (.Name a p1) [] [] p2) (tE K W th)) →
    PSs (cxOf C8.CX0 P w K mg base N x sg g cdv A outer s H C8.E0).nox bg (tS K W0 (b th))
end
end Mp
set_option Elab.async false
set_option linter.all false
set_option maxRecDepth 100000
set_option maxHeartbeats 4000000
/-! Mp: the head and the end of a law in which lambdas are made. -/
namespace Mp
open PySem PySem.Spec PyProof.Rows L2
/-! ### the head -/
/-! ### the end -/
section
end
/-! ### a def in which lambdas are made -/
section
variable {P : Program} {w : World} {K : Frag} {mg : Str → Option Value} {base : Heap}
theorem LamD.mono {N : List Str} {x a : Str} {sg : Scope} {g : Addr} {k j : Nat} {bg : List Stmt} {b : DE → DS} (h : LamD P w K mg base N x sg g k bg a b) (hk : k ≤ j) : LamD P w K mg base N x sg g j bg a b := fun cdv A outer s H th hr act => h cdv A outer s H th (hr.mono hk) act
end
end Mp
set_option Elab.async false
set_option linter.all false
set_option maxRecDepth 100000
set_option maxHeartbeats 4000000
/-! Mp: a text some times. -/
namespace Mp
open PySem PySem.Spec PyProof.Rows L2
def repS (z : Str) (n : Nat) : Str := ⟨(List.replicate n z.cps).foldl (· ++ ·) #[]⟩
@[irreducible] def mulX (x y : D) (s : Sto) : Res D := match x with
  | .str z => (match y with
    | .int k => if 2 ≤ k ∧ k ≤ 1000000 ∧ 0 < z.length ∧ z.length * k.toNat ≤ 16777216 then .ok (.str (repS z k.toNat)) s else .bad
    | _ => .bad)
  | x => mulD x y s
section
variable {X : Cx} {W : WX} {a b : Expr} {pos : Pos} {ma mb : DE}
abbrev rRepS : V → V → Hp → VK → Prop := fun x y H Q => ∃ z k, x = .str z ∧ y = .int k ∧ 2 ≤ k ∧ k ≤ 1000000 ∧ 0 < z.length ∧ z.length * k.toNat ≤ 16777216 ∧ Q (.str (repS z k.toNat)) H
theorem op_repS : OpR X (binaryOp .Mult) rRepS := by
  intro pins s t H x y v u Q I rx ry h
  obtain ⟨z, k, rfl, rfl, h1, h2, h3, h4, q⟩ := h
  obtain ⟨tx, rfl⟩ := rx
  obtain ⟨ty, rfl⟩ := ry
  have hs : sizeLine = 16777216 := sizeLine_eq
  have hfit : Builtin.Str.tooLong (z.length * k.toNat) = false := by
    unfold Builtin.Str.tooLong
    exact decide_eq_false (by omega)
  refine P.mul_str (by
      rw [decide_eq_false (show ¬ k < -(2 ^ 63 : Int) by omega), decide_eq_false (show ¬ k ≥ 2 ^ 63 by omega)]
      rfl) (fun _ _ z2 => ?_) (fun _ _ => ?_) ?_
  · have a1 : (z.length : Int) * k ≤ 16777216 := by
      have : ((z.length * k.toNat : Nat) : Int) ≤ 16777216 := by omega
      rw [Int.natCast_mul, Int.toNat_of_nonneg (by omega)] at this
      exact this
    have a2 : (z.length : Int) ≤ (2 ^ 63 - 1) / k := by
      rw [Int.le_ediv_iff_mul_le (by omega)]
      omega
    omega
  · exact hfit
  · rw [if_neg (by omega), if_neg (by
      intro z2
      rw [Bool.or_eq_true] at z2
      rcases z2 with z2 | z2
      · have := eq_of_beq z2
        omega
      · have := eq_of_beq z2
        omega)]
    exact ⟨fits_reps hfit, ⟨.str (repS z k.toNat), H, I.tok _, ⟨_, rfl⟩, q⟩⟩
theorem v_mulX : VR2 X.K (fun x y H Q => ((rI CMulW fun i j => .int (i * j)) x y H Q ∨ rRep x y H Q) ∨ rRepS x y H Q) mulX := fun w s x y d e Q E st rx ry hp => by
  unfold mulX at hp
  cases d with
  | str z =>
    cases rx
    cases ry with
    | int k =>
      dsimp only at hp
      split at hp
      · rename_i hc
        exact .inr ⟨z, k, rfl, rfl, hc.1, hc.2.1, hc.2.2.1, hc.2.2.2, hp.pure st (.str _)⟩
      · exact hp.elim
    | _ => exact hp.elim
  | _ => exact .inl (v_mul w s x y _ e Q E st rx ry hp)
theorem e_mulX (ha : PE X a (tE X.K W ma)) (hb : PE X b (tE X.K W mb)) : PE X (.BinOp a .Mult b pos) (tE X.K W (binM mulX ma mb)) := e_bin (OpR.or (OpR.or op_mulW op_rep) op_repS) v_mulX ha hb
end
end Mp
set_option Elab.async false
set_option linter.all false
set_option maxRecDepth 100000
set_option maxHeartbeats 4000000
/-! Mp: a text backwards. -/
namespace Mp
open PySem PySem.Spec PyProof.Rows L2
section
end
end Mp
set_option Elab.async false
set_option linter.all false
set_option maxRecDepth 100000
set_option maxHeartbeats 4000000
/-! Mp: classmethods; a class called by a local name. -/
namespace Mp
open PySem PySem.Spec PyProof.Rows L2
section
variable {X : Cx} {W : WX} {a : Expr} {es : List Expr} {pos p apos : Pos} {mr : DM (List D)} {m x cc : Str} {k : Nat} {f g pa : Addr} {mf : DF} {mc : Value}
/-- x(e, ..), x a local name that holds the class cc -/
def makeLM (kk : Bool) (cc : Str) (mf : DF) (mn : DE) (mr : DM (List D)) : DE := bindM mn fun c => match c with
  | .glo y => if y = cc then makeM kk cc mf mr else fun _ _ => .bad
  | _ => fun _ _ => .bad
end
/-! ### the head's facts -/
abbrev ckCr (x : Str) : Frag → Bool := fun K => PySem.W.readsIn K (He.ga K x) (.type "type") && decide (PySem.W.specialIn K (.ref (He.ga K x)) "__getattribute__" = some (some (.builtin "type.__getattribute__")))
theorem Fx.cr {P : Program} {fb : List (Frag → Bool)} {fn : List DefM} {K : Frag} {mg : Str → Option Value} (Z : Fx P fb fn K mg) (i : Nat) {x : Str} (h : fb[i]? = some (ckCr x)) : ClX.CRead K (He.ga K x) (.type "type") := by
  have f := Z.fact i h
  simp only [ckCr, Bool.and_eq_true, decide_eq_true_eq] at f
  exact ⟨f.1, f.2⟩
end Mp
set_option Elab.async false
set_option linter.all false
set_option maxRecDepth 100000
set_option maxHeartbeats 4000000
/-! Mp: several except clauses, with names or without. -/
namespace Mp
open PySem PySem.Spec PyProof.Rows L2
section
end
/-! ### on data -/
inductive Hd where
  | pl (tb : List (Str × Bool)) (mh : DS)
  | as (i : Nat) (E : Str) (tb : List (Str × Bool)) (mh : Addr → Option Addr → List (Str × D) → DS)
noncomputable def manyF : List Hd → Str → List (Str × D) → En → Sto → Fl
  | [], C, fs, r, s => .exc C fs r s
  | .pl tb mh :: hs, C, fs, r, s => match tb.lookup C with
    | some true => noExc (mh r s)
    | some false => manyF hs C fs r s
    | none => .bad
  | .as i E tb mh :: hs, C, fs, r, s => match tb.lookup C with
    | some true => if C = E then joinF (fun a d => offS i (mh a d fs (r.set i (some (.exn a d C fs))) s)) else .bad
    | some false => manyF hs C fs r s
    | none => .bad
noncomputable def tryNS (mb : DS) (hs : List Hd) : DS := fun r s => match mb r s with
  | .exc C fs r' s' => manyF hs C fs r' s'
  | f => f
section
end
end Mp
set_option Elab.async false
set_option linter.all false
set_option maxRecDepth 100000
set_option maxHeartbeats 4000000
/-! Mp: a text any number of times. -/
namespace Mp
open PySem PySem.Spec PyProof.Rows L2
section
end
end Mp
set_option Elab.async false
set_option linter.all false
set_option maxRecDepth 100000
set_option maxHeartbeats 1000000
/-! Mp: zip(*rows), rows a tuple of lists of one length: at the library's level. -/
namespace ZL
open PySem RZ
open PySem.Sem (wp)
/-- iterators it, it + 1, .. over the tuples ls (below B), all at place k, with the items xs there -/
def Ready (h : Heap) (B k : Nat) : Nat → List Addr → List Value → Prop
  | _, [], xs => xs = []
  | it, l :: ls, xs => ∃ x xs', xs = x :: xs' ∧ h.IsListIter it l k ∧ @LT.lt Nat _ l B ∧ (∃ items, h.IsList l items ∧ items[k]? = some x) ∧ Ready h B k (it + 1) ls xs'
def After (h : Heap) (k : Nat) : Nat → List Addr → Prop
  | _, [] => True
  | it, l :: ls => h.IsListIter it l k ∧ After h k (it + 1) ls
theorem Ready.stay {B k : Nat} {h h' : Heap} : ∀ {ls : List Addr} {it : Nat} {xs : List Value}, (∀ (c : Nat) (o : Obj), (c < B ∨ it ≤ c ∧ c < it + ls.length) → h.get? c = some o → h'.get? c = some o) → Ready h B k it ls xs → Ready h' B k it ls xs
  | [], _, _, _, r => r
  | l :: ls, it, xs, k1, ⟨x, xs', e, h1, h2, ⟨items, ⟨o, ho, hr⟩, hx⟩, h4⟩ => ⟨x, xs', e, h1.at fun o q => k1 it o (.inr ⟨Nat.le_refl _, by simp⟩) q, h2, ⟨items, ⟨o, k1 l o (.inl h2) ho, hr⟩, hx⟩,
      Ready.stay (fun (c : Nat) (o : Obj) hc q => k1 c o (hc.imp id fun z => ⟨by omega, by simp only [List.length_cons]; omega⟩) q) h4⟩
theorem After.stay {k : Nat} {h h' : Heap} : ∀ {ls : List Addr} {it : Nat}, (∀ (c : Nat) (o : Obj), it ≤ c ∧ c < it + ls.length → h.get? c = some o → h'.get? c = some o) → After h k it ls → After h' k it ls
  | [], _, _, _ => trivial
  | l :: ls, it, k1, ⟨h1, h4⟩ => ⟨h1.at fun o q => k1 it o ⟨Nat.le_refl _, by simp⟩ q, After.stay (fun (c : Nat) (o : Obj) hc q => k1 c o ⟨by omega, by simp only [List.length_cons]; omega⟩ q) h4⟩
theorem After.get {k : Nat} {h : Heap} : ∀ {ls : List Addr} {it : Nat} {c : Nat}, After h k it ls → it ≤ c → c < it + ls.length → ∃ l, h.IsListIter c l k
  | [], it, c, _, h1, h2 => by simp at h2; omega
  | l :: ls, it, c, a, h1, h2 => by
    by_cases e : c = it
    · subst e; exact ⟨l, a.1⟩
    · exact a.2.get (by omega) (by simp only [List.length_cons] at h2; omega)
theorem Ready.after {B k : Nat} {h : Heap} : ∀ {ls : List Addr} {it : Nat} {xs : List Value}, Ready h B k it ls xs → After h k it ls
  | [], _, _, _ => trivial
  | _ :: _, _, _, ⟨_, _, _, h1, _, _, h4⟩ => ⟨h1, h4.after⟩
theorem Ready.length {B k : Nat} {h : Heap} : ∀ {ls : List Addr} {it : Nat} {xs : List Value}, Ready h B k it ls xs → xs.length = ls.length
  | [], _, _, r => by rw [show _ = [] from r]; rfl
  | _ :: _, _, _, ⟨_, _, e, _, _, _, h4⟩ => by rw [e, List.length_cons, List.length_cons, h4.length]
section
end
/-- the zip object: what it handed out last, whether it was held -/
def IsZ (h : Heap) (z TI TO : Nat) : Prop := ∃ (g0 : Value) (b : Bool), (g0 = .none ∨ ∃ T : Nat, g0 = rawInt T) ∧ h.get? z = some { cls := .type "zip", dict := none, data := .fields #[g0, .bool b, .bool false, .ref TI, .ref TO], slots := #[] }
theorem IsZ.at {h h' : Heap} {z TI TO : Nat} (x : IsZ h z TI TO) (e : ∀ o, h.get? z = some o → h'.get? z = some o) : IsZ h' z TI TO := let ⟨g, b, q, r⟩ := x; ⟨g, b, q, e _ r⟩
section
end
section
end
section
end
end ZL
set_option Elab.async false
set_option linter.all false
set_option maxRecDepth 100000
set_option maxHeartbeats 4000000
/-! Mp: zip(*rows), the rows lists or tuples. -/
namespace Mp
open PySem PySem.Spec PyProof.Rows L2
/-! ### on data -/
inductive RowRL (K : Frag) (w : Wd) : List Addr → List (List V) → List (List D) → Prop
  | nil : RowRL K w [] [] []
  | cons {a : Addr} {vs : List V} {ds : List D} {as : List Addr} {vss : List (List V)} {dss : List (List D)} : LAt K w a vs → Reps K w vs ds → RowRL K w as vss dss → RowRL K w (a :: as) (vs :: vss) (ds :: dss)
theorem RowRL.ext {K : Frag} {w w' : Wd} (e : Ext w w') : ∀ {ls : List Addr} {vss : List (List V)} {dss : List (List D)}, RowRL K w ls vss dss → RowRL K w' ls vss dss
  | _, _, _, .nil => .nil
  | _, _, _, .cons h r t => .cons (h.ext e) (r.ext e) (t.ext e)
section
end
end Mp
set_option Elab.async false
set_option linter.all false
set_option maxRecDepth 100000
set_option maxHeartbeats 4000000
/-! Mp: comprehensions of two clauses, starred items of a display. -/
namespace Mp
open PySem PySem.Spec PyProof.Rows L2
open Classical in
noncomputable def lcF2 (c : Src) (g : DG) (tt : DM Bool) (mi1 : DM Src) (g1 : DG) (tt1 : DM Bool) (te : DE) (vs1 : List Nat) (r : En) : List D → List D → Sto → Res (List D)
  | [], acc, s => if SrcOk c s then .ok acc s else .bad
  | d :: l, acc, s => if SrcOk c s then (match g d r s with
    | none => .bad
    | some p => (match tt p.1 p.2 with
      | .ok k s1 => if k = true then (match mi1 p.1 s1 with
        | .ok c1 s2 => (match lcF c1 g1 tt1 te (wipeE p.1 vs1) c1.its acc s2 with
          | .ok acc2 s3 => lcF2 c g tt mi1 g1 tt1 te vs1 r l acc2 s3
          | _ => .bad)
        | _ => .bad) else lcF2 c g tt mi1 g1 tt1 te vs1 r l acc s1
      | _ => .bad)) else .bad
noncomputable def lc2M (k : Bool) (mi : DM Src) (g : DG) (tt : DM Bool) (mi1 : DM Src) (g1 : DG) (tt1 : DM Bool) (te : DE) (vs vs1 : List Nat) : DE := bindM mi fun c => fun r s => match lcF2 c g tt mi1 g1 tt1 te vs1 (wipeE r vs) c.its [] s with
  | .ok acc s' => newL k acc s'
  | _ => .bad
section
end
/-- a list, a tuple, a text that is walked within -/
def srcJ (s : Sto) : D → Option Src
  | .tup l => some ⟨l, none⟩
  | .lst l => some ⟨l, none⟩
  | .rol l => some ⟨l, none⟩
  | .str z => some ⟨chars z, none⟩
  | .cel n => (match s[n]? with
    | some (some (.lst l)) => some ⟨l, some n⟩
    | _ => none)
  | _ => none
def seqJ (a : DE) : DM Src := bindM a fun x => fun _ s => okO s (srcJ s x)
section
end
section
end
/-! ### starred items -/
def starC (e : DE) (m : DM (List D)) : DM (List D) := bindM e fun x => bindM (fun _ s => okO s (seqOf s x)) fun l => bindM m fun ys => pureM (l ++ ys)
section
end
end Mp
set_option Elab.async false
set_option linter.all false
set_option maxRecDepth 100000
set_option maxHeartbeats 4000000
/-! Mp: a dict merged into an empty one (displays with two stars, calls with two stars). -/
namespace MmX
open PySem PySem.Spec PyProof.Rows L2
section
end
section
end
end MmX
namespace Mp
open PySem PySem.Spec PyProof.Rows L2
/-- {**e} -/
def sprM (e : DE) : DE := bindM e fun x => fun _ s => match dctOf s x with
  | some m => .ok (.dct m) s
  | none => .bad
section
end
end Mp
set_option Elab.async false
set_option linter.all false
set_option maxRecDepth 100000
set_option maxHeartbeats 4000000
/-! Mp: operators and comparisons by a class's own defs. -/
namespace OwI
open PySem PySem.Spec PyProof.Rows L2
section
variable {prog : Program} {w : World} {A : Around} {E : Value → Shared → Prop} {s : Shared} {K : PySem.W.Frag} {x C L f : Addr} {h₀ : Heap} {m : Str → Option Value} {ox : Obj} {od : Option Obj} {name : Str} {b tb : Value}
/-- a built-in def of object, found from an instance -/
theorem bound_obj {M : Model} {id : String} {args : List Value} {Q : Option Value → Shared → Prop} (X : K.In s.heap) (I : PySem.W.InstAt s.heap x ox C od) (hs : PySem.W.findIn K (.ref C) name = some (some (.builtin id)))
    (hb : ∀ self, bindSpecial (.builtin id) self = pure (.builtin id, [self])) (h : wpAny M A (call (.builtin id) (.ref x :: args)) (fun v => Q (some v)) E s) : wpAny M A (callSpecialIfBound? (.ref x) name args) Q E s := by
  simp only [callSpecialIfBound?, bindSpecialIfBound?]
  refine wpAny_holding (wpAny_bind (wpAny_bind (wpAny_bind (I.type.here ((PySem.W.looks_findIn X hs).here ?_)))))
  refine wpAny_bind (wpAny_askSetting (wpAny_ite ?_))
  have go : wpAny M A (call (.builtin id) ([.ref x] ++ args) >>= fun v => pure (some v)) Q E s := wpAny_bind (wpAny_mono h (fun v s' q => wpAny_pure q) fun _ _ q => q)
  simp only [hb]
  split
  · exact wpAny_bind (wpAny_pure (wpAny_pure (by exact go)))
  · exact wpAny_tryCatch (wpAny_bind (wpAny_pure (wpAny_pure (by exact go))))
theorem ne_slot : Slot "object" "__ne__" "object.__ne__" := Slot.of (T := "object") (name := "__ne__") (owner := "object") (n := "__ne__") (by rw [typeLookup_type, builtinLookup_eq_fast]; kernel_rfl) (by decide +kernel) (by decide +kernel) (by decide +kernel) (.inl (by decide +kernel)) (by rw [isSubtype_type]; kernel_rfl)
/-- x != b by the own __eq__ -/
theorem ne_K {Q : Value → Shared → Prop} (hu : A.units + 1 < cLine) (F : Fr h₀ L s.heap m) (X₀ : K.In h₀) (I : PySem.W.InstAt s.heap x ox C od) (hb : PySem.W.Looks (model prog w) s.heap (typeOf b) tb) (hn : PySem.W.notFirst K C tb = true)
    (hne : PySem.W.findIn K (.ref C) "__ne__" = some (some (.builtin "object.__ne__"))) (hob : PySem.W.subIn K (.ref C) (.type "object") = some true) (hs : PySem.W.findIn K (.ref C) "__eq__" = some (some (.ref f))) (hf : PySem.W.isFn K (.ref f) = true)
    (h : wpAny (model prog w) A.in1 (call (.ref f) [.ref x, b]) (fun v s' => ∃ k, v = .bool k ∧ Q (.bool (!k)) s') E s) : wpAny (model prog w) A (richCompare .NotEq (.ref x) b) Q E s := by
  have X := X₀.keeps F.keep
  have body : wpAny (model prog w) A.in1 (Builtin.«object.__ne__» ⟨[.ref x, b], []⟩) (fun fin s' => ∃ k, fin = .done (.ret (.bool k)) ∧ Q (.bool k) s') E s := by
    unfold Builtin.«object.__ne__»
    repeat (first
      | with_reducible refine wpAny_cRoomFor hu ?_
      | (refine wpAny_bind (m := callSpecialIfBound? (.ref x) (Str.ofString "__eq__") [b]) (PySem.W.ifBound_K X I hs hf (wpAny_mono h (fun r s' hr => by
          obtain ⟨k, rfl, q⟩ := hr
          repeat (first | exact ⟨_, rfl, q⟩ | exact wpAny_pure ⟨_, rfl, q⟩ | (refine wpAny_bind (m := truthy (.bool _)) (wpAny_truthy_bool ?_)) | wp_step)) fun _ _ e => e)))
      | wp_step)
  have one : wpAny (model prog w) A (tryCompare (.ref x) (cmpInfo .NotEq).2.1 b) (fun r s' => ∃ v, r = some v ∧ Q v s') E s := by
    unfold tryCompare
    refine wpAny_bind (bound_obj X I hne ne_slot.bind (wpAny_call (codeAny_call_builtin ne_slot.plain PySem.F.cmpEntry_ne (PySem.W.check_slot PySem.F.cmpKind_ne PySem.F.cmpSplit_ne (I.type.andThen (PySem.W.looks_subIn X hob)) (PySem.F.cmpArgs_ne _ _) ?_))))
    refine wpAny_mono body (fun fin s' z => ?_) fun _ _ e => e
    obtain ⟨k, rfl, q⟩ := z
    exact wpAny_pure ⟨_, rfl, q⟩
  unfold richCompare
  simp only [oneThing_ref]
  refine wpAny_holding (wpAny_bind (wpAny_cRoomFor (Nat.lt_of_succ_lt hu) ?_))
  refine wpAny_bind (I.type.here (wpAny_bind (hb.here ?_)))
  have fin : wpAny (model prog w) A (tryCompare (.ref x) (cmpInfo .NotEq).2.1 b) (fun r s' => ∃ v, r = some v ∧ Q v s') E s := one
  split
  · rename_i q
    have e : PySem.W.subIn K tb (.ref C) = some false := by
      rcases Bool.or_eq_true_iff.mp hn with e | e
      · rw [beq_iff_eq.mp e] at q
        simp at q
      · exact beq_iff_eq.mp e
    refine wpAny_bind ((PySem.W.looks_subIn X e).here ?_)
    simp only [Bool.false_eq_true, if_false]
    refine wpAny_bind (wpAny_mono fin (fun r s' z => ?_) fun _ _ e => e)
    obtain ⟨v, rfl, q⟩ := z
    exact wpAny_pure q
  · refine wpAny_bind (wpAny_pure ?_)
    simp only [Bool.false_eq_true, if_false]
    refine wpAny_bind (wpAny_mono fin (fun r s' z => ?_) fun _ _ e => e)
    obtain ⟨v, rfl, q⟩ := z
    exact wpAny_pure q
end
end OwI
namespace Mp
open PySem PySem.Spec PyProof.Rows L2
/-- an operator: an own def where both are instances of one class, otherwise f -/
def ownD (tb : List (Str × DF)) (f : D → D → Sto → Res D) (x y : D) (s : Sto) : Res D := match insOf s x with
  | some (C, _) => (match insOf s y with
    | some (C', _) => if C' = C then (match tb.lookup C with
      | some m => m [x, y] s
      | none => .bad) else .bad
    | none => .bad)
  | none => f x y s
def negB : Res D → Res D
  | .ok (.bl b) s => .ok (.bl (!b)) s
  | .ok _ _ => .bad
  | .exc C fs s => .exc C fs s
  | .bad => .bad
/-- == and != by an own __eq__ where both are instances -/
def eqO (neg : Bool) (tb : List ((Str × Str) × DF)) (x y : D) (s : Sto) : Res D := match insOf s x with
  | some (C, _) => (match insOf s y with
    | some (C', _) => (match tb.lookup (C, C') with
      | some m => if neg then negB (m [x, y] s) else m [x, y] s
      | none => .bad)
    | none => .bad)
  | none => eqG neg x y s
section
variable {X : Cx} {W : WX} {a b : Expr} {pos : Pos} {ma mb : DE}
/-- the rows: the def, and the class before the others of its own order -/
inductive OTab (X : Cx) (m : Str) : List (Str × DF) → Prop
  | nil : OTab X m []
  | cons {C : Str} {f : DF} {r : List (Str × DF)} : MethD X C m f → PySem.W.selfFirst X.K (He.ga X.K C) = true → OTab X m r → OTab X m ((C, f) :: r)
theorem OTab.get {m C : Str} {f : DF} : ∀ {tb : List (Str × DF)}, OTab X m tb → tb.lookup C = some f → MethD X C m f ∧ PySem.W.selfFirst X.K (He.ga X.K C) = true
  | _, .nil, h => by simp at h
  | _, .cons (C := E) h1 h2 r, h => by
    by_cases e : C = E
    · subst e
      rw [List.lookup_cons_self] at h
      cases h
      exact ⟨h1, h2⟩
    · rw [List.lookup_cons, show (C == E) = false from beq_eq_false_iff_ne.mpr e] at h
      exact r.get h
/-- rows for two classes -/
inductive QTab (X : Cx) (neg : Bool) : List ((Str × Str) × DF) → Prop
  | nil : QTab X neg []
  | cons {C C' : Str} {f : DF} {r : List ((Str × Str) × DF)} : MethD X C "__eq__" f → (∃ k, neg = true → (∃ g, Meth X.K (He.ga X.K C) "__eq__" g ∧ FnD X.prog X.w X.K X.mg X.base k g f ∧ Rm (k + 1) X.A) ∧ PySem.W.findIn X.K (.ref (He.ga X.K C)) "__ne__" = some (some (.builtin "object.__ne__")) ∧ PySem.W.subIn X.K (.ref (He.ga X.K C)) (.type "object") = some true) → PySem.W.notFirst X.K (He.ga X.K C) (.ref (He.ga X.K C')) = true → QTab X neg r → QTab X neg (((C, C'), f) :: r)
theorem QTab.get {neg : Bool} {C C' : Str} {f : DF} : ∀ {tb : List ((Str × Str) × DF)}, QTab X neg tb → tb.lookup (C, C') = some f → MethD X C "__eq__" f ∧ (∃ k, neg = true → (∃ g, Meth X.K (He.ga X.K C) "__eq__" g ∧ FnD X.prog X.w X.K X.mg X.base k g f ∧ Rm (k + 1) X.A) ∧ PySem.W.findIn X.K (.ref (He.ga X.K C)) "__ne__" = some (some (.builtin "object.__ne__")) ∧ PySem.W.subIn X.K (.ref (He.ga X.K C)) (.type "object") = some true) ∧ PySem.W.notFirst X.K (He.ga X.K C) (.ref (He.ga X.K C')) = true
  | _, .nil, h => by simp at h
  | _, .cons (C := E) (C' := E') h1 h2 h3 r, h => by
    by_cases e : (C, C') = (E, E')
    · cases e
      rw [List.lookup_cons_self] at h
      cases h
      exact ⟨h1, h2, h3⟩
    · rw [List.lookup_cons, show ((C, C') == (E, E')) = false from beq_eq_false_iff_ne.mpr e] at h
      exact r.get h
/-- what stands behind an operand's run -/
def OpP (X : Cx) (W : WX) (t : L2.St) (Q : VK) (f : D → D → Sto → Res D) (x y : V) (H : Hp) : Prop := ∃ s w d e, w.H = H ∧ StR X.K w s ∧ Rep X.K w x d ∧ Rep X.K w y e ∧ Post X.K (Rep X.K) w (fun c d H' => W c d t H') Q (f d e s)
theorem opP_of {f : D → D → Sto → Res D} {r : En} {s : Sto} {w : Wd} {t : L2.St} {Q : VK} (env : EnvR X.K w r t) (st : StR X.K w s) (hp : Post X.K (Rep X.K) w (fun c d H' => W c d t H') Q (binM f ma mb r s)) :
    tE X.K W ma t w.H fun x H1 => tE X.K W mb t H1 fun y H2 => OpP X W t Q f x y H2 :=
  hp.bind env st fun x d s1 w1 e1 st1 r1 hp1 => hp1.bind (env.ext e1) st1 fun y d2 s2 w2 e2 st2 r2 hp2 => ⟨s2, w2, d, d2, rfl, st2, r1.ext e2, r2, hp2⟩
/-- a def run one level below -/
theorem run_in1 {k : Nat} {f : Addr} {pins : List (Addr × Obj)} {t : L2.St} {H : Hp} {s : Shared} {Q : VK} {E : XK} {us : List Value} {vs : List V} {sp : Sp} {CX : CXT} (F : FnG X.prog X.w X.K X.mg X.base CX k f sp) (hr : Rm (k + 1) X.A) (hx : PassesAt CX X t E) (I : Inv X pins t H s) (r : Vals vs us) (h : sp vs H Q E) :
    wpAny (model X.prog X.w) X.A.in1 (call (.ref f) us) (EP X pins t Q) X.xe s := by
  refine wpAny_call (codeAny_mono (F X.A.in1 X.stack s H us vs Q E hr.in1 I.env0.in1 r h) fun z s' hz => ?_)
  cases z with
  | error er => exact hx pins H s er s' I hz
  | ok fl =>
    cases fl with
    | ret u => exact I.after hz
    | _ => exact hz.elim
theorem neg_post {K : Frag} {w : Wd} {E : XK} {Q : VK} {r : Res D} (hp : Post K (Rep K) w E Q (negB r)) : Post K (Rep K) w E (fun v H' => ∃ k, v = V.bl k ∧ Q (.bl (!k)) H') r := by
  cases r with
  | ok x s =>
    intro v w' e st q
    cases q with
    | bl b => exact ⟨b, rfl, hp (.bl (!b)) w' e st (.bl _)⟩
    | _ => exact hp.elim
  | exc C fs s => exact hp
  | bad => exact hp
theorem eqO_run {tb : List ((Str × Str) × DF)} (tk : Takes X W) (hu : X.A.units + 64 < cLine) (T : QTab X false tb) {pins : List (Addr × Obj)} {s2 : Shared} {t : L2.St} {H2 : Hp} {x y : V} {v u : Value} {Q : VK}
    (I2 : Inv X pins t H2 s2) (rx : RelV x v) (ry : RelV y u) (q : OpP X W t Q (eqO false tb) x y H2) : wpAny (model X.prog X.w) X.A (compareOp .Eq v u) (EP X pins t Q) X.xe s2 := by
  obtain ⟨so, w, d, e, rfl, st, r1, r2, hp⟩ := q
  unfold eqO at hp
  cases e1 : insOf so d with
  | none =>
    rw [e1] at hp
    exact (OpR.or op_eq (op_eqD hu)) pins s2 t w.H x y v u Q I2 rx ry (v_eqG (X := X) w so x y d e Q _ st r1 r2 hp)
  | some c1 =>
    obtain ⟨C, fs⟩ := c1
    rw [e1] at hp
    dsimp only at hp
    cases e2 : insOf so e with
    | none => rw [e2] at hp; exact hp.elim
    | some c2 =>
      obtain ⟨C', gs⟩ := c2
      rw [e2] at hp
      dsimp only at hp
      cases e3 : tb.lookup (C, C') with
      | none => rw [e3] at hp; exact hp.elim
      | some mf =>
        rw [e3] at hp
        dsimp only at hp
        obtain ⟨⟨hc, g, kk, hm, F, hr⟩, _, hnf⟩ := T.get e3
        obtain ⟨p, dx, l, rfl, hh, kv⟩ := insOf_ok st r1 e1
        obtain ⟨p', dx', l', rfl, hh', kv'⟩ := insOf_ok st r2 e2
        cases rx
        cases ry
        obtain ⟨mA, J, _⟩ := ins_get I2.hok hh
        obtain ⟨mB, J', _⟩ := ins_get I2.hok hh'
        obtain ⟨od, J, _⟩ := J.look
        obtain ⟨od', J', _⟩ := J'.look
        obtain ⟨m, hF⟩ := I2.fr
        show wpAny _ _ (richCompare .Eq _ _) _ _ _
        refine PySem.W.cmp_K (op := .Eq) (tb := .ref (He.ga X.K C')) hr.rm.units0 hF I2.ok.mod.kin J J'.type hnf hm.at_ hm.fn ?_
        refine wpAny_mono (run_fnRD (us := [.ref p, .ref p']) (vs := [.ref p, .ref p']) F hr (passAt tk t) I2 (.cons rfl (.cons rfl .nil)) (sp_post (.cons r1 (.cons r2 .nil)) st hp)) (fun z s' hz => ?_) fun _ _ x => x
        obtain ⟨z', H', I', rz, qz⟩ := hz
        exact SlX.cmpback rz ⟨z', H', I', rz, qz⟩
theorem neO_run {tb : List ((Str × Str) × DF)} (tk : Takes X W) (hu : X.A.units + 64 < cLine) (T : QTab X true tb) {pins : List (Addr × Obj)} {s2 : Shared} {t : L2.St} {H2 : Hp} {x y : V} {v u : Value} {Q : VK}
    (I2 : Inv X pins t H2 s2) (rx : RelV x v) (ry : RelV y u) (q : OpP X W t Q (eqO true tb) x y H2) : wpAny (model X.prog X.w) X.A (compareOp .NotEq v u) (EP X pins t Q) X.xe s2 := by
  obtain ⟨so, w, d, e, rfl, st, r1, r2, hp⟩ := q
  unfold eqO at hp
  cases e1 : insOf so d with
  | none =>
    rw [e1] at hp
    exact (OpR.or op_ne (op_neD hu)) pins s2 t w.H x y v u Q I2 rx ry (v_eqG (X := X) w so x y d e Q _ st r1 r2 hp)
  | some c1 =>
    obtain ⟨C, fs⟩ := c1
    rw [e1] at hp
    dsimp only at hp
    cases e2 : insOf so e with
    | none => rw [e2] at hp; exact hp.elim
    | some c2 =>
      obtain ⟨C', gs⟩ := c2
      rw [e2] at hp
      dsimp only at hp
      cases e3 : tb.lookup (C, C') with
      | none => rw [e3] at hp; exact hp.elim
      | some mf =>
        rw [e3] at hp
        dsimp only at hp
        rw [if_pos rfl] at hp
        obtain ⟨_, ⟨kk, hk⟩, hnf⟩ := T.get e3
        obtain ⟨⟨g, hm, F, hr⟩, hne, hob⟩ := hk rfl
        obtain ⟨p, dx, l, rfl, hh, kv⟩ := insOf_ok st r1 e1
        obtain ⟨p', dx', l', rfl, hh', kv'⟩ := insOf_ok st r2 e2
        cases rx
        cases ry
        obtain ⟨mA, J, _⟩ := ins_get I2.hok hh
        obtain ⟨mB, J', _⟩ := ins_get I2.hok hh'
        obtain ⟨od, J, _⟩ := J.look
        obtain ⟨od', J', _⟩ := J'.look
        obtain ⟨m, hF⟩ := I2.fr
        show wpAny _ _ (richCompare .NotEq _ _) _ _ _
        refine OwI.ne_K (tb := .ref (He.ga X.K C')) (by omega) hF I2.ok.mod.kin J J'.type hnf hne hob hm.at_ hm.fn ?_
        refine wpAny_mono (run_in1 (us := [.ref p, .ref p']) (vs := [.ref p, .ref p']) F hr (passAt tk t) I2 (.cons rfl (.cons rfl .nil)) (sp_post (.cons r1 (.cons r2 .nil)) st (neg_post hp))) (fun z s' hz => ?_) fun _ _ x => x
        obtain ⟨z', H', I', rz, k, rfl, qz⟩ := hz
        cases rz
        exact ⟨k, rfl, .bl (!k), H', I', rfl, qz⟩
theorem opT_of {f : D → D → Sto → Res D} {r : En} {s : Sto} {w : Wd} {t : L2.St} {Q : Bool → Hp → Prop} (env : EnvR X.K w r t) (st : StR X.K w s) (hp : Post X.K (fun _ (b c : Bool) => b = c) w (fun c d H' => W c d t H') Q (blM (binM f ma mb) r s)) :
    tE X.K W ma t w.H fun x H1 => tE X.K W mb t H1 fun y H2 => OpP X W t (fun v H' => ∃ k, v = V.bl k ∧ Q k H') f x y H2 := by
  have e : blM (binM f ma mb) = bindM ma (fun x => bindM mb fun y => bindM (fun _ s => f x y s) fun z => fun _ s => match z with | .bl b => .ok b s | _ => .bad) := by
    unfold blM binM
    rw [bind_assoc]
    congr 1
    funext x
    first
      | exact bind_assoc ..
      | (rw [bind_assoc]; done)
      | (rw [bind_assoc]; rfl)
  rw [e] at hp
  exact hp.bind env st fun x d s1 w1 e1 st1 r1 hp1 => hp1.bind (env.ext e1) st1 fun y d2 s2 w2 e2 st2 r2 hp2 => ⟨s2, w2, d, d2, rfl, st2, r1.ext e2, r2, by
    unfold bindM at hp2
    dsimp only at hp2
    cases e3 : f d d2 s2 with
    | ok z s3 =>
      rw [e3] at hp2
      dsimp only at hp2
      intro v w' e st q
      cases q with
      | bl b => exact ⟨b, rfl, hp2 b w' e st rfl⟩
      | _ => exact hp2.elim
    | exc C fs s3 => rw [e3] at hp2; exact hp2
    | bad => rw [e3] at hp2; exact hp2⟩
end
end Mp
set_option Elab.async false
set_option linter.all false
set_option maxRecDepth 100000
set_option maxHeartbeats 4000000
/-! Mp: dict(pairs), dict(d); get, items of dicts. -/
namespace Mp
open PySem PySem.Spec PyProof.Rows L2
section
end
section
end
end Mp
set_option Elab.async false
set_option linter.all false
set_option maxRecDepth 100000
set_option maxHeartbeats 4000000
/-! Mp: a tuple times an int; operators by own defs, the usual ones behind them; facts of own comparisons. -/
namespace TmX
open PySem PySem.Spec PyProof.Rows L2
open AutoSeq1 (wpAny_loadPart')
section
end
end TmX
namespace Mp
open PySem PySem.Spec PyProof.Rows L2
section
end
def ckNeq (x : Str) (K : Frag) : Bool := (match PySem.W.findIn K (.ref (He.ga K x)) "__ne__" with
  | some (some (.builtin n)) => n == "object.__ne__"
  | _ => false) && decide (PySem.W.subIn K (.ref (He.ga K x)) (.type "object") = some true)
theorem ckNeq_ok {x : Str} {K : Frag} (h : ckNeq x K = true) : PySem.W.findIn K (.ref (He.ga K x)) "__ne__" = some (some (.builtin "object.__ne__")) ∧ PySem.W.subIn K (.ref (He.ga K x)) (.type "object") = some true := by
  unfold ckNeq at h
  obtain ⟨h1, h2⟩ := Bool.and_eq_true_iff.mp h
  refine ⟨?_, of_decide_eq_true h2⟩
  split at h1
  · rename_i n e
    rw [e, eq_of_beq h1]
  · cases h1
end Mp
set_option Elab.async false
set_option linter.all false
set_option maxRecDepth 100000
/-! Mp: the head's run, looked at thrice. -/
noncomputable section
namespace Mp
open PySem PySem.W PySem.Calls PyProof.Rows HandSHeadRun
def hdA (r : OpenRow) (M : Nat) (w : World) (os : OsState) : Option Bool := (endF (stepQ (denQ tabQ) r.prog w) M r.prog w os).map fun s => looksF r.prog (boot_heap w.params) s.abs
def hdB (r : OpenRow) (q : Program) (M : Nat) (loose : List PySem.Str) (w : World) (os : OsState) := (endF (stepQ (denQ tabQ) r.prog w) M r.prog w os).map fun s => seenQ q loose (importedModules r.prog.main.body) (fun s => xlAt q [] s && recOk r.toRowW.records s) s.abs
def hdC {T : Type} (r : OpenRow) (ob : SharedT → T) (M : Nat) (w : World) (os : OsState) : Option T := (endF (stepQ (denQ tabQ) r.prog w) M r.prog w os).map ob
theorem run_split {r : OpenRow} {q : Program} {H : Hook} {ob : SharedT → H.α} {M : Nat} {loose : List PySem.Str} {w : World} (a : ∀ os, hdA r M w os = some true) (b : ∀ os, hdB r q M loose w os = some (openGood q loose)) (c : ∀ os, hdC r ob M w os = some (H.val w)) : RunEq r q H ob M loose w := fun os => by
  have ha := a os
  have hb := b os
  have hc := c os
  unfold hdA at ha
  unfold hdB at hb
  unfold hdC at hc
  cases e : endF (stepQ (denQ tabQ) r.prog w) M r.prog w os with
  | none => rw [e] at ha; cases ha
  | some s =>
    rw [e] at ha hb hc
    have ha := Option.some.inj ha
    have hb := Option.some.inj hb
    have hc := Option.some.inj hc
    show some (looksF r.prog (boot_heap w.params) s.abs, seenQ q loose (importedModules r.prog.main.body) (fun s => xlAt q [] s && recOk r.toRowW.records s) s.abs, ob s) = _
    dsimp only at ha hb
    rw [ha, hb, hc]
end Mp
set_option Elab.async false
set_option linter.all false
set_option maxRecDepth 100000
/-! Mp: the head's third look, in parts. -/
noncomputable section
namespace Mp
open PySem PySem.W PySem.Calls PyProof.Rows HandSHeadRun
def fgM (n : Nat) (s : SharedT) : Frag := He.frG (getT s) (asM (getT s) n)
section
variable {r : OpenRow} {M : Nat} {w : World} {os : OsState} {T U : Type}
theorem hdC_pair {f : SharedT → T} {g : SharedT → U} {x : T} {y : U} (a : hdC r f M w os = some x) (b : hdC r g M w os = some y) : hdC r (fun s => (f s, g s)) M w os = some (x, y) := by
  unfold hdC at *
  cases e : endF (stepQ (denQ tabQ) r.prog w) M r.prog w os with
  | none => rw [e] at a; cases a
  | some s =>
    rw [e] at a b
    have a := Option.some.inj a
    have b := Option.some.inj b
    show some (f s, g s) = _
    rw [a, b]
theorem hdC_and {f g : SharedT → Bool} (a : hdC r f M w os = some true) (b : hdC r g M w os = some true) : hdC r (fun s => f s && g s) M w os = some true := by
  unfold hdC at *
  cases e : endF (stepQ (denQ tabQ) r.prog w) M r.prog w os with
  | none => rw [e] at a; cases a
  | some s =>
    rw [e] at a b
    have a := Option.some.inj a
    have b := Option.some.inj b
    show some (f s && g s) = _
    rw [a, b]
    rfl
theorem hdC_all {X : Type} {F : SharedT → X} {l m : List (X → Bool)} (a : hdC r (fun s => l.all fun f => f (F s)) M w os = some true) (b : hdC r (fun s => m.all fun f => f (F s)) M w os = some true) : hdC r (fun s => (l ++ m).all fun f => f (F s)) M w os = some true := by
  have h := hdC_and a b
  have e : (fun s : SharedT => (l ++ m).all fun f => f (F s)) = fun s => (l.all fun f => f (F s)) && (m.all fun f => f (F s)) := funext fun s => List.all_append
  rw [e]
  exact h
end
end Mp
set_option Elab.async false
set_option linter.all false
set_option maxRecDepth 100000
set_option maxHeartbeats 4000000
/-! Mp: defs with a parameter of two stars; calls with keywords for it. -/
namespace KwX
open PySem PySem.Spec PyProof.Rows L2
/-! ### the dict is filled -/
section
variable {prog : Program} {w : World} {A : Around} {E : Value → Shared → Prop} {d : Addr}
def kK {T : Type} (l : List (Str × T)) : List (Key × T) := l.map fun p => (.inr p.1, p.2)
end
/-! ### a new object laid ahead of a def's body, in more than one step -/
section
end
end KwX
namespace Mp
open PySem PySem.Spec PyProof.Rows L2
/-- the keys as texts -/
def kS : List (Key × D) → Option (List (Str × D))
  | [] => some []
  | (.inr k, d) :: l => (kS l).map fun r => (k, d) :: r
  | (.inl _, _) :: _ => none
/-- values by position, values by keywords -/
def spDK (K : Frag) (m : DF) (vs : List V) (kvs : List (Str × V)) : Hp → VK → XK → Prop := fun H Q E => ∃ ds dks so u, u.H = H ∧ Reps K u vs ds ∧ KVR K u kvs dks ∧ StR K u so ∧ Post K (Rep K) u E Q (m (ds ++ [.dct (KwX.kK dks)]) so)
def FnDK (P : Program) (w : World) (K : Frag) (mg : Str → Option Value) (base : Heap) (k : Nat) (f : Addr) (m : DF) : Prop :=
  ∀ (A : Around) (outer : List Env) (s : Shared) (H : Hp) (us : List Value) (vs : List V) (kws : List (Str × Value)) (kvs : List (Str × V)) (Q : VK) (E : XK), Rm k A → Env0 P w K mg base A outer s H → Vals vs us → KV kvs kws → spDK K m vs kvs H Q E →
    codeAny (model P w) A (.call (.ref f) ⟨us, kws⟩) (CR (L2.CX P w) outer P w H s Q E) s
theorem FnDK.mono {P : Program} {w : World} {K : Frag} {mg : Str → Option Value} {base : Heap} {j k : Nat} {f : Addr} {m : DF} (F : FnDK P w K mg base j f m) (h : j ≤ k) : FnDK P w K mg base k f m := fun A outer s H us vs kws kvs Q E hr => F A outer s H us vs kws kvs Q E (hr.mono h)
section
end
end Mp
set_option Elab.async false
set_option linter.all false
set_option maxRecDepth 100000
set_option maxHeartbeats 4000000
/-! Mp: an own class called with keywords, with a dict behind two stars. -/
namespace KwX
open PySem PySem.Spec PyProof.Rows L2
section
end
section
end
section
end
end KwX
namespace Mp
open PySem PySem.Spec PyProof.Rows L2
/-- arguments by position, then a dict of keywords -/
def kwA (a : DM (List D)) (b : DM (List (Str × D))) : DM (List D) := bindM a fun ds => bindM b fun l => pureM (ds ++ [.dct (KwX.kK l)])
/-- **e -/
def sprK (e : DE) : DM (List (Str × D)) := bindM e fun x => fun _ s => match dctOf s x with
  | some m => (match kS m with
    | some l => .ok l s
    | none => .bad)
  | none => .bad
/-- k = e, .. -/
def kwM (ks : List Str) (b : DM (List D)) : DM (List (Str × D)) := bindM b fun es => pureM (ks.zip es)
section
/-! ### keywords that are written -/
end
end Mp
set_option Elab.async false
set_option linter.all false
set_option maxRecDepth 100000
set_option maxHeartbeats 4000000
/-! Mp: dict.get, list(d), max(xs), sorted texts of any number, a dict held against an empty one. -/
namespace Mp
open PySem PySem.Spec PyProof.Rows L2
/-! ### d.get(k, x) -/
def getM (o k x : DE) : DE := bindM o fun d => fun r s => match dctOf s d with
  | none => .bad
  | some _ => (bindM k fun y => bindM x fun z => fun _ s => match dctOf s d with
    | some m => (match keyD y with
      | some k => .ok ((getK m k).getD z) s
      | none => .bad)
    | none => .bad) r s
section
end
/-! ### sorted(xs) of texts, any number of them -/
section
end
/-! ### list(d) -/
section
end
/-! ### max(xs) of ints -/
section
end
/-! ### d == {} -/
section
end
/-! ### xs * n, a list of one's own -/
section
end
end Mp
set_option Elab.async false
set_option linter.all false
set_option maxRecDepth 100000
set_option maxHeartbeats 4000000
/-! Mp: sorted(xs, key=f), f a method of an own object or a function of one's own: the sort, over any law J that the calls of f keep. -/
namespace SkJ
open PySem PySem.W PySem.Calls PyProof.Rows
section
end
end SkJ
set_option Elab.async false
set_option linter.all false
set_option maxRecDepth 100000
set_option maxHeartbeats 4000000
/-! Mp: sorted(xs, key=o.m) as a rule. -/
namespace Mp
open PySem PySem.Spec PyProof.Rows L2
abbrev KP := Int × Str
def kP (p : KP) : PyData := .tuple [.int p.1, .str p.2]
def keysF (f : DF) (y : D) : List D → List KP → Sto → Res (List KP)
  | [], kd, s => .ok kd s
  | d :: l, kd, s => match f [y, d] s with
    | .ok (.tup [.int c, .str z]) s' => keysF f y l (kd ++ [(c, z)]) s'
    | _ => .bad
noncomputable def outK (kd : List KP) (l : List D) : List D := ((kd.zip l).mergeSort (PySem.W.dataLe false fun p => kP p.1)).map (·.2)
/-- the sort of the items x of the object y -/
noncomputable def sortF (f : DF) : DF := fun ds s => match ds with
  | [y, x] => (match lstOf s x with
    | some l => (match keysF f y l [] s with
      | .ok kd s' => .ok (.lst (outK kd l)) s'
      | _ => .bad)
    | none => .bad)
  | _ => .bad
section
end
end Mp
set_option Elab.async false
set_option linter.all false
set_option maxRecDepth 100000
set_option maxHeartbeats 4000000
/-! Mp: sorted(xs, key=o.m): the rule. -/
namespace Mp
open PySem PySem.Spec PyProof.Rows L2
structure MethK (X : Cx) (C m : Str) (mf : DF) : Prop where
  cls : Cls X.K (He.ga X.K C)
  ex : ∃ (g : Addr) (k : Nat), BMeth X.K (He.ga X.K C) m g ∧ FnD X.prog X.w X.K X.mg X.base k g mf ∧ Rm (k + 2) X.A
inductive KTab (X : Cx) (m : Str) : List (Str × DF) → Prop
  | nil : KTab X m []
  | cons {C : Str} {f : DF} {r : List (Str × DF)} : MethK X C m f → KTab X m r → KTab X m ((C, f) :: r)
theorem KTab.get {X : Cx} {m C : Str} {f' : DF} : ∀ {tb : List (Str × DF)}, KTab X m tb → (tb.map fun p => (p.1, sortF p.2)).lookup C = some f' → ∃ f, f' = sortF f ∧ MethK X C m f
  | _, .nil, h => by simp at h
  | _, .cons (C := E) (f := f) h1 r, h => by
    rw [List.map_cons] at h
    by_cases e : C = E
    · subst e
      rw [List.lookup_cons_self] at h
      cases h
      exact ⟨f, rfl, h1⟩
    · have hb : (C == E) = false := by simpa using e
      rw [List.lookup_cons, hb] at h
      exact r.get h
section
end
end Mp
set_option Elab.async false
set_option linter.all false
set_option maxRecDepth 100000
set_option maxHeartbeats 4000000
/-! Mp: < of two keys (number, text). -/
namespace Mp
open PySem PySem.Spec PyProof.Rows L2
section
end
end Mp
set_option Elab.async false
set_option linter.all false
set_option maxRecDepth 100000
set_option maxHeartbeats 4000000
/-! Mp: list(d.values()), list(d.items()). -/
namespace Mp
open PySem PySem.Spec PyProof.Rows L2 LiI
section
end
/-! the combinators -/
section
end
section
end
end Mp
set_option Elab.async false
set_option linter.all false
set_option maxRecDepth 100000
set_option maxHeartbeats 4000000
/-! Mp: repr of whole numbers of up to 4300 digits, and of lists and tuples of them. -/
namespace Mp
open PySem PySem.Spec PyProof.Rows L2
open PySem.Builtin
/-- nobody has set the limit of digits -/
def BigD (K : Frag) : Prop := PySem.W.nsIn K cStatics "sys.int_max_str_digits" = some none
theorem no_digits {X : Cx} {pins : List (Addr × Obj)} {t : L2.St} {H : Hp} {s : Shared} (I : Inv X pins t H s) (hB : BigD X.K) : s.heap.NoDigits := by
  obtain ⟨mc, g, _⟩ := I.nolimit
  exact ⟨mc, g, PySem.W.ns_none_of I.kIn g hB⟩
section
section
end
end
section
end
abbrev ckBig : Frag → Bool := fun K => match PySem.W.nsIn K cStatics "sys.int_max_str_digits" with
  | some none => true
  | _ => false
theorem Fx.big {P : Program} {fb : List (Frag → Bool)} {fn : List DefM} {K : Frag} {mg : Str → Option Value} (Z : Fx P fb fn K mg) (i : Nat) (h : fb[i]? = some ckBig) : BigD K := by
  have f := Z.fact i h
  dsimp only [ckBig] at f
  unfold BigD
  split at f
  · assumption
  · cases f
end Mp
set_option Elab.async false
set_option linter.all false
set_option maxRecDepth 100000
set_option maxHeartbeats 4000000
/-! Mp: a list comprehension whose element may raise. -/
namespace L2
open PySem PySem.Spec PyProof.Rows
section
end
section
end
section
end
end L2
namespace Mp
open PySem PySem.Spec PyProof.Rows L2
section
end
end Mp
set_option Elab.async false
set_option linter.all false
set_option maxRecDepth 100000
set_option maxHeartbeats 4000000
/-! Mp: enumerate(text). -/
namespace L2
open PySem PySem.Spec PyProof.Rows
section
end
end L2
namespace Mp
open PySem PySem.Spec PyProof.Rows L2
section
end
section
end
end Mp
set_option Elab.async false
set_option linter.all false
set_option maxRecDepth 100000
set_option maxHeartbeats 4000000
/-! Mp: zip of a list with a tuple. -/
namespace L2
open PySem PySem.Spec PyProof.Rows
end L2
namespace Mp
open PySem PySem.Spec PyProof.Rows L2
section
end
section
end
end Mp
set_option Elab.async false
set_option linter.all false
set_option maxRecDepth 100000
set_option maxHeartbeats 4000000
/-! Mp: methods with a parameter of two stars, called with keywords; str.index. -/
namespace Mp
open PySem PySem.Spec PyProof.Rows L2
section
variable {X : Cx} {W : WX} {o : Expr} {pos apos kp : Pos} {mo : DE} {m : Str} {k : Nat} {f : Addr} {mf : DF} {kws : List Keyword}
structure WMethKD (X : Cx) (C m : Str) (mf : DF) : Prop where
  cls : Cls X.K (He.ga X.K C)
  ex : ∃ (g : Addr) (k : Nat), Meth X.K (He.ga X.K C) m g ∧ FnDK X.prog X.w X.K X.mg X.base k g mf ∧ Rm k X.A
inductive WTabK (X : Cx) (m : Str) : List (Str × DF) → Prop
  | nil : WTabK X m []
  | cons {C : Str} {f : DF} {r : List (Str × DF)} : WMethKD X C m f → WTabK X m r → WTabK X m ((C, f) :: r)
theorem WTabK.get {C : Str} {f : DF} : ∀ {tb : List (Str × DF)}, WTabK X m tb → tb.lookup C = some f → WMethKD X C m f
  | _, .nil, h => by simp at h
  | _, .cons (C := E) h1 r, h => by
    by_cases e : C = E
    · subst e
      rw [List.lookup_cons_self] at h
      cases h
      exact h1
    · have hb : (C == E) = false := by simpa using e
      rw [List.lookup_cons, hb] at h
      exact r.get h
end
/-! ### list(text) -/
section
end
end Mp
set_option Elab.async false
set_option linter.all false
set_option maxRecDepth 100000
set_option maxHeartbeats 4000000
/-! Mp: dict(zip(keys, values)) of two lists. -/
namespace L2
open PySem PySem.Spec PyProof.Rows
end L2
namespace Mp
open PySem PySem.Spec PyProof.Rows L2
section
end
section
end
end Mp
set_option Elab.async false
set_option linter.all false
set_option maxRecDepth 100000
set_option maxHeartbeats 4000000
/-! Mp: split, upper, f-strings, int(text), xs[::-1], defs called by keywords in their order. -/
namespace Mp
open PySem PySem.Spec PyProof.Rows L2
def intXD (ds : List D) (s : Sto) : Res D := match ds with
  | [.str a] => if a.length ≤ 640 then (match PySem.intText? a with
    | some n => .ok (.int n) s
    | none => .bad) else .bad
  | _ => intD ds s
section
variable {X : Cx} {W : WX} {a e v1 v2 : Expr} {rest es : List Expr} {pos p apos : Pos} {ma mo : DE}
theorem call_intX : CallR X (.type "int") (fun xs H Q => (∃ a n, xs = [.str a] ∧ PySem.intText? a = some n ∧ a.length ≤ 640 ∧ Q (.int n) H) ∨ ((∃ i, xs = [.int i] ∧ Q (.int i) H) ∨ ∃ k, xs = [.bl k] ∧ Q (.int (if k then 1 else 0)) H)) := CallR.or call_int_str call_int1
theorem v_intX : VRC X.K (fun xs H Q => (∃ a n, xs = [.str a] ∧ PySem.intText? a = some n ∧ a.length ≤ 640 ∧ Q (.int n) H) ∨ ((∃ i, xs = [.int i] ∧ Q (.int i) H) ∨ ∃ k, xs = [.bl k] ∧ Q (.int (if k then 1 else 0)) H)) intXD := fun w s xs ds Q E st rs hp => by
  unfold intXD at hp
  split at hp
  · rename_i a
    split at hp
    · rename_i hl
      split at hp
      · rename_i n hn
        obtain ⟨y, rfl, ry⟩ := rs.one
        cases ry
        exact .inl ⟨a, n, rfl, hn, hl, hp.pure st (.int _)⟩
      · exact hp.elim
    · exact hp.elim
  · exact .inr (v_int w s xs _ Q E st rs hp)
/-! ### f-strings -/
end
/-! ### a def called by keywords, in the order of its parameters -/
def FnN (P : Program) (w : World) (K : Frag) (mg : Str → Option Value) (base : Heap) (k : Nat) (f : Addr) (ps : List Str) (m : DF) : Prop :=
  ∀ (A : Around) (outer : List Env) (s : Shared) (H : Hp) (us : List Value) (vs : List V) (Q : VK) (E : XK), Rm k A → Env0 P w K mg base A outer s H → Vals vs us → vs.length = ps.length → spD K m vs H Q E → codeAny (model P w) A (.call (.ref f) ⟨[], ps.zip us⟩) (CR (L2.CX P w) outer P w H s Q E) s
section
variable {P : Program} {w : World} {K : Frag} {mg : Str → Option Value} {base : Heap}
theorem FnN.mono {j k : Nat} {f : Addr} {ps : List Str} {m : DF} (F : FnN P w K mg base j f ps m) (h : j ≤ k) : FnN P w K mg base k f ps m := fun A outer s H us vs Q E hr => F A outer s H us vs Q E (hr.mono h)
end
section
end
/-! ### == of two dicts that are equal -/
section
end
end Mp
set_option Elab.async false
set_option linter.all false
set_option maxRecDepth 100000
set_option maxHeartbeats 4000000
/-! Mp: sorted(xs, key=lambda x: e); x in o by an own __contains__. -/
namespace Mp
open PySem PySem.Spec PyProof.Rows L2
section
end
section
end
/-! ### x in o -/
section
end
section
end
section
end
end Mp
set_option Elab.async false
set_option linter.all false
set_option maxRecDepth 100000
set_option maxHeartbeats 4000000
/-! Mp: str(i) and f"{i}" of whole numbers of up to 4300 digits. -/
namespace Mp
open PySem PySem.Spec PyProof.Rows L2
open PySem.Builtin
section
end
def strXD (ds : List D) (s : Sto) : Res D := match ds with
  | [.int i] => if i.natAbs < 10 ^ 4300 then .ok (.str (toString i)) s else .bad
  | [.str z] => .ok (.str z) s
  | _ => .bad
abbrev rStrX : List V → Hp → VK → Prop := fun xs H Q => (∃ i : Int, xs = [.int i] ∧ i.natAbs < 10 ^ 4300 ∧ Q (.str (toString i)) H) ∨ ∃ a : Str, xs = [.str a] ∧ Q (.str a) H
section
variable {X : Cx} {W : WX} {e : Expr} {pos : Pos} {ma : DE}
theorem call_strX (hB : BigD X.K) (hc : X.calm = true) : CallR X (.type "str") rStrX := by
  intro pins s t H xs us Q I r h
  rcases h with ⟨i, rfl, lt, q⟩ | ⟨a, rfl, q⟩
  · obtain ⟨u, rfl, tk, rfl⟩ := vals1 r
    exact str_of_int_or (I.ok.hd hc) (no_digits I hB) (fun _ => ⟨.str _, H, I.tok _, ⟨_, rfl⟩, q⟩) fun ge => absurd lt (by omega)
  · obtain ⟨u, rfl, tk, rfl⟩ := vals1 r
    exact PySem.P.str_of_str ⟨.str _, H, I, ⟨_, rfl⟩, q⟩
theorem v_strX : VRC X.K rStrX strXD := fun w s xs ds Q E st rs hp => by
  unfold strXD at hp
  split at hp
  · cases rs with
    | cons q r =>
      cases q
      cases r
      split at hp
      · rename_i hl
        exact .inl ⟨_, rfl, hl, hp.pure st (.str _)⟩
      · exact hp.elim
  · cases rs with
    | cons q r =>
      cases q
      cases r
      exact .inr ⟨_, rfl, hp.pure st (.str _)⟩
  · exact hp.elim
end
end Mp
set_option Elab.async false
set_option linter.all false
set_option maxRecDepth 100000
set_option maxHeartbeats 4000000
/-! Mp: dicts with tuples as keys; min of tuples (number, text); pop() of lists; two attributes set at once. -/
namespace Mp
open PySem PySem.Spec PyProof.Rows L2
/-! ### keys -/
/-! ### {k: v}, k a tuple -/
section
end
/-! ### a dict with tuples as keys in a cell -/
theorem KVR.drop {K : Frag} {w : Wd} {T : Type} [DecidableEq T] {k : T} : ∀ {l : List (T × V)} {m : List (T × D)}, KVR K w l m → KVR K w (L2.dropK l k) (m.filter fun p => decide (p.1 ≠ k))
  | _, _, .nil => .nil
  | _, _, .cons (k := j) (l := l) (m := m) h r => by
    have ih := KVR.drop (k := k) r
    unfold L2.dropK at ih ⊢
    by_cases e : j = k
    · rw [List.filter_cons_of_neg (by simpa using e), List.filter_cons_of_neg (by simpa using e)]
      exact ih
    · rw [List.filter_cons_of_pos (by simpa using e), List.filter_cons_of_pos (by simpa using e)]
      exact .cons h ih
/-! d[k] = v -/
section
/-! d != {} -/
end
/-! ### list(d) -/
/-! ### min(xs), xs of tuples (number, text) -/
section
end
/-! ### d.pop(k) -/
end Mp
namespace DT
open PySem PyProof.Rows
section
end
end DT
namespace Mp
open PySem PySem.Spec PyProof.Rows L2
section
/-! ### xs.pop() -/
/-! ### an attribute as a target -/
end
end Mp
set_option Elab.async false
set_option linter.all false
set_option maxRecDepth 100000
set_option maxHeartbeats 4000000
/-! Mp: static methods, constants read off a class, own == and != with plain values, any value in a list of texts. -/
namespace PySem.SeqAt
open AutoSeq1 (wpAny_loadPart')
open MeetsSeq
theorem sub_dict_str0 : isSubtype (.type "dict") (.type "str") = pure false := by rw [isSubtype_type]; kernel_rfl
theorem sub_list_str0 : isSubtype (.type "list") (.type "str") = pure false := by rw [isSubtype_type]; kernel_rfl
theorem sub_tuple_str0 : isSubtype (.type "tuple") (.type "str") = pure false := by rw [isSubtype_type]; kernel_rfl
theorem sub_str_dict0 : isSubtype (.type "str") (.type "dict") = pure false := by rw [isSubtype_type]; kernel_rfl
theorem sub_str_list0 : isSubtype (.type "str") (.type "list") = pure false := by rw [isSubtype_type]; kernel_rfl
theorem sub_str_tuple0 : isSubtype (.type "str") (.type "tuple") = pure false := by rw [isSubtype_type]; kernel_rfl
theorem str_eq_declines_dict0 (b : Str) (u : Tok) (l : Addr) (dd : Option Addr) (data : Data) (sl : Array (Option Value)) (hd : (∃ its n, data = .seq its n) ∨ ∃ es n, data = .dict es n) :
    Meets (Builtin.«str.__eq__» ⟨[.str b u, .ref l], []⟩) (fun _ R s => s.heap.get? l = some { cls := .type "dict", dict := dd, data := data, slots := sl } ∧ R (.ok (.ret .notImplemented)) s) :=
  .of_wp fun prog w A R s h => by obtain ⟨hp, g, d, tk, os⟩ := s; obtain ⟨hl, h⟩ := h; have f1 := sub_dict_str0; rcases hd with ⟨its, n, rfl⟩ | ⟨es, n, rfl⟩ <;> (wp_walk using wpAny_loadPart' hl, wpAny_load hl; exact ⟨_, rfl, h⟩)
theorem dict_eq_declines_str0 (l : Addr) (dd : Option Addr) (data : Data) (sl : Array (Option Value)) (b : Str) (u : Tok) :
    Meets (Builtin.«dict.__eq__» ⟨[.ref l, .str b u], []⟩) (fun _ R s => s.heap.get? l = some { cls := .type "dict", dict := dd, data := data, slots := sl } ∧ R (.ok (.ret .notImplemented)) s) :=
  .of_wp fun prog w A R s h => by obtain ⟨hp, g, d, tk, os⟩ := s; obtain ⟨hl, h⟩ := h; have f1 := sub_str_dict0; wp_walk using wpAny_loadPart' hl; exact ⟨_, rfl, h⟩
theorem RcAt.str_dict0 {A : Around} {s : Shared} {l : Addr} {o : Obj} (b : Str) (u : Tok) (ho : s.heap.get? l = some o) (hc : o.cls = .type "dict") (hd : (∃ its n, o.data = .seq its n) ∨ ∃ es n, o.data = .dict es n) (hu : A.units < cLine) : RcAt A s (.str b u) (.ref l) false := fun prog w E Q h => by
  obtain ⟨cls, dd, data, sl⟩ := o
  simp only at hc
  subst hc
  exact rc_eq_decline_or (k := false) (typeIs_str s b u) ⟨_, ho, rfl⟩ (by decide) sub_dict_str0 F.slot_str_eq F.slot_dict_eq_refl
    (fun _ hq => call_meets F.slot_str_eq (typeIs_str s b u) F.entry_str_eq (F.args_str_eq_2 _ _) (str_eq_declines_dict0 b u l dd data sl hd) ⟨ho, hq⟩)
    (fun _ hq => call_meets F.slot_dict_eq_refl ⟨_, ho, rfl⟩ F.entry_dict_eq (F.args_dict_eq_2 _ _) (dict_eq_declines_str0 l dd data sl b u) ⟨ho, hq⟩)
    (fun _ hq => wpAny_of_eq (rfl : isSame (.str b u) (.ref l) = pure false) hq) (.inr hu) h
theorem EqAt.str_dict0 {A : Around} {s : Shared} {l : Addr} {o : Obj} (b : Str) (u : Tok) (ho : s.heap.get? l = some o) (hc : o.cls = .type "dict") (hd : (∃ its n, o.data = .seq its n) ∨ ∃ es n, o.data = .dict es n) (hu : A.units < cLine) : EqAt A s (.str b u) (.ref l) false := fun prog w E Q h => by
  unfold eqBool
  refine wpAny_holding ?_
  refine wpAny_ite_split (fun hab => absurd (eq_of_beq hab) nofun) (fun _ => ?_)
  exact wpAny_bind (RcAt.str_dict0 b u ho hc hd hu prog w E _ (wpAny_truthy_bool h))
theorem str_eq_declines_list0 (b : Str) (u : Tok) (l : Addr) (dd : Option Addr) (data : Data) (sl : Array (Option Value)) (hd : (∃ its n, data = .seq its n) ∨ ∃ es n, data = .dict es n) :
    Meets (Builtin.«str.__eq__» ⟨[.str b u, .ref l], []⟩) (fun _ R s => s.heap.get? l = some { cls := .type "list", dict := dd, data := data, slots := sl } ∧ R (.ok (.ret .notImplemented)) s) :=
  .of_wp fun prog w A R s h => by obtain ⟨hp, g, d, tk, os⟩ := s; obtain ⟨hl, h⟩ := h; have f1 := sub_list_str0; rcases hd with ⟨its, n, rfl⟩ | ⟨es, n, rfl⟩ <;> (wp_walk using wpAny_loadPart' hl, wpAny_load hl; exact ⟨_, rfl, h⟩)
theorem list_eq_declines_str0 (l : Addr) (dd : Option Addr) (data : Data) (sl : Array (Option Value)) (b : Str) (u : Tok) :
    Meets (Builtin.«list.__eq__» ⟨[.ref l, .str b u], []⟩) (fun _ R s => s.heap.get? l = some { cls := .type "list", dict := dd, data := data, slots := sl } ∧ R (.ok (.ret .notImplemented)) s) :=
  .of_wp fun prog w A R s h => by obtain ⟨hp, g, d, tk, os⟩ := s; obtain ⟨hl, h⟩ := h; have f1 := sub_str_list0; wp_walk using wpAny_loadPart' hl; exact ⟨_, rfl, h⟩
theorem RcAt.str_list0 {A : Around} {s : Shared} {l : Addr} {o : Obj} (b : Str) (u : Tok) (ho : s.heap.get? l = some o) (hc : o.cls = .type "list") (hd : (∃ its n, o.data = .seq its n) ∨ ∃ es n, o.data = .dict es n) (hu : A.units < cLine) : RcAt A s (.str b u) (.ref l) false := fun prog w E Q h => by
  obtain ⟨cls, dd, data, sl⟩ := o
  simp only at hc
  subst hc
  exact rc_eq_decline_or (k := false) (typeIs_str s b u) ⟨_, ho, rfl⟩ (by decide) sub_list_str0 F.slot_str_eq F.slot_list_eq_refl
    (fun _ hq => call_meets F.slot_str_eq (typeIs_str s b u) F.entry_str_eq (F.args_str_eq_2 _ _) (str_eq_declines_list0 b u l dd data sl hd) ⟨ho, hq⟩)
    (fun _ hq => call_meets F.slot_list_eq_refl ⟨_, ho, rfl⟩ F.entry_list_eq (F.args_list_eq_2 _ _) (list_eq_declines_str0 l dd data sl b u) ⟨ho, hq⟩)
    (fun _ hq => wpAny_of_eq (rfl : isSame (.str b u) (.ref l) = pure false) hq) (.inr hu) h
theorem EqAt.str_list0 {A : Around} {s : Shared} {l : Addr} {o : Obj} (b : Str) (u : Tok) (ho : s.heap.get? l = some o) (hc : o.cls = .type "list") (hd : (∃ its n, o.data = .seq its n) ∨ ∃ es n, o.data = .dict es n) (hu : A.units < cLine) : EqAt A s (.str b u) (.ref l) false := fun prog w E Q h => by
  unfold eqBool
  refine wpAny_holding ?_
  refine wpAny_ite_split (fun hab => absurd (eq_of_beq hab) nofun) (fun _ => ?_)
  exact wpAny_bind (RcAt.str_list0 b u ho hc hd hu prog w E _ (wpAny_truthy_bool h))
theorem str_eq_declines_tuple0 (b : Str) (u : Tok) (l : Addr) (dd : Option Addr) (data : Data) (sl : Array (Option Value)) (hd : (∃ its n, data = .seq its n) ∨ ∃ es n, data = .dict es n) :
    Meets (Builtin.«str.__eq__» ⟨[.str b u, .ref l], []⟩) (fun _ R s => s.heap.get? l = some { cls := .type "tuple", dict := dd, data := data, slots := sl } ∧ R (.ok (.ret .notImplemented)) s) :=
  .of_wp fun prog w A R s h => by obtain ⟨hp, g, d, tk, os⟩ := s; obtain ⟨hl, h⟩ := h; have f1 := sub_tuple_str0; rcases hd with ⟨its, n, rfl⟩ | ⟨es, n, rfl⟩ <;> (wp_walk using wpAny_loadPart' hl, wpAny_load hl; exact ⟨_, rfl, h⟩)
theorem tuple_eq_declines_str0 (l : Addr) (dd : Option Addr) (data : Data) (sl : Array (Option Value)) (b : Str) (u : Tok) :
    Meets (Builtin.«tuple.__eq__» ⟨[.ref l, .str b u], []⟩) (fun _ R s => s.heap.get? l = some { cls := .type "tuple", dict := dd, data := data, slots := sl } ∧ R (.ok (.ret .notImplemented)) s) :=
  .of_wp fun prog w A R s h => by obtain ⟨hp, g, d, tk, os⟩ := s; obtain ⟨hl, h⟩ := h; have f1 := sub_str_tuple0; wp_walk using wpAny_loadPart' hl; exact ⟨_, rfl, h⟩
theorem RcAt.str_tuple0 {A : Around} {s : Shared} {l : Addr} {o : Obj} (b : Str) (u : Tok) (ho : s.heap.get? l = some o) (hc : o.cls = .type "tuple") (hd : (∃ its n, o.data = .seq its n) ∨ ∃ es n, o.data = .dict es n) (hu : A.units < cLine) : RcAt A s (.str b u) (.ref l) false := fun prog w E Q h => by
  obtain ⟨cls, dd, data, sl⟩ := o
  simp only at hc
  subst hc
  exact rc_eq_decline_or (k := false) (typeIs_str s b u) ⟨_, ho, rfl⟩ (by decide) sub_tuple_str0 F.slot_str_eq F.slot_tuple_eq_refl
    (fun _ hq => call_meets F.slot_str_eq (typeIs_str s b u) F.entry_str_eq (F.args_str_eq_2 _ _) (str_eq_declines_tuple0 b u l dd data sl hd) ⟨ho, hq⟩)
    (fun _ hq => call_meets F.slot_tuple_eq_refl ⟨_, ho, rfl⟩ F.entry_tuple_eq (F.args_tuple_eq_2 _ _) (tuple_eq_declines_str0 l dd data sl b u) ⟨ho, hq⟩)
    (fun _ hq => wpAny_of_eq (rfl : isSame (.str b u) (.ref l) = pure false) hq) (.inr hu) h
theorem EqAt.str_tuple0 {A : Around} {s : Shared} {l : Addr} {o : Obj} (b : Str) (u : Tok) (ho : s.heap.get? l = some o) (hc : o.cls = .type "tuple") (hd : (∃ its n, o.data = .seq its n) ∨ ∃ es n, o.data = .dict es n) (hu : A.units < cLine) : EqAt A s (.str b u) (.ref l) false := fun prog w E Q h => by
  unfold eqBool
  refine wpAny_holding ?_
  refine wpAny_ite_split (fun hab => absurd (eq_of_beq hab) nofun) (fun _ => ?_)
  exact wpAny_bind (RcAt.str_tuple0 b u ho hc hd hu prog w E _ (wpAny_truthy_bool h))
end PySem.SeqAt
namespace Mp
open PySem PySem.Spec PyProof.Rows L2
/-! ### C.m(e, ..), m a static method -/
structure SMet (K : PySem.W.Frag) (C : Addr) (m : Str) (p g : Addr) : Prop where
  at_ : PySem.W.findCls K (.ref C) (.type "type") m = some (.get (.builtin "staticmethod.__get__") (.ref p) .none (.ref C))
  rc : ∃ rest, PySem.W.recIn K p "staticmethod" = some (.ref g :: rest)
  kp : PySem.W.keepIn K (.ref g) = true
section
variable {X : Cx} {W : WX} {a b : Expr} {es : List Expr} {pos p apos : Pos} {mr : DM (List D)} {ma mb : DE} {m x cc : Str} {k : Nat} {f g pa : Addr} {mf : DF} {mc : Value}
theorem getsm_ok {pins : List (Addr × Obj)} {σ : L2.St} {H : Hp} {s : Shared} {A : Around} {E : Value → Shared → Prop} {C : Addr} {bb : Bool} {Q : Value → Shared → Prop} (I : Inv X pins σ H s) (r : ClX.CRead X.K C (.type "type")) (c : SMet X.K C m pa g)
    (h : ∀ s', Inv X pins σ H s' → Q (.ref g) s') : wpAny (model X.prog X.w) A (getAttr (.ref C) m bb) Q E s := by
  obtain ⟨rest, hp⟩ := c.rc
  refine PySem.W.cls_bind I.kIn r.rd c.at_ ?_
  refine wpAny_call (PySem.W.sm_get (s := { s with toks := s.toks + 1 }) I.kIn hp (PySem.W.handed_on rfl ?_))
  exact h _ (I.tok _)
theorem e_smeth {pl : Sem Bool} (tk : Takes X W) (R : ClX.CRead X.K (He.ga X.K cc) (.type "type")) (c : SMet X.K (He.ga X.K cc) m pa g) (F : FnD X.prog X.w X.K X.mg X.base k g mf) (hr : Rm k X.A) (hg : Gl X cc) (hm : X.mg cc = some (.ref (He.ga X.K cc)))
    (ha : PA X (a :: es) (tA X.K W mr)) (hdb : (cc == ("__debug__" : Str)) = false := by decide) (hst : starEach (a :: es) X.env = (false, eval a X.env) :: starEach es X.env := by rfl) (hpl : (backTo pos (starEach es X.env)).any (·.1) = false := by rfl)
    (ht : eval (.Call (.Attribute (.Name cc p) m apos) (a :: es) [] pos) X.env = (do
      let ov ← eval (.Name cc p) X.env
      standAt apos.atName
      let (f, first) ← holding [ov] (getMethod ov m pl)
      callWith pos f first (backTo pos (starEach (a :: es) X.env)) (backToKw pos (keywordEach [] X.env))) := by rfl) :
    PE X (.Call (.Attribute (.Name cc p) m apos) (a :: es) [] pos) (tE X.K W (callM mf mr)) := by
  refine ⟨fun pins s t H Q I h => ?_⟩
  obtain ⟨r, so, w, rfl, env, st, hp⟩ := h
  refine PySem.W.methodCall_KW (pl := pl) (ld_glob I hg hm ?_ hdb) ht
  refine PySem.W.method_cls I.kIn R.ga (getsm_ok I R c fun s2 I2 => ?_)
  refine PySem.W.callWith_K (h₀ := X.base) I2.ok.mod.kin c.kp (thn (ha.run pos pins s2 t w.H _ I2 ⟨r, so, w, rfl, env, st, sp_bind hp⟩) fun us s1 ⟨vs, H1, I1, rv, q⟩ => ⟨I1.kIn, ?_⟩) hst hpl
  exact run_fnRD F hr (passAt tk t) I1 rv q
/-! ### C.f, f a constant of the class -/
theorem e_clsCon {d : D} {v : V} {u : Value} {fl : Str} (R : ClX.CRead X.K (He.ga X.K cc) (.type "type")) (c : ClX.CVal X.K (He.ga X.K cc) (.type "type") fl v u) (hd : ∀ w, Rep X.K w v d) (hg : Gl X cc) (hm : X.mg cc = some (.ref (He.ga X.K cc))) (hdb : (cc == ("__debug__" : Str)) = false := by decide)
    (hab : attributeBase (.Name cc p) fl X.env (eval (.Name cc p) X.env) = eval (.Name cc p) X.env := by rfl) : PE X (.Attribute (.Name cc p) fl pos) (tE X.K W (cM d)) := by
  refine ⟨fun pins s t H Q I h => ?_⟩
  obtain ⟨r, so, w, rfl, env, st, hp⟩ := h
  refine attr_of hab (ld_glob I hg hm ?_ hdb)
  refine ClX.getcval_ok I R c fun s2 I2 => ?_
  obtain ⟨H3, q⟩ : ∃ H3, H3 = w.H := ⟨_, rfl⟩
  exact ⟨v, w.H, I2, c.rel, hp.pure st (hd w)⟩
end
theorem con_row {X : Cx} {f C : Str} {v : V} {d : D} {r : List (Str × Ak)} (c : Cls X.K (He.ga X.K C)) (h : ∃ u, Con X.K (He.ga X.K C) f v u) (hd : ∀ w, Rep X.K w v d) (t : ATab X f r) : ATab X f ((C, .con d) :: r) :=
  let ⟨_, k⟩ := h
  .con c k hd t
/-! ### the head's facts -/
abbrev ckSm (x m : Str) : PySem.W.Frag → Bool := fun K => He5.wrapB K (He.ga K x) "staticmethod" "staticmethod.__get__" m && PySem.W.keepIn K (.ref (He5.wf K (He.ga K x) "staticmethod" m))
theorem Fx.sm {P : Program} {fb : List (PySem.W.Frag → Bool)} {fn : List DefM} {K : PySem.W.Frag} {mg : Str → Option Value} (Z : Fx P fb fn K mg) (i : Nat) {x m : Str} (h : fb[i]? = some (ckSm x m)) : SMet K (He.ga K x) m (He.ma K (He.ga K x) m) (He5.wf K (He.ga K x) "staticmethod" m) := by
  have f := Z.fact i h
  simp only [ckSm, Bool.and_eq_true] at f
  obtain ⟨h1, h2⟩ := He5.wrapB_ok f.1
  exact ⟨h1, h2, f.2⟩
abbrev ckCv (x m : Str) (n : Int) : PySem.W.Frag → Bool := fun K => match PySem.W.findCls K (.ref (He.ga K x)) (.type "type") m with
  | some (.val (.int i _)) => decide (i = n)
  | _ => false
theorem Fx.cv {P : Program} {fb : List (PySem.W.Frag → Bool)} {fn : List DefM} {K : PySem.W.Frag} {mg : Str → Option Value} (Z : Fx P fb fn K mg) (i : Nat) {x m : Str} {n : Int} (h : fb[i]? = some (ckCv x m n)) : ∃ u, ClX.CVal K (He.ga K x) (.type "type") m (.int n) u := by
  have f := Z.fact i h
  simp only [ckCv] at f
  split at f
  · rename_i j t e
    obtain rfl := of_decide_eq_true f
    exact ⟨_, e, ⟨_, rfl⟩⟩
  · cases f
/-! ### == and != of an instance and a plain value -/
/-- == and !=: an own __eq__ where the first is an instance and the second is of a built-in type -/
def eqP (neg : Bool) (tb : List ((Str × String) × DF)) (f : D → D → Sto → Res D) (x y : D) (s : Sto) : Res D := match insOf s x with
  | some (C, _) => (match tagD s y with
    | some (.bt n) => (match tb.lookup (C, n) with
      | some m => if neg then negB (m [x, y] s) else m [x, y] s
      | none => .bad)
    | _ => f x y s)
  | none => f x y s
inductive PTab (X : Cx) (neg : Bool) : List ((Str × String) × DF) → Prop
  | nil : PTab X neg []
  | cons {C : Str} {n : String} {f : DF} {r : List ((Str × String) × DF)} : MethD X C "__eq__" f → (∃ k, neg = true → (∃ g, Meth X.K (He.ga X.K C) "__eq__" g ∧ FnD X.prog X.w X.K X.mg X.base k g f ∧ Rm (k + 1) X.A) ∧ PySem.W.findIn X.K (.ref (He.ga X.K C)) "__ne__" = some (some (.builtin "object.__ne__")) ∧ PySem.W.subIn X.K (.ref (He.ga X.K C)) (.type "object") = some true) → PySem.W.notFirst X.K (He.ga X.K C) (.type n) = true → PTab X neg r → PTab X neg (((C, n), f) :: r)
theorem PTab.get {X : Cx} {neg : Bool} {C : Str} {n : String} {f : DF} : ∀ {tb : List ((Str × String) × DF)}, PTab X neg tb → tb.lookup (C, n) = some f → MethD X C "__eq__" f ∧ (∃ k, neg = true → (∃ g, Meth X.K (He.ga X.K C) "__eq__" g ∧ FnD X.prog X.w X.K X.mg X.base k g f ∧ Rm (k + 1) X.A) ∧ PySem.W.findIn X.K (.ref (He.ga X.K C)) "__ne__" = some (some (.builtin "object.__ne__")) ∧ PySem.W.subIn X.K (.ref (He.ga X.K C)) (.type "object") = some true) ∧ PySem.W.notFirst X.K (He.ga X.K C) (.type n) = true
  | _, .nil, h => by simp at h
  | _, .cons (C := E) (n := E') h1 h2 h3 r, h => by
    by_cases e : (C, n) = (E, E')
    · cases e
      rw [List.lookup_cons_self] at h
      cases h
      exact ⟨h1, h2, h3⟩
    · rw [List.lookup_cons, show ((C, n) == (E, E')) = false from beq_eq_false_iff_ne.mpr e] at h
      exact r.get h
section
variable {X : Cx} {W : WX} {a b : Expr} {pos : Pos} {ma mb : DE}
theorem eqP_run {tb : List ((Str × String) × DF)} {f : D → D → Sto → Res D} (tk : Takes X W) (T : PTab X false tb) {pins : List (Addr × Obj)} {s2 : Shared} {t : L2.St} {H2 : Hp} {x y : V} {v u : Value} {Q : VK}
    (I2 : Inv X pins t H2 s2) (rx : RelV x v) (ry : RelV y u) (els : OpP X W t Q f x y H2 → wpAny (model X.prog X.w) X.A (compareOp .Eq v u) (EP X pins t Q) X.xe s2) (q : OpP X W t Q (eqP false tb f) x y H2) : wpAny (model X.prog X.w) X.A (compareOp .Eq v u) (EP X pins t Q) X.xe s2 := by
  obtain ⟨so, w, d, e, rfl, st, r1, r2, hp⟩ := q
  unfold eqP at hp
  cases e1 : insOf so d with
  | none =>
    rw [e1] at hp
    exact els ⟨so, w, d, e, rfl, st, r1, r2, hp⟩
  | some c1 =>
    obtain ⟨C, fs⟩ := c1
    rw [e1] at hp
    dsimp only at hp
    cases e2 : tagD so e with
    | none => rw [e2] at hp; exact els ⟨so, w, d, e, rfl, st, r1, r2, hp⟩
    | some tg =>
      rw [e2] at hp
      cases tg with
      | own C' => exact els ⟨so, w, d, e, rfl, st, r1, r2, hp⟩
      | bt n =>
        dsimp only at hp
        cases e3 : tb.lookup (C, n) with
        | none => rw [e3] at hp; exact hp.elim
        | some mf =>
          rw [e3] at hp
          dsimp only at hp
          obtain ⟨⟨hc, g, kk, hm, F, hr⟩, _, hnf⟩ := T.get e3
          obtain ⟨p, dx, l, rfl, hh, kv⟩ := insOf_ok st r1 e1
          have h1 := tag_ok st r2 e2
          cases rx
          obtain ⟨P, KX, hP, _⟩ := kit_of I2 ry h1.1
          obtain ⟨mA, J, _⟩ := ins_get I2.hok hh
          obtain ⟨od, J, _⟩ := J.look
          obtain ⟨m, hF⟩ := I2.fr
          show wpAny _ _ (richCompare .Eq _ _) _ _ _
          refine PySem.W.cmp_K (op := .Eq) (tb := .type n) hr.rm.units0 hF I2.ok.mod.kin J (KX.ty _ _ I2.kIn hP) hnf hm.at_ hm.fn ?_
          refine wpAny_mono (run_fnRD (us := [.ref p, u]) (vs := [.ref p, y]) F hr (passAt tk t) I2 (.cons rfl (.cons ry .nil)) (sp_post (.cons r1 (.cons r2 .nil)) st hp)) (fun z s' hz => ?_) fun _ _ x => x
          obtain ⟨z', H', I', rz, qz⟩ := hz
          exact SlX.cmpback rz ⟨z', H', I', rz, qz⟩
theorem neP_run {tb : List ((Str × String) × DF)} {f : D → D → Sto → Res D} (tk : Takes X W) (hu : X.A.units + 64 < cLine) (T : PTab X true tb) {pins : List (Addr × Obj)} {s2 : Shared} {t : L2.St} {H2 : Hp} {x y : V} {v u : Value} {Q : VK}
    (I2 : Inv X pins t H2 s2) (rx : RelV x v) (ry : RelV y u) (els : OpP X W t Q f x y H2 → wpAny (model X.prog X.w) X.A (compareOp .NotEq v u) (EP X pins t Q) X.xe s2) (q : OpP X W t Q (eqP true tb f) x y H2) : wpAny (model X.prog X.w) X.A (compareOp .NotEq v u) (EP X pins t Q) X.xe s2 := by
  obtain ⟨so, w, d, e, rfl, st, r1, r2, hp⟩ := q
  unfold eqP at hp
  cases e1 : insOf so d with
  | none =>
    rw [e1] at hp
    exact els ⟨so, w, d, e, rfl, st, r1, r2, hp⟩
  | some c1 =>
    obtain ⟨C, fs⟩ := c1
    rw [e1] at hp
    dsimp only at hp
    cases e2 : tagD so e with
    | none => rw [e2] at hp; exact els ⟨so, w, d, e, rfl, st, r1, r2, hp⟩
    | some tg =>
      rw [e2] at hp
      cases tg with
      | own C' => exact els ⟨so, w, d, e, rfl, st, r1, r2, hp⟩
      | bt n =>
        dsimp only at hp
        cases e3 : tb.lookup (C, n) with
        | none => rw [e3] at hp; exact hp.elim
        | some mf =>
          rw [e3] at hp
          dsimp only at hp
          rw [if_pos rfl] at hp
          obtain ⟨_, ⟨kk, hk⟩, hnf⟩ := T.get e3
          obtain ⟨⟨g, hm, F, hr⟩, hne, hob⟩ := hk rfl
          obtain ⟨p, dx, l, rfl, hh, kv⟩ := insOf_ok st r1 e1
          have h1 := tag_ok st r2 e2
          cases rx
          obtain ⟨P, KX, hP, _⟩ := kit_of I2 ry h1.1
          obtain ⟨mA, J, _⟩ := ins_get I2.hok hh
          obtain ⟨od, J, _⟩ := J.look
          obtain ⟨m, hF⟩ := I2.fr
          show wpAny _ _ (richCompare .NotEq _ _) _ _ _
          refine OwI.ne_K (tb := .type n) (by omega) hF I2.ok.mod.kin J (KX.ty _ _ I2.kIn hP) hnf hne hob hm.at_ hm.fn ?_
          refine wpAny_mono (run_in1 (us := [.ref p, u]) (vs := [.ref p, y]) F hr (passAt tk t) I2 (.cons rfl (.cons ry .nil)) (sp_post (.cons r1 (.cons r2 .nil)) st (neg_post hp))) (fun z s' hz => ?_) fun _ _ x => x
          obtain ⟨z', H', I', rz, k, rfl, qz⟩ := hz
          cases rz
          exact ⟨k, rfl, .bl (!k), H', I', rfl, qz⟩
/-- .. and where both are instances, as eqO -/
theorem e_eqPO {tb : List ((Str × Str) × DF)} {tp : List ((Str × String) × DF)} (tk : Takes X W) (hu : X.A.units + 64 < cLine) (T : QTab X false tb) (T2 : PTab X false tp) (ha : PE X a (tE X.K W ma)) (hb : PE X b (tE X.K W mb)) : PE X (.Compare a [.Eq] [b] pos) (tE X.K W (binM (eqP false tp (eqO false tb)) ma mb)) := by
  refine ⟨fun pins s t H Q I h => ?_⟩
  obtain ⟨r, so, w, rfl, env, st, hp⟩ := h
  exact wpAny_Compare1 (binT ha hb I (opP_of env st hp) fun v u s2 x y H2 I2 rx ry q => eqP_run tk T2 I2 rx ry (fun q => eqO_run tk hu T I2 rx ry q) q) (nomark _)
theorem e_nePO {tb : List ((Str × Str) × DF)} {tp : List ((Str × String) × DF)} (tk : Takes X W) (hu : X.A.units + 64 < cLine) (T : QTab X true tb) (T2 : PTab X true tp) (ha : PE X a (tE X.K W ma)) (hb : PE X b (tE X.K W mb)) : PE X (.Compare a [.NotEq] [b] pos) (tE X.K W (binM (eqP true tp (eqO true tb)) ma mb)) := by
  refine ⟨fun pins s t H Q I h => ?_⟩
  obtain ⟨r, so, w, rfl, env, st, hp⟩ := h
  exact wpAny_Compare1 (binT ha hb I (opP_of env st hp) fun v u s2 x y H2 I2 rx ry q => neP_run tk hu T2 I2 rx ry (fun q => neO_run tk hu T I2 rx ry q) q) (nomark _)
theorem t_eqPO {tb : List ((Str × Str) × DF)} {tp : List ((Str × String) × DF)} (tk : Takes X W) (hu : X.A.units + 64 < cLine) (T : QTab X false tb) (T2 : PTab X false tp) (ha : PE X a (tE X.K W ma)) (hb : PE X b (tE X.K W mb)) : PT X (.Compare a [.Eq] [b] pos) (tT X.K W (blM (binM (eqP false tp (eqO false tb)) ma mb))) := by
  refine ⟨fun pins s t H Q I h => ?_⟩
  obtain ⟨r, so, w, rfl, env, st, hp⟩ := h
  refine wpAny_isTrue_Compare1 (binT (Q := fun c s3 => wpAny _ _ (truthy c) _ _ s3) ha hb I (opT_of env st hp) fun v u s2 x y H2 I2 rx ry q => thn (eqP_run tk T2 I2 rx ry (fun q => eqO_run tk hu T I2 rx ry q) q) fun c s3 ⟨z, H3, I3, r3, k, ez, q3⟩ => ?_) (nomark _)
  subst ez
  cases r3
  exact wpAny_truthy_bool ⟨H3, I3, q3⟩
theorem t_nePO {tb : List ((Str × Str) × DF)} {tp : List ((Str × String) × DF)} (tk : Takes X W) (hu : X.A.units + 64 < cLine) (T : QTab X true tb) (T2 : PTab X true tp) (ha : PE X a (tE X.K W ma)) (hb : PE X b (tE X.K W mb)) : PT X (.Compare a [.NotEq] [b] pos) (tT X.K W (blM (binM (eqP true tp (eqO true tb)) ma mb))) := by
  refine ⟨fun pins s t H Q I h => ?_⟩
  obtain ⟨r, so, w, rfl, env, st, hp⟩ := h
  refine wpAny_isTrue_Compare1 (binT (Q := fun c s3 => wpAny _ _ (truthy c) _ _ s3) ha hb I (opT_of env st hp) fun v u s2 x y H2 I2 rx ry q => thn (neP_run tk hu T2 I2 rx ry (fun q => neO_run tk hu T I2 rx ry q) q) fun c s3 ⟨z, H3, I3, r3, k, ez, q3⟩ => ?_) (nomark _)
  subst ez
  cases r3
  exact wpAny_truthy_bool ⟨H3, I3, q3⟩
end
abbrev ckNp (x : Str) (n : String) : PySem.W.Frag → Bool := fun K => PySem.W.notFirst K (He.ga K x) (.type n)
/-! ### any value in a list of texts -/
def isTxtD : D → Bool
  | .str _ => true
  | _ => false
/-- x in ys, ys texts, x no flat value: no -/
def inTx (neg : Bool) (x y : D) (s : Sto) : Res D := match tagD s x with
  | some (.bt n) => if n = "tuple" ∨ n = "list" ∨ n = "dict" then (match seqOf s y with
    | some l => if l.all isTxtD = true then .ok (.bl neg) s else .bad
    | none => .bad) else inD neg x y s
  | _ => .bad
section
variable {X : Cx} {W : WX} {a b : Expr} {pos : Pos} {ma mb : DE}
theorem txts_ok {K : PySem.W.Frag} {w : Wd} : ∀ {xs : List V} {ds : List D}, Reps K w xs ds → ds.all isTxtD = true → ∀ v ∈ xs, ∃ z, v = .str z
  | _, _, .nil, _ => fun v h => by cases h
  | _, _, .cons (d := d) h r, e => fun v hv => by
    rw [List.all_cons, Bool.and_eq_true_iff] at e
    rcases List.mem_cons.mp hv with rfl | hv
    · cases h with
      | str z => exact ⟨z, rfl⟩
      | _ => cases e.1
    · exact txts_ok r e.2 v hv
/-- a tuple, a list, a dict -/
inductive BigV (K : PySem.W.Frag) (H : Hp) : V → String → Prop where
  | lst {a : Addr} {xs : List V} (e : H a = some (.lst xs)) : BigV K H (.ref a) "list"
  | tup {a : Addr} {xs : List V} (e : H a = some (.tup xs)) : BigV K H (.ref a) "tuple"
  | dK {a : Addr} {kvs : List (Key × V)} (e : H a = some (.dK kvs)) : BigV K H (.ref a) "dict"
  | fD {a : Addr} {o : Obj} {kvs : List (Key × V)} (e : H a = some (.frz o (.dK kvs))) : BigV K H (.ref a) "dict"
theorem big_ok {K : PySem.W.Frag} {w : Wd} {s : Sto} {v : V} {d : D} {n : String} (st : StR K w s) (r : Rep K w v d) (h : tagD s d = some (.bt n)) (hn : n = "tuple" ∨ n = "list" ∨ n = "dict") : BigV K w.H v n := by
  cases r with
  | non => cases h; simp at hn
  | bl b => cases h; simp at hn
  | int i => cases h; simp at hn
  | str z => cases h; simp at hn
  | tup hh rs => cases h; exact .tup hh.2
  | lst z hh rs => cases h; exact .lst hh
  | dct z hh hl rs => cases h; exact .fD hh
  | ins z hh hl rs => cases h
  | @cel n a0 hA =>
    unfold tagD at h
    dsimp only at h
    cases e : s[n]? with
    | none => rw [e] at h; cases h
    | some oc =>
      cases oc with
      | none => rw [e] at h; cases h
      | some ct =>
        rw [e] at h
        cases ct with
        | lst l =>
          cases h
          obtain ⟨a1, h1, _, vs, hh, rs⟩ := st.at_ n _ e
          have ea : a1 = a0 := Option.some.inj (h1.symm.trans hA)
          subst ea
          exact .lst hh
        | dct l =>
          cases h
          obtain ⟨a1, h1, _, vs, hh, rs⟩ := st.at_ n _ e
          have ea : a1 = a0 := Option.some.inj (h1.symm.trans hA)
          subst ea
          exact .dK hh
        | rod l =>
          cases h
          obtain ⟨a1, h1, _, o, vs, _, hh, rs⟩ := st.at_ n _ e
          have ea : a1 = a0 := Option.some.inj (h1.symm.trans hA)
          subst ea
          exact .fD hh
        | ins C l => cases h
        | tab x => cases h
        | dtt m => cases h
  | _ => cases h
/-- what the address of such a value holds -/
theorem ref_obj {X : Cx} {pins : List (Addr × Obj)} {t : L2.St} {H : Hp} {s : Shared} {x : V} {u : Value} {n : String} (I : Inv X pins t H s) (rx : RelV x u) (ty : BigV X.K H x n) :
    ∃ a o, u = .ref a ∧ s.heap.get? a = some o ∧ o.cls = .type n ∧ ((∃ its n, o.data = .seq its n) ∨ ∃ es n, o.data = .dict es n) := by
  cases ty with
  | @lst a xs ea =>
    cases (show u = Value.ref a from rx)
    obtain ⟨_, _, n, _, h1⟩ := (show ObjOk X.prog X.w H s.heap a (.lst xs) from I.hok a _ ea)
    exact ⟨_, _, rfl, h1, rfl, .inl ⟨_, _, rfl⟩⟩
  | @tup a xs ea =>
    cases (show u = Value.ref a from rx)
    obtain ⟨_, _, _, o, h1, h2, _, h3⟩ := (show ObjOk X.prog X.w H s.heap a (.tup xs) from I.hok a _ ea)
    exact ⟨_, _, rfl, h1, h2, .inl ⟨_, _, h3⟩⟩
  | @dK a kvs ea =>
    cases (show u = Value.ref a from rx)
    obtain ⟨_, _, vs, _, o, es, ep, h1, h2, h3, _⟩ := (show ObjOk X.prog X.w H s.heap a (.dK kvs) from I.hok a _ ea)
    exact ⟨_, _, rfl, h1, h2.1, .inr ⟨_, _, h3⟩⟩
  | @fD a ob kvs ea =>
    cases (show u = Value.ref a from rx)
    obtain ⟨_, _, _, vs, _, o, es, ep, h1, h2, h3, _⟩ := (show ObjOk X.prog X.w H s.heap a (.frz ob (.dK kvs)) from I.hok a _ ea)
    exact ⟨_, _, rfl, h1, h2.1, .inr ⟨_, _, h3⟩⟩
theorem txt_eqAt {A : Around} {s : Shared} {a0 : Addr} {o : Obj} {n : String} (ho : s.heap.get? a0 = some o) (hc : o.cls = .type n) (hd : (∃ its n, o.data = .seq its n) ∨ ∃ es n, o.data = .dict es n) (hn : n = "tuple" ∨ n = "list" ∨ n = "dict") (hu : A.units < cLine) : ∀ {xs : List V} {us : List Value}, Vals xs us → (∀ v ∈ xs, ∃ z, v = V.str z) → ∀ u ∈ us, SeqAt.EqAt A s u (.ref a0) false
  | _, _, .nil, _ => fun u hu => by cases hu
  | y :: xs, u :: us, .cons r t, f => fun u' hu' => by
    rcases List.mem_cons.mp hu' with rfl | h
    · obtain ⟨z, rfl⟩ := f y List.mem_cons_self
      obtain ⟨tt, rfl⟩ := r
      rcases hn with rfl | rfl | rfl
      · exact SeqAt.EqAt.str_tuple0 z tt ho hc hd hu
      · exact SeqAt.EqAt.str_list0 z tt ho hc hd hu
      · exact SeqAt.EqAt.str_dict0 z tt ho hc hd hu
    · exact txt_eqAt ho hc hd hn hu t (fun v hv => f v (List.mem_cons_of_mem _ hv)) u' h
/-- x in ys as the heap has it -/
def rInTx (K : PySem.W.Frag) (neg : Bool) : R2 := fun x y H Q => (∃ n p xs, BigV K H x n ∧ (n = "tuple" ∨ n = "list" ∨ n = "dict") ∧ y = .ref p ∧ (SqL K H p xs ∨ SqT K H p xs) ∧ (∀ v ∈ xs, ∃ z, v = V.str z) ∧ Q (.bl neg) H) ∨ rInG K neg x y H Q
theorem any_false {us : List Value} : us.toArray.any (fun _ => false) = false := by simp
theorem o_notInTx (hu : X.A.units + 64 < cLine) : OpR X (compareOp .NotIn) (rInTx X.K true) := by
  intro pins s σ H x y v u Q I rx ry h
  rcases h with ⟨n, p, xs, ty, hn, rfl, hq, hx, q⟩ | h
  rotate_left
  · exact o_notIn (by omega) pins s σ H x y v u Q I rx ry h
  cases ry
  obtain ⟨a0, o, rfl, ho, hc, hd⟩ := ref_obj I rx ty
  have hu1 : X.A.in1.units < cLine := by show X.A.units + 1 < _; omega
  rcases hq with hq | hq
  · obtain ⟨its, r, pl, hz⟩ := I.list hq
    refine SeqAt.notIn_listAt (fun _ => false) pl.isList (fun w hw => txt_eqAt ho hc hd hn hu1 r hx w (by simpa using hw)) ⟨.bl _, H, I, rfl, ?_⟩
    rw [any_false]
    exact q
  · obtain ⟨its, r, pl, hz⟩ := I.tuple hq
    refine SeqAt.notIn_tupleAt (fun _ => false) pl (fun w hw => txt_eqAt ho hc hd hn hu1 r hx w (by simpa using hw)) ⟨.bl _, H, I, rfl, ?_⟩
    rw [any_false]
    exact q
theorem v_inTx {neg : Bool} : VR2 X.K (rInTx X.K neg) (inTx neg) := fun w s x y d e Q E st rx ry hp => by
  unfold inTx at hp
  split at hp
  · rename_i n hn
    split at hp
    · rename_i hc
      split at hp
      · rename_i l el
        split at hp
        · rename_i hl
          obtain ⟨p, vs, rfl, hq, rs⟩ := seqOf_ok st ry el
          exact .inl ⟨n, p, vs, big_ok st rx hn hc, hc, rfl, hq, txts_ok rs hl, hp.pure st (.bl _)⟩
        · exact hp.elim
      · exact hp.elim
    · exact .inr (v_in (X := X) w s x y d e Q E st rx ry hp)
  · exact hp.elim
theorem t_notInTx (hu : X.A.units + 64 < cLine) (ha : PE X a (tE X.K W ma)) (hb : PE X b (tE X.K W mb)) (hm : behindInMarks .NotIn b = false := by rfl) : PT X (.Compare a [.NotIn] [b] pos) (tT X.K W (blM (binM (inTx true) ma mb))) := t_cmp (o_notInTx hu) v_inTx ha hb hm
end
end Mp
set_option Elab.async false
set_option linter.all false
set_option maxRecDepth 100000
set_option maxHeartbeats 0
namespace G
open PySem PySem.Spec PyProof.Rows L2 Mp
abbrev PP : Program := (PySem.Challenge.rw_firstanswers_k01_fields).prog
def top (i : Nat) : Stmt := PySem.Challenge.pw_firstanswers_k01_fields.main.body.getD i (.Pass ⟨0, 0, 0, 0⟩)
theorem takes_blk {X : Cx} : Takes X W0 := fun u s' ⟨_, _, _, _, _, _, _, _, _, _, _, _, _, _, _, _, z⟩ => z.elim
theorem raise_row1 {T : FuncData → Prop} {C : Prop} (h : ∃ fd, T fd) (k : ∀ fd, T fd → C) : C := h.elim k
abbrev s_InvalidPrime___init__ : Stmt := inClass (top 2) 0
def d_InvalidPrime___init__ : DefM := ⟨fun K => He.ma K (He.ga K "InvalidPrime") "__init__", "__init__", "InvalidPrime.__init__", defArgs s_InvalidPrime___init__, defBody s_InvalidPrime___init__, defScope s_InvalidPrime___init__, [], none⟩
abbrev s_InvalidText___init__ : Stmt := inClass (top 4) 0
def d_InvalidText___init__ : DefM := ⟨fun K => He.ma K (He.ga K "InvalidText") "__init__", "__init__", "InvalidText.__init__", defArgs s_InvalidText___init__, defBody s_InvalidText___init__, defScope s_InvalidText___init__, [], none⟩
abbrev s_Field___eq__ : Stmt := inClass (top 27) 2
def d_Field___eq__ : DefM := ⟨fun K => He.ma K (He.ga K "Field") "__eq__", "__eq__", "Field.__eq__", defArgs s_Field___eq__, defBody s_Field___eq__, defScope s_Field___eq__, [], none⟩
abbrev s_Field___init__ : Stmt := inClass (top 27) 1
def d_Field___init__ : DefM := ⟨fun K => He.ma K (He.ga K "Field") "__init__", "__init__", "Field.__init__", defArgs s_Field___init__, defBody s_Field___init__, defScope s_Field___init__, [], none⟩
abbrev s_Field_name : Stmt := inClass (top 27) 4
def d_Field_name : DefM := ⟨propG "Field" "name", "name", "Field.name", defArgs s_Field_name, defBody s_Field_name, defScope s_Field_name, [], none⟩
abbrev s_Fractions___init__ : Stmt := inClass (top 28) 0
def d_Fractions___init__ : DefM := ⟨fun K => He.ma K (He.ga K "Fractions") "__init__", "__init__", "Fractions.__init__", defArgs s_Fractions___init__, defBody s_Fractions___init__, defScope s_Fractions___init__, [], some "Fractions"⟩
abbrev s_is_integer : Stmt := top 10
def d_is_integer : DefM := ⟨fun K => He.ga K "is_integer", "is_integer", "is_integer", defArgs s_is_integer, defBody s_is_integer, defScope s_is_integer, [], none⟩
abbrev s_is_between : Stmt := top 11
def d_is_between : DefM := ⟨fun K => He.ga K "is_between", "is_between", "is_between", defArgs s_is_between, defBody s_is_between, defScope s_is_between, [], none⟩
abbrev s_power : Stmt := top 21
def d_power : DefM := ⟨fun K => He.ga K "power", "power", "power", defArgs s_power, defBody s_power, defScope s_power, [], none⟩
abbrev s_is_witness : Stmt := top 22
def d_is_witness : DefM := ⟨fun K => He.ga K "is_witness", "is_witness", "is_witness", defArgs s_is_witness, defBody s_is_witness, defScope s_is_witness, [], none⟩
abbrev s_is_prime : Stmt := top 23
def d_is_prime : DefM := ⟨fun K => He.ga K "is_prime", "is_prime", "is_prime", defArgs s_is_prime, defBody s_is_prime, defScope s_is_prime, [], none⟩
abbrev s_Modulo___init__ : Stmt := inClass (top 29) 0
def d_Modulo___init__ : DefM := ⟨fun K => He.ma K (He.ga K "Modulo") "__init__", "__init__", "Modulo.__init__", defArgs s_Modulo___init__, defBody s_Modulo___init__, defScope s_Modulo___init__, [], some "Modulo"⟩
abbrev s_is_numeral : Stmt := top 12
def d_is_numeral : DefM := ⟨fun K => He.ga K "is_numeral", "is_numeral", "is_numeral", defArgs s_is_numeral, defBody s_is_numeral, defScope s_is_numeral, [], none⟩
abbrev s_Field_named : Stmt := inClass (top 27) 5
def d_Field_named : DefM := ⟨fun K => He5.wf K (He.ga K "Field") "staticmethod" "named", "named", "Field.named", defArgs s_Field_named, defBody s_Field_named, defScope s_Field_named, [], none⟩
abbrev s_Field_prime : Stmt := inClass (top 27) 3
def d_Field_prime : DefM := ⟨propG "Field" "prime", "prime", "Field.prime", defArgs s_Field_prime, defBody s_Field_prime, defScope s_Field_prime, [], none⟩
abbrev s__law_draw : Stmt := top 32
def d__law_draw : DefM := ⟨fun K => He.ga K "_law_draw", "_law_draw", "_law_draw", defArgs s__law_draw, defBody s__law_draw, defScope s__law_draw, [], none⟩
abbrev s__law_pick : Stmt := top 33
def d__law_pick : DefM := ⟨fun K => He.ga K "_law_pick", "_law_pick", "_law_pick", defArgs s__law_pick, defBody s__law_pick, defScope s__law_pick, [], none⟩
abbrev s__law_bent_name : Stmt := top 43
def d__law_bent_name : DefM := ⟨fun K => He.ga K "_law_bent_name", "_law_bent_name", "_law_bent_name", defArgs s__law_bent_name, defBody s__law_bent_name, defScope s__law_bent_name, [], none⟩
abbrev s__law_odd : Stmt := top 35
def d__law_odd : DefM := ⟨fun K => He.ga K "_law_odd", "_law_odd", "_law_odd", defArgs s__law_odd, defBody s__law_odd, defScope s__law_odd, [], none⟩
abbrev s__law_drawn_prime : Stmt := top 39
def d__law_drawn_prime : DefM := ⟨fun K => He.ga K "_law_drawn_prime", "_law_drawn_prime", "_law_drawn_prime", defArgs s__law_drawn_prime, defBody s__law_drawn_prime, defScope s__law_drawn_prime, [], none⟩
abbrev s__law_is_prime : Stmt := top 38
def d__law_is_prime : DefM := ⟨fun K => He.ga K "_law_is_prime", "_law_is_prime", "_law_is_prime", defArgs s__law_is_prime, defBody s__law_is_prime, defScope s__law_is_prime, [], none⟩
abbrev s__law_is_whole : Stmt := top 37
def d__law_is_whole : DefM := ⟨fun K => He.ga K "_law_is_whole", "_law_is_whole", "_law_is_whole", defArgs s__law_is_whole, defBody s__law_is_whole, defScope s__law_is_whole, [], none⟩
abbrev s__law_is_fine : Stmt := top 40
def d__law_is_fine : DefM := ⟨fun K => He.ga K "_law_is_fine", "_law_is_fine", "_law_is_fine", defArgs s__law_is_fine, defBody s__law_is_fine, defScope s__law_is_fine, [], none⟩
abbrev s__law_made_field : Stmt := top 36
def d__law_made_field : DefM := ⟨fun K => He.ga K "_law_made_field", "_law_made_field", "_law_made_field", defArgs s__law_made_field, defBody s__law_made_field, defScope s__law_made_field, [], none⟩
abbrev s__law_pen : Stmt := top 31
def d__law_pen : DefM := ⟨fun K => He.ga K "_law_pen", "_law_pen", "_law_pen", defArgs s__law_pen, defBody s__law_pen, defScope s__law_pen, [], none⟩
abbrev s__law_prime : Stmt := top 34
def d__law_prime : DefM := ⟨fun K => He.ga K "_law_prime", "_law_prime", "_law_prime", defArgs s__law_prime, defBody s__law_prime, defScope s__law_prime, [], none⟩
abbrev s__law_read : Stmt := top 42
def d__law_read : DefM := ⟨fun K => He.ga K "_law_read", "_law_read", "_law_read", defArgs s__law_read, defBody s__law_read, defScope s__law_read, [], none⟩
abbrev s__law_refused : Stmt := top 41
def d__law_refused : DefM := ⟨fun K => He.ga K "_law_refused", "_law_refused", "_law_refused", defArgs s__law_refused, defBody s__law_refused, defScope s__law_refused, [], none⟩
abbrev s_law : Stmt := top 44
def d_law : DefM := ⟨fun K => He.ga K "law", "law", "law", defArgs s_law, defBody s_law, defScope s_law, [], none⟩
def it0 : Isi := ⟨["Fractions", "Modulo"], [(("Fractions", "Field"), true), (("Fractions", "Fractions"), true), (("Fractions", "Modulo"), false), (("Modulo", "Field"), true), (("Modulo", "Fractions"), false), (("Modulo", "Modulo"), true)], ["Field", "Fractions", "Modulo"], [(("Fractions", "int"), false), (("Fractions", "bool"), false), (("Fractions", "str"), false), (("Fractions", "tuple"), false), (("Fractions", "list"), false), (("Fractions", "dict"), false), (("Modulo", "int"), false), (("Modulo", "bool"), false), (("Modulo", "str"), false), (("Modulo", "tuple"), false), (("Modulo", "list"), false), (("Modulo", "dict"), false)]⟩
def fn0 : List (DefM) := [d_InvalidPrime___init__, d_InvalidText___init__, d_Field___eq__, d_Field___init__, d_Field_name, d_Fractions___init__, d_is_integer, d_is_between, d_power, d_is_witness, d_is_prime, d_Modulo___init__, d_is_numeral, d_Field_named, d_Field_prime, d__law_draw, d__law_pick, d__law_bent_name, d__law_odd, d__law_drawn_prime, d__law_is_prime, d__law_is_whole, d__law_is_fine, d__law_made_field, d__law_pen]
def fn1 : List (DefM) := [d__law_prime, d__law_read, d__law_refused, d_law]
def fn : List (DefM) := fn0 ++ fn1
def fb0 : List (Frag → Bool) := [ckF (.free "ValueError"), ckExc "InvalidPrime" "ValueError.__new__" mValue, ckF (.noat "InvalidPrime" "value"), ckExc "InvalidText" "ValueError.__new__" mValue, ckF (.noat "InvalidText" "line"), ckF (.glo "Field"), ckF (.free "isinstance"), ckF (.cls "Modulo"), ckF (.noat "Modulo" "own_prime"), ckF (.cls "Fractions"), ckF (.noat "Fractions" "own_prime"), fun K => decide (He.ma K (He.ga K "Fractions") "__eq__" = (fun K => He.ma K (He.ga K "Field") "__eq__") K), fun K => decide (He.ma K (He.ga K "Modulo") "__eq__" = (fun K => He.ma K (He.ga K "Field") "__eq__") K), ckF (.str "FRACTIONS" "fractions"), ckF (.str "MODULO" "modulo "), ckBig, ckF (.free "str"), fun K => decide (propG "Fractions" "name" K = (propG "Field" "name") K), fun K => decide (propG "Modulo" "name" K = (propG "Field" "name") K), ckSup "Fractions" "Fractions" "__init__" (fun K => He.ma K (He.ga K "Field") "__init__"), ckF (.free "super"), ckF (.free "int"), ckF (.free "bool"), ckF (.glo "is_integer"), ckF (.glo "power")]
def fb1 : List (Frag → Bool) := [ckF (.free "range"), ckF (.int "MAX_PRIME" 1000000000), ckF (.glo "is_between"), ckF (.glo "SMALL_PRIMES"), ckTup "SMALL_PRIMES" [.int 2, .int 3, .int 5, .int 7, .int 11, .int 13, .int 17, .int 19, .int 23, .int 29, .int 31, .int 37], ckF (.glo "WITNESSES"), ckTup "WITNESSES" [.int 2, .int 3, .int 5, .int 7], ckF (.glo "is_witness"), ckF (.free "any"), ckF (.glo "is_prime"), ckF (.glo "InvalidPrime"), ckSup "Modulo" "Modulo" "__init__" (fun K => He.ma K (He.ga K "Field") "__init__"), ckF (.free "all"), ckF (.glo "InvalidText"), ckF (.mkr "Fractions"), ckF (.glo "Fractions"), ckF (.free "len"), ckF (.glo "is_numeral"), ckF (.int "MAX_DIGITS" 100), ckF (.mkr "Modulo"), ckF (.glo "Modulo"), fun K => decide (propG "Fractions" "prime" K = (propG "Field" "prime") K), fun K => decide (propG "Modulo" "prime" K = (propG "Field" "prime") K), ckF (.free "abs"), ckF (.glo "_law_draw")]
def fb2 : List (Frag → Bool) := [ckF (.glo "_law_pick"), ckF (.glo "_law_odd"), ckF (.glo "_law_is_whole"), ckF (.glo "_law_is_prime"), ckF (.free "list"), ckCr "Field", ckSm "Field" "named", ckExm (fun K => .ref (He.ga K "InvalidText")) [("InvalidPrime", false), ("InvalidText", true)], ckXc "InvalidText", ckSys, ckF (.free "repr"), ckExm (fun K => .ref (He.ga K "InvalidPrime")) [("InvalidPrime", true), ("InvalidText", false)], ckXc "InvalidPrime", ckKt "InvalidPrime" [("ValueError", true), ("LookupError", false), ("ArithmeticError", false), ("OverflowError", false), ("RuntimeError", false)], ckF (.glo "_law_pen"), ckProp "Modulo" "prime", ckProp "Fractions" "prime", ckProp "Modulo" "name", ckProp "Fractions" "name", ckF (.meth "Modulo" "__eq__"), ckNeq "Modulo", fun K => PySem.W.notFirst K (He.ga K "Modulo") (.ref (He.ga K "Modulo")), fun K => PySem.W.notFirst K (He.ga K "Modulo") (.ref (He.ga K "Fractions")), ckF (.meth "Fractions" "__eq__"), ckNeq "Fractions"]
def fb3 : List (Frag → Bool) := [fun K => PySem.W.notFirst K (He.ga K "Fractions") (.ref (He.ga K "Modulo")), fun K => PySem.W.notFirst K (He.ga K "Fractions") (.ref (He.ga K "Fractions")), ckNp "Modulo" "list", ckNp "Modulo" "str", ckNp "Modulo" "int", ckNp "Fractions" "list", ckNp "Fractions" "str", ckNp "Fractions" "int", ckCon "Modulo" "DIGITS" (.int 100), ckCon "Fractions" "DIGITS" (.int 100), ckCv "Field" "DIGITS" 100, ckF (.free "min"), ckF (.glo "_law_drawn_prime"), ckF (.glo "_law_is_fine"), ckF (.glo "_law_refused"), ckF (.glo "_law_prime"), ckF (.glo "_law_bent_name"), ckF (.glo "_law_read"), ckF (.glo "_law_made_field"), ckF (.glo "law"), ckIsi it0]
def fb : List (Frag → Bool) := fb0 ++ fb1 ++ fb2 ++ fb3
abbrev FX (K : Frag) (mg : Str → Option Value) : Prop := Fx PP fb fn K mg
def loose0 : List (PySem.Str) := ["_wall", "__name__", "InvalidPrime", "InvalidNumber", "InvalidText", "TooLong", "MAX_DIGITS", "MAX_TEXT_DIGITS", "MAX_PRIME", "is_integer", "is_between", "is_numeral", "FRACTIONS", "MODULO", "SMALL_PRIMES", "WITNESSES", "common_divisor", "parts_of", "fraction", "power", "is_witness", "is_prime", "ten_to", "is_short", "integer_in"]
def loose1 : List (PySem.Str) := ["Field", "Fractions", "Modulo", "_law_pen", "_law_draw", "_law_pick", "_law_prime", "_law_odd", "_law_made_field", "_law_is_whole", "_law_is_prime", "_law_drawn_prime", "_law_is_fine", "_law_refused", "_law_read", "_law_bent_name"]
def loose : List (PySem.Str) := loose0 ++ loose1
abbrev R : PySem.W.OpenRow := PySem.W.OpenLaw.row PySem.Challenge.rw_firstanswers_k01_fields
abbrev hk : PySem.W.Hook := hookM 6 PP.main.file fb fn
def ob (s : PySem.W.SharedT) : AlM := obsMG 6 PP.main.file fb fn (HandSHeadRun.getT s)
theorem ob_eq (s : PySem.W.SharedT) : ob s = hk.obs s.abs := obsMG_eq (HandSHeadRun.getT_eq s)
theorem run_a (w : World) (os : OsState) : hdA R 20000 w os = some true := by
  kernel_rfl
theorem run_b (w : World) (os : OsState) : hdB R (PySem.W.view R.prog [44]) 20000 loose w os = some (PySem.W.openGood (PySem.W.view R.prog [44]) loose) := by
  kernel_rfl
theorem run_f0 (w : World) (os : OsState) : hdC R (fun s => (fb0).all fun f => f (fgM 6 s)) 20000 w os = some true := by
  kernel_rfl
theorem run_f1 (w : World) (os : OsState) : hdC R (fun s => (fb1).all fun f => f (fgM 6 s)) 20000 w os = some true := by
  kernel_rfl
theorem run_f2 (w : World) (os : OsState) : hdC R (fun s => (fb2).all fun f => f (fgM 6 s)) 20000 w os = some true := by
  kernel_rfl
theorem run_f3 (w : World) (os : OsState) : hdC R (fun s => (fb3).all fun f => f (fgM 6 s)) 20000 w os = some true := by
  kernel_rfl
theorem run_k (w : World) (os : OsState) : hdC R (fun s => fn.all fun d => d.ok PP.main.file (fgM 6 s)) 20000 w os = some true := by
  kernel_rfl
theorem run_v (w : World) (os : OsState) : hdC R (fun s => fn.map fun d => fnWM (fgM 6 s) d) 20000 w os = some (fn.map DefM.val) := by
  kernel_rfl
theorem fb_eq : fb = ((fb0) ++ (fb1)) ++ (fb2) ++ (fb3) := by
  simp only [fb, List.append_assoc]
theorem run_f (w : World) (os : OsState) : hdC R (fun s => fb.all fun f => f (fgM 6 s)) 20000 w os = some true := by
  rw [fb_eq]
  exact (hdC_all (F := fun s => (fgM 6 s)) (l := fb0 ++ fb1 ++ fb2) (m := fb3) (hdC_all (F := fun s => (fgM 6 s)) (l := fb0 ++ fb1) (m := fb2) (hdC_all (F := fun s => (fgM 6 s)) (l := fb0) (m := fb1) (run_f0 w os) (run_f1 w os)) (run_f2 w os)) (run_f3 w os))
theorem run_c (w : World) (os : OsState) : hdC R ob 20000 w os = some (hk.val w) := hdC_pair (hdC_and (run_f w os) (run_k w os)) (run_v w os)
theorem run (w : World) : HandSHeadRun.RunEq R (PySem.W.view R.prog [44]) hk ob 20000 loose w := run_split (H := hk) (run_a w) (run_b w) (run_c w)
end G
set_option Elab.async false
set_option linter.all false
set_option maxRecDepth 100000
set_option maxHeartbeats 0
section
open PySem PySem.W PySem.Calls PyProof.Rows
theorem G.fin (m : Mp.DF) (hf : ∀ {w : World} {K : Frag} {mg : Str → Option Value} {base : Heap}, G.FX K mg → Mp.FnD G.PP w K mg base 8 (He.ga K "law") m) (hok : ∀ ns : List Int, ∃ s', m [.rol (ns.map .int)] [] = .ok (.bl true) s') : PySem.Challenge.rw_firstanswers_k01_fields.Holds := by
  w_on; refine G.okl fun said => ?_
  refine HandSHeadRun.head_any (r := OpenLaw.row PySem.Challenge.rw_firstanswers_k01_fields) (q := view (OpenLaw.row PySem.Challenge.rw_firstanswers_k01_fields).prog [44]) (H := G.hk) (ob := G.ob) (M := 20000) (loose := G.loose) (d := HandSHeadRun.topDef (OpenLaw.row PySem.Challenge.rw_firstanswers_k01_fields).prog 44) (kwd := []) G.ob_eq
    (by kernel_rfl) (fun s => by kernel_rfl) G.run (by kernel_rfl) (by kernel_rfl) (by kernel_rfl) (by rfl) (by first | assumption | decide +kernel) (by decide +kernel) ⟨rfl, rfl, rfl, rfl, rfl, by decide +kernel⟩ ?hw ?hc
  case hw => w_witness2
  case hc =>
    refine Mp.walk_end (l := PySem.Challenge.rw_firstanswers_k01_fields) (n := 63) (k := 8) (m := m) rfl (by decide) (by kernel_rfl) ⟨⟨rfl, by decide, by decide⟩, rfl⟩ ?F (fun ns _ _ => hok ns)
    intro w mg fa h Y N hmg0
    obtain ⟨K, KX, c⟩ := Y
    have hmg : mg ("law" : PySem.Str) = some (.ref fa) := by
      have e : (HandSHeadRun.topDef (OpenLaw.row PySem.Challenge.rw_firstanswers_k01_fields).prog 44).name = ("law" : PySem.Str) := by kernel_rfl
      rw [← e]
      exact hmg0
    have Z : G.FX K mg := ⟨c, h, KX, N⟩
    have e := hmg.symm.trans (Mp.Fx.glo Z 94 rfl)
    cases e
    exact ⟨K, KX, fun base _ _ => hf Z⟩
end
set_option Elab.async false
/-! plain number theory: Fermat's little theorem -/
namespace Pl
/-- a prime, by division -/
def Pr (p : Nat) : Prop := 2 ≤ p ∧ ∀ d, d ∣ p → d = 1 ∨ d = p
theorem Pr.cop {p a : Nat} (h : Pr p) (ha : ¬ p ∣ a) : Nat.Coprime p a := by
  rcases h.2 (Nat.gcd p a) (Nat.gcd_dvd_left p a) with e | e
  · exact e
  · exact absurd (e ▸ Nat.gcd_dvd_right p a) ha
theorem Pr.euclid {p a b : Nat} (h : Pr p) (hd : p ∣ a * b) : p ∣ a ∨ p ∣ b := by
  by_cases ha : p ∣ a
  · exact .inl ha
  · exact .inr (Nat.Coprime.dvd_of_dvd_mul_left (h.cop ha) hd)
def choose : Nat → Nat → Nat
  | _, 0 => 1
  | 0, _ + 1 => 0
  | n + 1, k + 1 => choose n k + choose n (k + 1)
theorem choose_zero (n : Nat) : choose n 0 = 1 := by cases n <;> rfl
theorem choose_gt : ∀ n k : Nat, n < k → choose n k = 0
  | _, 0, h => by omega
  | 0, _ + 1, _ => rfl
  | n + 1, k + 1, h => by
    show choose n k + choose n (k + 1) = 0
    rw [choose_gt n k (by omega), choose_gt n (k + 1) (by omega)]
theorem choose_self : ∀ n : Nat, choose n n = 1
  | 0 => rfl
  | n + 1 => by
    show choose n n + choose n (n + 1) = 1
    rw [choose_self n, choose_gt n (n + 1) (by omega)]
theorem choose_mul : ∀ n k : Nat, (k + 1) * choose (n + 1) (k + 1) = (n + 1) * choose n k
  | 0, 0 => rfl
  | 0, k + 1 => by
    show (k + 2) * (choose 0 (k + 1) + choose 0 (k + 2)) = 1 * choose 0 (k + 1)
    rw [choose_gt 0 (k + 1) (by omega), choose_gt 0 (k + 2) (by omega)]
    omega
  | n + 1, 0 => by
    have h : 1 * choose (n + 1) 1 = (n + 1) * choose n 0 := choose_mul n 0
    show 1 * choose (n + 2) 1 = (n + 2) * choose (n + 1) 0
    have e : choose (n + 2) 1 = choose (n + 1) 0 + choose (n + 1) 1 := rfl
    rw [choose_zero] at *
    rw [e]
    omega
  | n + 1, k + 1 => by
    have h1 := choose_mul n (k + 1)
    have h0 := choose_mul n k
    have e1 : choose (n + 2) (k + 2) = choose (n + 1) (k + 1) + choose (n + 1) (k + 2) := rfl
    have e2 : choose (n + 1) (k + 1) = choose n k + choose n (k + 1) := rfl
    rw [e1, Nat.mul_add]
    have : (k + 1 + 1) * choose (n + 1) (k + 1) = (k + 1) * choose (n + 1) (k + 1) + choose (n + 1) (k + 1) := by
      rw [Nat.add_mul, Nat.one_mul]
    rw [this, h0, h1]
    have e3 : (n + 1 + 1) * choose (n + 1) (k + 1) = (n + 1) * choose (n + 1) (k + 1) + choose (n + 1) (k + 1) := by
      rw [Nat.add_mul, Nat.one_mul]
    rw [e3, e2, Nat.mul_add]
    omega
theorem Pr.dvd_choose {p k : Nat} (h : Pr p) (h0 : 0 < k) (hk : k < p) : p ∣ choose p k := by
  obtain ⟨n, rfl⟩ : ∃ n, p = n + 1 := ⟨p - 1, by have := h.1; omega⟩
  obtain ⟨j, rfl⟩ : ∃ j, k = j + 1 := ⟨k - 1, by omega⟩
  have e := choose_mul n j
  have d : (n + 1) ∣ (j + 1) * choose (n + 1) (j + 1) := ⟨choose n j, e⟩
  rcases h.euclid d with d | d
  · exact absurd (Nat.le_of_dvd (by omega) d) (by omega)
  · exact d
/-- the sum of f 0 .. f (n - 1) -/
def sumTo (f : Nat → Nat) : Nat → Nat
  | 0 => 0
  | n + 1 => sumTo f n + f n
theorem sumTo_add (f g : Nat → Nat) : ∀ n, sumTo (fun k => f k + g k) n = sumTo f n + sumTo g n
  | 0 => rfl
  | n + 1 => by
    show sumTo (fun k => f k + g k) n + (f n + g n) = sumTo f n + f n + (sumTo g n + g n)
    rw [sumTo_add f g n]
    omega
theorem sumTo_mul (c : Nat) (f : Nat → Nat) : ∀ n, sumTo (fun k => c * f k) n = c * sumTo f n
  | 0 => rfl
  | n + 1 => by
    show sumTo (fun k => c * f k) n + c * f n = c * (sumTo f n + f n)
    rw [sumTo_mul c f n, Nat.mul_add]
theorem sumTo_front (f : Nat → Nat) : ∀ n, sumTo f (n + 1) = f 0 + sumTo (fun k => f (k + 1)) n
  | 0 => by simp [sumTo]
  | n + 1 => by
    show sumTo f (n + 1) + f (n + 1) = f 0 + (sumTo (fun k => f (k + 1)) n + f (n + 1))
    rw [sumTo_front f n]
    omega
theorem sumTo_congr {f g : Nat → Nat} : ∀ {n : Nat}, (∀ k, k < n → f k = g k) → sumTo f n = sumTo g n
  | 0, _ => rfl
  | n + 1, h => by
    show sumTo f n + f n = sumTo g n + g n
    rw [sumTo_congr fun k hk => h k (by omega), h n (by omega)]
theorem sumTo_dvd {p : Nat} {f : Nat → Nat} : ∀ {n : Nat}, (∀ k, k < n → p ∣ f k) → p ∣ sumTo f n
  | 0, _ => Nat.dvd_zero p
  | n + 1, h => Nat.dvd_add (sumTo_dvd fun k hk => h k (by omega)) (h n (by omega))
theorem binom (a : Nat) : ∀ n, (a + 1) ^ n = sumTo (fun k => choose n k * a ^ k) (n + 1)
  | 0 => by simp [sumTo, choose]
  | n + 1 => by
    rw [Nat.pow_succ, binom a n, sumTo_front (fun k => choose (n + 1) k * a ^ k) (n + 1)]
    have e : sumTo (fun k => choose (n + 1) (k + 1) * a ^ (k + 1)) (n + 1) = sumTo (fun k => a * (choose n k * a ^ k) + choose n (k + 1) * a ^ (k + 1)) (n + 1) :=
      sumTo_congr fun k _ => by
        show (choose n k + choose n (k + 1)) * a ^ (k + 1) = _
        rw [Nat.add_mul, Nat.pow_succ]
        congr 1
        rw [Nat.mul_comm a, Nat.mul_assoc]
    rw [e, sumTo_add, sumTo_mul]
    have e2 : sumTo (fun k => choose n (k + 1) * a ^ (k + 1)) (n + 1) + choose n 0 * a ^ 0 = sumTo (fun k => choose n k * a ^ k) (n + 1) := by
      rw [sumTo_front (fun k => choose n k * a ^ k) n]
      show sumTo (fun k => choose n (k + 1) * a ^ (k + 1)) n + choose n (n + 1) * a ^ (n + 1) + _ = _
      rw [choose_gt n (n + 1) (by omega)]
      omega
    rw [choose_zero] at e2 ⊢
    rw [Nat.mul_add, Nat.mul_one, Nat.mul_comm _ a]
    omega
theorem Pr.frob {p : Nat} (h : Pr p) : ∀ a : Nat, a ^ p % p = a % p
  | 0 => by
    have := h.1
    rw [Nat.zero_pow (by omega)]
  | a + 1 => by
    have h2 := h.1
    rw [binom a p]
    obtain ⟨n, rfl⟩ : ∃ n, p = n + 1 := ⟨p - 1, by omega⟩
    show (sumTo (fun k => choose (n + 1) k * a ^ k) (n + 1) + choose (n + 1) (n + 1) * a ^ (n + 1)) % (n + 1) = _
    rw [sumTo_front, choose_zero, choose_self, Nat.one_mul, Nat.one_mul, Nat.pow_zero]
    have d : (n + 1) ∣ sumTo (fun k => choose (n + 1) (k + 1) * a ^ (k + 1)) n := sumTo_dvd fun k hk => Nat.dvd_trans (h.dvd_choose (by omega) (by omega)) (Nat.dvd_mul_right _ _)
    obtain ⟨q, hq⟩ := d
    rw [hq]
    have f := h.frob a
    rw [show 1 + (n + 1) * q + a ^ (n + 1) = a ^ (n + 1) + 1 + (n + 1) * q by omega, Nat.add_mul_mod_self_left, Nat.add_mod, f, ← Nat.add_mod]
theorem Pr.fermat {p a : Nat} (h : Pr p) (ha : ¬ p ∣ a) : a ^ (p - 1) % p = 1 := by
  have h2 := h.1
  have f := h.frob a
  obtain ⟨n, rfl⟩ : ∃ n, p = n + 1 := ⟨p - 1, by omega⟩
  show a ^ n % (n + 1) = 1
  rw [Nat.pow_succ] at f
  have h0 : 1 ≤ a ^ n := by
    by_cases z : a = 0
    · subst z
      exact absurd (Nat.dvd_zero _) ha
    · exact Nat.pow_pos (by omega)
  have d : (n + 1) ∣ (a ^ n - 1) * a := by
    rw [Nat.sub_mul, Nat.one_mul]
    exact Nat.dvd_of_mod_eq_zero (Nat.sub_mod_eq_zero_of_mod_eq f)
  rcases h.euclid d with d | d
  · obtain ⟨q, hq⟩ := d
    rw [show a ^ n = 1 + (n + 1) * q by omega, Nat.add_mul_mod_self_left]
    exact Nat.mod_eq_of_lt (by omega)
  · exact absurd d ha
/-- a prime by trial of all divisors up to its root -/
def noDiv (p : Nat) : Nat → Nat → Bool
  | 0, _ => true
  | n + 1, d => p % d != 0 && noDiv p n (d + 1)
theorem noDiv_spec {p : Nat} : ∀ {n d : Nat}, noDiv p n d = true → ∀ e, d ≤ e → e < d + n → p % e ≠ 0
  | 0, _, _, e, h1, h2 => by omega
  | n + 1, d, h, e, h1, h2 => by
    unfold noDiv at h
    rw [Bool.and_eq_true] at h
    by_cases z : e = d
    · subst z
      simpa using h.1
    · exact noDiv_spec h.2 e (by omega) (by omega)
theorem pr_of {p n : Nat} (h2 : 2 ≤ p) (hn : p < (n + 2) * (n + 2)) (h : noDiv p n 2 = true) : Pr p := by
  have key : ∀ d, d ∣ p → 2 ≤ d → d < n + 2 → False := fun d hd h1 h3 => noDiv_spec h d h1 (by omega) (Nat.mod_eq_zero_of_dvd hd)
  refine ⟨h2, fun d hd => ?_⟩
  obtain ⟨e, he⟩ := hd
  by_cases d0 : d = 0
  · subst d0
    omega
  by_cases e0 : e = 0
  · subst e0
    omega
  by_cases d1 : d = 1
  · exact .inl d1
  by_cases e1 : e = 1
  · subst e1
    exact .inr (by omega)
  exfalso
  by_cases hd : d < n + 2
  · exact key d ⟨e, he⟩ (by omega) hd
  · by_cases he' : e < n + 2
    · exact key e ⟨d, by rw [he, Nat.mul_comm]⟩ (by omega) he'
    · have : (n + 2) * (n + 2) ≤ d * e := Nat.mul_le_mul (by omega) (by omega)
      omega
theorem pr2 : Pr 2 := pr_of (n := 0) (by decide) (by decide) rfl
theorem pr3 : Pr 3 := pr_of (n := 0) (by decide) (by decide) rfl
theorem pr5 : Pr 5 := pr_of (n := 1) (by decide) (by decide) rfl
theorem pr7 : Pr 7 := pr_of (n := 1) (by decide) (by decide) rfl
theorem pr101 : Pr 101 := pr_of (n := 9) (by decide) (by decide) (by decide +kernel)
theorem prBig : Pr 1000003 := pr_of (n := 1000) (by decide) (by decide) (by decide +kernel)
end Pl
set_option Elab.async false
set_option linter.all false
/-! plain: remainders -/
namespace Pl
theorem mul_mod_l (a b m : Int) : (a % m * b) % m = (a * b) % m := by
  rw [Int.mul_emod, Int.emod_emod_of_dvd _ (Int.dvd_refl m), ← Int.mul_emod]
theorem pow_mod (a m : Int) : ∀ n : Nat, ((a % m) ^ n) % m = (a ^ n) % m
  | 0 => by rw [Int.pow_zero, Int.pow_zero]
  | n + 1 => by
    rw [Int.pow_succ, Int.pow_succ, Int.mul_emod, pow_mod a m n, Int.emod_emod_of_dvd _ (Int.dvd_refl m), ← Int.mul_emod]
theorem mulpow_mod (a b m : Int) (n : Nat) : (a * (b % m) ^ n) % m = (a * b ^ n) % m := by
  rw [Int.mul_emod, pow_mod, ← Int.mul_emod]
theorem sq_pow (x : Int) (u : Nat) : (x * x) ^ u = x ^ (2 * u) := by
  rw [Int.pow_mul, Int.pow_succ, Int.pow_succ, Int.pow_zero, Int.one_mul]
/-- one turn of the power loop -/
theorem pw_even {f x m : Int} {t : Nat} (ht : t % 2 = 0) : (f * (x * x % m) ^ (t / 2)) % m = (f * x ^ t) % m := by
  rw [mulpow_mod, sq_pow, show 2 * (t / 2) = t by omega]
theorem pw_odd {f x m : Int} {t : Nat} (ht : t % 2 = 1) : ((f * x % m) * (x * x % m) ^ (t / 2)) % m = (f * x ^ t) % m := by
  rw [mulpow_mod, sq_pow, mul_mod_l, Int.mul_assoc, show x * x ^ (2 * (t / 2)) = x ^ t from by
    rw [Int.mul_comm, ← Int.pow_succ, show (2 * (t / 2)).succ = t by omega]]
end Pl
set_option Elab.async false
set_option linter.all false
/-! plain: fractions as rationals -/
namespace Pl
def dv (t b : Int) : Int := if 0 < b then (Int.gcd t b : Nat) else -((Int.gcd t b : Nat) : Int)
theorem gcd_pos' {t b : Int} (h : b ≠ 0) : 0 < Int.gcd t b := Nat.pos_of_ne_zero fun z => h (Int.gcd_eq_zero_iff.mp z).2
theorem dv_ne {t b : Int} (h : b ≠ 0) : dv t b ≠ 0 := by
  have := gcd_pos' (t := t) h
  unfold dv
  split <;> omega
theorem dv_t {t b : Int} : dv t b ∣ t := by
  unfold dv
  split
  · exact Int.gcd_dvd_left ..
  · exact Int.neg_dvd.mpr (Int.gcd_dvd_left ..)
theorem dv_b {t b : Int} : dv t b ∣ b := by
  unfold dv
  split
  · exact Int.gcd_dvd_right ..
  · exact Int.neg_dvd.mpr (Int.gcd_dvd_right ..)
theorem dv_abs {t b : Int} : (dv t b).natAbs = Int.gcd t b := by
  unfold dv
  split <;> simp
theorem dv_sign {t b : Int} (h : b ≠ 0) : 0 < b / dv t b := by
  obtain ⟨k, hk⟩ := dv_b (t := t) (b := b)
  have hd := dv_ne (t := t) h
  have e : b / dv t b = k := by
    conv => lhs; lhs; rw [hk]
    exact Int.mul_ediv_cancel_left _ hd
  rw [e]
  have hg := gcd_pos' (t := t) h
  by_cases hb : 0 < b
  · have : dv t b = (Int.gcd t b : Nat) := if_pos hb
    rw [this] at hk
    refine Int.pos_of_mul_pos_right (a := ((Int.gcd t b : Nat) : Int)) ?_ (by omega)
    omega
  · have : dv t b = -((Int.gcd t b : Nat) : Int) := if_neg hb
    rw [this] at hk
    refine Int.pos_of_mul_pos_right (a := ((Int.gcd t b : Nat) : Int)) ?_ (by omega)
    rw [Int.neg_mul] at hk
    omega
theorem dv_cop {t b : Int} (h : b ≠ 0) : Int.gcd (t / dv t b) (b / dv t b) = 1 := by
  have hg := gcd_pos' (t := t) h
  rw [Int.gcd_ediv dv_t dv_b, dv_abs]
  exact Nat.div_self hg
/-- a fraction's lowest terms -/
theorem rat_nf {t b : Int} (h : b ≠ 0) : (Rat.divInt t b).num = t / dv t b ∧ ((Rat.divInt t b).den : Int) = b / dv t b := by
  have hs := dv_sign (t := t) h
  have hc := dv_cop (t := t) h
  have hd := dv_ne (t := t) h
  have hm : ((b / dv t b).toNat : Int) = b / dv t b := by omega
  have hr : (t / dv t b).natAbs.Coprime (b / dv t b).toNat := by
    unfold Nat.Coprime
    rw [← hc]
    unfold Int.gcd
    congr 1
    omega
  have e : Rat.divInt t b = (⟨t / dv t b, (b / dv t b).toNat, by omega, hr⟩ : Rat) := by
    rw [Rat.mk_eq_divInt, hm, Rat.divInt_eq_divInt_iff h (by omega)]
    obtain ⟨k, hk⟩ := dv_b (t := t) (b := b)
    obtain ⟨l, hl⟩ := dv_t (t := t) (b := b)
    have e1 : b / dv t b = k := by
      conv => lhs; lhs; rw [hk]
      exact Int.mul_ediv_cancel_left _ hd
    have e2 : t / dv t b = l := by
      conv => lhs; lhs; rw [hl]
      exact Int.mul_ediv_cancel_left _ hd
    rw [e1, e2]
    conv => lhs; rw [hl]
    conv => rhs; rw [hk]
    rw [Int.mul_comm (dv t b) l, Int.mul_assoc]
  rw [e]
  exact ⟨rfl, hm⟩
end Pl
set_option Elab.async false
set_option linter.all false
/-! plain: remainders of fractions -/
namespace Pl
end Pl
set_option Elab.async false
set_option linter.all false
set_option maxRecDepth 100000
/-! Pl: what is wanted behind a computation on data; one rule a construct. -/
namespace Pl
open Mp
open PySem (Str sizeLine)
/-- what is wanted of an expression's end -/
def RP {T : Type} (Q : T → Sto → Prop) (E : Str → List (Str × D) → Sto → Prop) : Res T → Prop
  | .ok a s => Q a s
  | .exc C fs s => E C fs s
  | .bad => False
structure PQ where
  nx : En → Sto → Prop
  rt : D → Sto → Prop
  bk : En → Sto → Prop
  ct : En → Sto → Prop
  ex : Str → List (Str × D) → En → Sto → Prop
def FP (q : PQ) : Fl → Prop
  | .nx r s => q.nx r s
  | .rt d s => q.rt d s
  | .bk r s => q.bk r s
  | .ct r s => q.ct r s
  | .exc C fs r s => q.ex C fs r s
  | .bad => False
abbrev XT := Str → List (Str × D) → Sto → Prop
abbrev noX : XT := fun _ _ _ => False
section
variable {T U : Type} {Q Q' : T → Sto → Prop} {E E' : XT} {r : En} {s : Sto} {q q' : PQ}
theorem RP.mono {m : Res T} (h : RP Q E m) (hq : ∀ a s, Q a s → Q' a s) (he : ∀ C fs s, E C fs s → E' C fs s) : RP Q' E' m := by
  cases m with
  | ok a s => exact hq a s h
  | exc C fs s => exact he C fs s h
  | bad => exact h
theorem RP.imp {m : Res T} (h : RP Q noX m) (hq : ∀ a s, Q a s → Q' a s) : RP Q' E m := h.mono hq fun _ _ _ z => z.elim
theorem RP.of {m : Res T} {a : T} {s' : Sto} (h : m = .ok a s') (hq : Q a s') : RP Q E m := by
  rw [h]
  exact hq
theorem RP.ex {m : Res T} (h : RP Q noX m) : ∃ a s', m = .ok a s' ∧ Q a s' := by
  cases m with
  | ok a s => exact ⟨a, s, rfl, h⟩
  | exc C fs s => exact h.elim
  | bad => exact h.elim
theorem FP.mono {f : Fl} (h : FP q f) (h1 : ∀ r s, q.nx r s → q'.nx r s) (h2 : ∀ d s, q.rt d s → q'.rt d s) (h3 : ∀ r s, q.bk r s → q'.bk r s) (h4 : ∀ r s, q.ct r s → q'.ct r s) (h5 : ∀ C fs r s, q.ex C fs r s → q'.ex C fs r s) : FP q' f := by
  cases f with
  | nx r s => exact h1 _ _ h
  | rt d s => exact h2 _ _ h
  | bk r s => exact h3 _ _ h
  | ct r s => exact h4 _ _ h
  | exc C fs r s => exact h5 _ _ _ _ h
  | bad => exact h
theorem w_ok {a : T} (h : Q a s) : RP Q E (.ok a s) := h
theorem w_bind {m : DM T} {f : T → DM U} {Q : U → Sto → Prop} (h : RP (fun a s' => RP Q E (f a r s')) E (m r s)) : RP Q E (Mp.bindM m f r s) := by
  unfold Mp.bindM
  cases e : m r s <;> rw [e] at h <;> exact h
theorem w_pure {a : T} (h : Q a s) : RP Q E (pureM a r s) := h
theorem w_then {m : DM T} {f : T → DS} (h : RP (fun a s' => FP q (f a r s')) (fun C fs s' => q.ex C fs r s') (m r s)) : FP q (thenS m f r s) := by
  unfold thenS
  cases e : m r s <;> rw [e] at h <;> exact h
theorem w_seq {a b : DS} (h : FP ⟨fun r' s' => FP q (b r' s'), q.rt, q.bk, q.ct, q.ex⟩ (a r s)) : FP q (seqS a b r s) := by
  unfold seqS
  cases e : a r s <;> rw [e] at h <;> exact h
/-- with a word between two statements -/
theorem w_mid {a b : DS} (P : En → Sto → Prop) (h1 : FP ⟨P, q.rt, q.bk, q.ct, q.ex⟩ (a r s)) (h2 : ∀ r' s', P r' s' → FP q (b r' s')) : FP q (seqS a b r s) := w_seq (h1.mono h2 (fun _ _ h => h) (fun _ _ h => h) (fun _ _ h => h) fun _ _ _ _ h => h)
end
section
variable {Q : D → Sto → Prop} {E : XT} {r : En} {s : Sto} {q : PQ} {a b c : DE} {f : D → D → Sto → Res D}
theorem w_v {i : Nat} {d : D} (h : r[i]? = some (some d)) (hq : Q d s) : RP Q E (vM i r s) := by
  unfold vM
  rw [h]
  exact hq
theorem w_c {d : D} (hq : Q d s) : RP Q E (cM d r s) := hq
theorem w_bin (h : RP (fun x s1 => RP (fun y s2 => RP Q E (f x y s2)) E (b r s1)) E (a r s)) : RP Q E (binM f a b r s) := w_bind (h.mono (fun _ _ h => w_bind h) fun _ _ _ h => h)
theorem w_un {g : D → Sto → Res D} (h : RP (fun x s1 => RP Q E (g x s1)) E (a r s)) : RP Q E (unM g a r s) := w_bind h
theorem w_arg {m : DM (List D)} {g : List D → Sto → Res D} (h : RP (fun x s1 => RP Q E (g x s1)) E (m r s)) : RP Q E (argM g m r s) := w_bind h
theorem w_call {m : DM (List D)} {g : DF} (h : RP (fun x s1 => RP Q E (g x s1)) E (m r s)) : RP Q E (callM g m r s) := w_bind h
theorem w_nil {Q : List D → Sto → Prop} (h : Q [] s) : RP Q E (nilA r s) := h
theorem w_cons {Q : List D → Sto → Prop} {m : DM (List D)} (h : RP (fun x s1 => RP (fun l s2 => Q (x :: l) s2) E (m r s1)) E (a r s)) : RP Q E (consA a m r s) := w_bind (h.mono (fun _ _ h => w_bind h) fun _ _ _ h => h)
theorem w_star {Q : List D → Sto → Prop} (h : RP (fun x s1 => ∃ l, x = .tup l ∧ Q l s1) E (a r s)) : RP Q E (starA a r s) := w_bind (h.mono (fun x s ⟨l, e, h⟩ => by
  subst e
  exact h) fun _ _ _ h => h)
theorem w_tru {Q : Bool → Sto → Prop} (h : RP (fun x s1 => ∃ k, truD s1 x = some k ∧ Q k s1) E (a r s)) : RP Q E (truM a r s) := w_bind (h.mono (fun x s ⟨k, e, h⟩ => by
  rw [e]
  exact h) fun _ _ _ h => h)
theorem w_bl {Q : Bool → Sto → Prop} (h : RP (fun x s1 => ∃ k, x = .bl k ∧ Q k s1) E (a r s)) : RP Q E (blM a r s) := w_bind (h.mono (fun x s ⟨k, e, h⟩ => by
  subst e
  exact h) fun _ _ _ h => h)
theorem w_not (h : RP (fun k s1 => Q (.bl (!k)) s1) E (truM a r s)) : RP Q E (notV a r s) := w_bind h
theorem w_and (h : RP (fun x s1 => ∃ k, truD s1 x = some k ∧ (k = true → RP Q E (b r s1)) ∧ (k = false → Q x s1)) E (a r s)) : RP Q E (andV a b r s) := w_bind (h.mono (fun x s ⟨k, e, h1, h2⟩ => w_bind (w_tru (w_c ⟨k, e, by
  cases k
  · exact h2 rfl
  · exact h1 rfl⟩))) fun _ _ _ h => h)
theorem w_or (h : RP (fun x s1 => ∃ k, truD s1 x = some k ∧ (k = false → RP Q E (b r s1)) ∧ (k = true → Q x s1)) E (a r s)) : RP Q E (orV a b r s) := w_bind (h.mono (fun x s ⟨k, e, h1, h2⟩ => w_bind (w_tru (w_c ⟨k, e, by
  cases k
  · exact h1 rfl
  · exact h2 rfl⟩))) fun _ _ _ h => h)
theorem w_notT {Q : Bool → Sto → Prop} {c : DM Bool} (h : RP (fun k s1 => Q (!k) s1) E (c r s)) : RP Q E (notT c r s) := w_bind h
theorem w_andT {Q : Bool → Sto → Prop} {c d : DM Bool} (h : RP (fun k s1 => (k = true → RP Q E (d r s1)) ∧ (k = false → Q false s1)) E (c r s)) : RP Q E (andT c d r s) := w_bind (h.mono (fun k s h => by
  cases k
  · exact h.2 rfl
  · exact h.1 rfl) fun _ _ _ h => h)
theorem w_orT {Q : Bool → Sto → Prop} {c d : DM Bool} (h : RP (fun k s1 => (k = false → RP Q E (d r s1)) ∧ (k = true → Q true s1)) E (c r s)) : RP Q E (orT c d r s) := w_bind (h.mono (fun k s h => by
  cases k
  · exact h.1 rfl
  · exact h.2 rfl) fun _ _ _ h => h)
theorem w_ifM {c : DM Bool} (h : RP (fun k s1 => (k = true → RP Q E (a r s1)) ∧ (k = false → RP Q E (b r s1))) E (c r s)) : RP Q E (ifM c a b r s) := w_bind (h.mono (fun k s h => by
  cases k
  · exact h.2 rfl
  · exact h.1 rfl) fun _ _ _ h => h)
theorem w_chain {g : D → D → Sto → Res D} (h : RP (fun x s1 => RP (fun y s2 => RP (fun z s3 => ∃ k, z = .bl k ∧ (k = true → RP (fun u s4 => RP Q E (g y u s4)) E (c r s3)) ∧ (k = false → Q (.bl false) s3)) E (f x y s2)) E (b r s1)) E (a r s)) : RP Q E (chainM f g a b c r s) := w_bind (h.mono (fun x s1 h => w_bind (h.mono (fun y s2 h => by
  cases e : f x y s2 with
  | ok z s3 =>
    rw [e] at h
    obtain ⟨k, rfl, h1, h2⟩ := h
    cases k
    · exact h2 rfl
    · exact w_bind (m := c) (f := fun u => fun _ s => g y u s) (h1 rfl)
  | exc C fs s3 => rw [e] at h; exact h
  | bad => rw [e] at h; exact h) fun _ _ _ h => h)) fun _ _ _ h => h)
theorem w_attr {tb : List (Str × Ak)} {f : Str} (h : RP (fun x s1 => RP Q E (attrD tb f x s1)) E (a r s)) : RP Q E (attrM tb f a r s) := w_bind h
theorem w_meth {tb : List (Str × DF)} {m : Str} {l : DM (List D)} (h : RP (fun x s1 => ∃ C fs f, insOf s1 x = some (C, fs) ∧ fs.lookup m = none ∧ tb.lookup C = some f ∧ RP (fun ds s2 => RP Q E (f (x :: ds) s2)) E (l r s1)) E (a r s)) : RP Q E (methM tb m a l r s) := w_bind (h.mono (fun x s1 ⟨C, fs, f, e1, e2, e3, h⟩ => by
  rw [e1]
  dsimp only
  rw [e2]
  dsimp only
  rw [e3]
  exact w_bind h) fun _ _ _ h => h)
theorem w_super {tb : List (Str × DF)} {l : DM (List D)} (h : RP (fun x s1 => ∃ C fs f, insOf s1 x = some (C, fs) ∧ tb.lookup C = some f ∧ RP (fun ds s2 => RP Q E (f (x :: ds) s2)) E (l r s1)) E (vM 0 r s)) : RP Q E (superM tb l r s) := w_bind (h.mono (fun x s1 ⟨C, fs, f, e1, e3, h⟩ => by
  rw [e1]
  dsimp only
  rw [e3]
  exact w_bind h) fun _ _ _ h => h)
theorem w_superS {tb : List (Str × DF)} {l : DM (List D)} (h : RP (fun _ s' => q.nx r s') (fun C fs s' => q.ex C fs r s') (superM tb l r s)) : FP q (superS tb l r s) := w_then h
theorem w_make {k : Bool} {C : Str} {m : DF} {l : DM (List D)} (h : RP (fun ds s1 => RP (fun v s2 => v = .non ∧ RP Q E (freezeI k s1.length s2)) E (m (.cel s1.length :: ds) (s1 ++ [some (.ins C [])]))) E (l r s)) : RP Q E (makeM k C m l r s) := w_bind (h.mono (fun ds s1 h => by
  cases e : m (.cel s1.length :: ds) (s1 ++ [some (.ins C [])]) with
  | ok v s2 =>
    rw [e] at h
    obtain ⟨rfl, h⟩ := h
    exact h
  | exc C fs s3 => rw [e] at h; exact h
  | bad => rw [e] at h; exact h) fun _ _ _ h => h)
theorem w_freeze {n : Nat} {C : Str} {fs : List (Str × D)} (h : s[n]? = some (some (.ins C fs))) (hq : Q (.ins C fs) (s.set n none)) : RP Q E (freezeI false n s) := by
  unfold freezeI
  rw [if_neg (by decide), h]
  exact hq
theorem w_opt {Q : Option Int → Sto → Prop} (h : RP (fun x s1 => ∃ i, x = .int i ∧ Q (some i) s1) E (a r s)) : RP Q E (optM a r s) := w_bind (h.mono (fun x s ⟨i, e, h⟩ => by
  subst e
  exact h) fun _ _ _ h => h)
theorem w_sli {k : Bool} {l u : DM (Option Int)} (h : RP (fun x s1 => RP (fun lo s2 => RP (fun hi s3 => RP Q E (sliD k x lo hi s3)) E (u r s2)) E (l r s1)) E (a r s)) : RP Q E (sliM k a l u r s) := w_bind (h.mono (fun _ _ h => w_bind (h.mono (fun _ _ h => w_bind h) fun _ _ _ h => h)) fun _ _ _ h => h)
/-! dict displays -/
theorem w_pairs0 {Q : List (D × D) → Sto → Prop} (h : Q [] s) : RP Q E (pairsM [] r s) := h
theorem w_pairs1 {Q : List (D × D) → Sto → Prop} {l : List (DE × DE)} (h : RP (fun x s1 => RP (fun y s2 => RP (fun l s3 => Q ((x, y) :: l) s3) E (pairsM l r s2)) E (b r s1)) E (a r s)) : RP Q E (pairsM ((a, b) :: l) r s) := w_bind (h.mono (fun _ _ h => w_bind (h.mono (fun _ _ h => w_bind h) fun _ _ _ h => h)) fun _ _ _ h => h)
theorem w_disp {l : List (DE × DE)} (h : RP (fun ps s1 => ∃ kvs, keyed ps = some kvs ∧ kvs.length ≤ 15 ∧ Q (.cel s1.length) (s1 ++ [some (.dct (mergeA [] kvs))])) E (pairsM l r s)) : RP Q E (dispM l r s) := w_bind (h.mono (fun ps s1 ⟨kvs, e, hl, h⟩ => by
  rw [e]
  dsimp only
  rw [if_pos hl]
  exact h) fun _ _ _ h => h)
/-! statements -/
theorem w_skip (h : q.nx r s) : FP q (skipS r s) := h
theorem w_brk (h : q.bk r s) : FP q (brkS r s) := h
theorem w_cnt (h : q.ct r s) : FP q (cntS r s) := h
theorem w_set {i : Nat} (h : RP (fun d s' => q.nx (r.set i (some d)) s') (fun C fs s' => q.ex C fs r s') (a r s)) : FP q (setS i a r s) := w_then h
theorem w_expr (h : RP (fun _ s' => q.nx r s') (fun C fs s' => q.ex C fs r s') (a r s)) : FP q (exprS a r s) := w_then h
theorem w_ret (h : RP (fun d s' => q.rt d s') (fun C fs s' => q.ex C fs r s') (a r s)) : FP q (retS a r s) := w_then h
theorem w_retN (h : q.rt .non s) : FP q (retN r s) := h
theorem w_if {c : DM Bool} {x y : DS} (h : RP (fun k s1 => (k = true → FP q (x r s1)) ∧ (k = false → FP q (y r s1))) (fun C fs s' => q.ex C fs r s') (c r s)) : FP q (ifS c x y r s) := w_then (h.mono (fun k s h => by
  cases k
  · exact h.2 rfl
  · exact h.1 rfl) fun _ _ _ h => h)
theorem w_asg {g : DG} (h : RP (fun d s' => ∃ p, g d r s' = some p ∧ q.nx p.1 p.2) (fun C fs s' => q.ex C fs r s') (a r s)) : FP q (asgS a g r s) := w_then (h.mono (fun d s ⟨p, e, h⟩ => by
  rw [e]
  exact h) fun _ _ _ h => h)
theorem w_par2 {i j : Nat} {m : DM (List D)} (h : RP (fun ds s' => ∃ x y, ds = [x, y] ∧ q.nx ((r.set i (some x)).set j (some y)) s') (fun C fs s' => q.ex C fs r s') (m r s)) : FP q (par2S i j m r s) := w_then (h.mono (fun d s ⟨x, y, e, h⟩ => by
  subst e
  exact h) fun _ _ _ h => h)
theorem w_par3 {i j k : Nat} {m : DM (List D)} (h : RP (fun ds s' => ∃ x y z, ds = [x, y, z] ∧ q.nx (((r.set i (some x)).set j (some y)).set k (some z)) s') (fun C fs s' => q.ex C fs r s') (m r s)) : FP q (par3S i j k m r s) := w_then (h.mono (fun d s ⟨x, y, z, e, h⟩ => by
  subst e
  exact h) fun _ _ _ h => h)
theorem w_aug {i : Nat} (h : RP (fun d s' => q.nx (r.set i (some d)) s') (fun C fs s' => q.ex C fs r s') (binM f (vM i) a r s)) : FP q (augS i f a r s) := w_then h
theorem w_sub (h : RP (fun y s1 => RP (fun x s2 => RP (fun z s3 => ∃ s4, putI x z y s3 = some s4 ∧ q.nx r s4) (fun C fs s' => q.ex C fs r s') (b r s2)) (fun C fs s' => q.ex C fs r s') (a r s1)) (fun C fs s' => q.ex C fs r s') (c r s)) : FP q (subS a b c r s) := w_then (h.mono (fun _ _ h => w_then (h.mono (fun _ _ h => w_then (h.mono (fun z s3 ⟨s4, e, h⟩ => by
  rw [e]
  exact h) fun _ _ _ h => h)) fun _ _ _ h => h)) fun _ _ _ h => h)
theorem w_fld {tb : List Str} {f : Str} (h : RP (fun y s1 => RP (fun x s2 => ∃ n C fs, x = .cel n ∧ s2[n]? = some (some (.ins C fs)) ∧ C ∈ tb ∧ fs.length < 1000 ∧ q.nx r (s2.set n (some (.ins C (putD f y fs))))) (fun C fs s' => q.ex C fs r s') (a r s1)) (fun C fs s' => q.ex C fs r s') (b r s)) : FP q (fldS tb f a b r s) := w_then (h.mono (fun _ _ h => w_then (h.mono (fun x s2 ⟨n, C, fs, e, e1, h1, h2, h⟩ => by
  subst e
  dsimp only
  rw [e1]
  dsimp only
  rw [if_pos ⟨h1, h2⟩]
  exact h) fun _ _ _ h => h)) fun _ _ _ h => h)
theorem w_raise {C f : Str} {m : DM (List D)} (h : RP (fun ds s' => ∃ d, ds = [d] ∧ q.ex C [(f, d)] r s') (fun C fs s' => q.ex C fs r s') (m r s)) : FP q (raiseS C f m r s) := w_then (h.mono (fun d s ⟨x, e, h⟩ => by
  subst e
  exact h) fun _ _ _ h => h)
theorem w_raise0 {C : Str} (h : q.ex C [] r s) : FP q (raise0S C r s) := h
theorem w_noExc {f : Fl} (h : FP ⟨q.nx, q.rt, q.bk, q.ct, fun _ _ _ _ => False⟩ f) : FP q (noExc f) := by
  cases f with
  | exc C fs r s => exact h.elim
  | _ => exact h
theorem w_try {x y : DS} {tb : List (Str × Bool)} (h : FP ⟨q.nx, q.rt, q.bk, q.ct, fun C fs r' s' => ∃ k, tb.lookup C = some k ∧ (k = true → FP ⟨q.nx, q.rt, q.bk, q.ct, fun _ _ _ _ => False⟩ (y r' s')) ∧ (k = false → q.ex C fs r' s')⟩ (x r s)) : FP q (tryS x tb y r s) := by
  unfold tryS
  cases e : x r s with
  | exc C fs r' s' =>
    rw [e] at h
    obtain ⟨k, e1, h1, h2⟩ := h
    dsimp only
    rw [e1]
    cases k
    · exact h2 rfl
    · exact w_noExc (h1 rfl)
  | nx r s => rw [e] at h; exact h
  | rt d s => rw [e] at h; exact h
  | bk r s => rw [e] at h; exact h
  | ct r s => rw [e] at h; exact h
  | bad => rw [e] at h; exact h
/-! bodies -/
abbrev bodyQ (Q : D → Sto → Prop) (E : XT) : PQ := ⟨fun _ s' => Q .non s', Q, fun _ _ => False, fun _ _ => False, fun C fs _ s' => E C fs s'⟩
theorem w_bodyX {n : Nat} {b : DS} {ds : List D} (h : FP (bodyQ Q E) (b (ds.map some ++ List.replicate (n - ds.length) none) s)) : RP Q E (bodyX n b ds s) := by
  unfold bodyX
  cases e : b (ds.map some ++ List.replicate (n - ds.length) none) s <;> rw [e] at h <;> exact h
theorem w_body {k n : Nat} {dd : List D} {b : DS} {ds es : List D} {r : En} (h0 : argsD k dd ds = some es) (hr : es.map some ++ List.replicate (n - es.length) none = r) (h : FP (bodyQ Q E) (b r s)) : RP Q E (bodyM k dd n b ds s) := by
  unfold bodyM
  rw [h0]
  subst hr
  exact w_bodyX h
/-! loops -/
theorem w_for0 {m : DM Src} {g : DG} {b : DS} (h : RP (fun c s' => FP q (forF c g b c.its r s')) (fun C fs s' => q.ex C fs r s') (m r s)) : FP q (forS m g b r s) := w_then h
theorem forF_inv {c : Src} {g : DG} {b : DS} (I : Nat → En → Sto → Prop) (hc : ∀ i r s, I i r s → SrcOk c s) :
    ∀ (l : List D) (i : Nat) (r : En) (s : Sto), i ≤ c.its.length → c.its.drop i = l → I i r s → (∀ i d r s, c.its[i]? = some d → I i r s → ∃ p, g d r s = some p ∧ FP ⟨I (i + 1), q.rt, q.nx, I (i + 1), q.ex⟩ (b p.1 p.2)) → (∀ r s, I c.its.length r s → q.nx r s) → FP q (forF c g b l r s)
  | [], i, r, s, hle, hl, hi, hs, he => by
    have h1 : i = c.its.length := by
      have := congrArg List.length hl
      simp at this
      omega
    unfold forF
    rw [if_pos (hc i r s hi)]
    subst h1
    exact he r s hi
  | d :: l, i, r, s, hle, hl, hi, hs, he => by
    have hlt : i < c.its.length := by
      have := congrArg List.length hl
      simp at this
      omega
    have hd : c.its[i]? = some d := by
      have := congrArg (fun z => z[0]?) hl
      simpa using this
    obtain ⟨p, hp, hb⟩ := hs i d r s hd hi
    have hl' : c.its.drop (i + 1) = l := by
      rw [← List.tail_drop, hl]
      rfl
    unfold forF
    rw [if_pos (hc i r s hi), hp]
    dsimp only
    cases e : b p.1 p.2 with
    | nx r' s' => rw [e] at hb; exact forF_inv I hc l (i + 1) r' s' hlt hl' hb hs he
    | ct r' s' => rw [e] at hb; exact forF_inv I hc l (i + 1) r' s' hlt hl' hb hs he
    | bk r' s' => rw [e] at hb; exact hb
    | rt d s' => rw [e] at hb; exact hb
    | exc C fs r' s' => rw [e] at hb; exact hb
    | bad => rw [e] at hb; exact hb
/-- a for loop by what holds between two turns -/
theorem w_for {c : Src} {g : DG} {b : DS} (I : Nat → En → Sto → Prop) (hc : c.cel = none) (h0 : I 0 r s) (hs : ∀ i d r s, c.its[i]? = some d → I i r s → ∃ p, g d r s = some p ∧ FP ⟨I (i + 1), q.rt, q.nx, I (i + 1), q.ex⟩ (b p.1 p.2)) (he : ∀ r s, I c.its.length r s → q.nx r s) : FP q (forF c g b c.its r s) :=
  forF_inv I (fun _ _ _ _ => by unfold SrcOk; rw [hc]; trivial) c.its 0 r s (Nat.zero_le _) rfl h0 hs he
/-- a while loop by what holds between two turns and a number that falls -/
theorem w_while {t : DM Bool} {b : DS} (I : Nat → En → Sto → Prop) (hs : ∀ n r s, I n r s → RP (fun k s1 => (k = true → FP ⟨fun r' s' => ∃ m, m < n ∧ I m r' s', q.rt, q.nx, fun r' s' => ∃ m, m < n ∧ I m r' s', q.ex⟩ (b r s1)) ∧ (k = false → q.nx r s1)) (fun C fs s' => q.ex C fs r s') (t r s)) :
    ∀ (n : Nat) (r : En) (s : Sto), I n r s → FP q (whileS t b r s) := by
  intro n
  induction n using Nat.strongRecOn with
  | ind n ih =>
    intro r s hi
    have h := hs n r s hi
    rw [whileS_eq]
    cases e : t r s with
    | ok k s1 =>
      rw [e] at h
      dsimp only
      cases k with
      | false => exact h.2 rfl
      | true =>
        have h1 := h.1 rfl
        rw [if_pos rfl]
        cases e2 : b r s1 with
        | nx r' s' =>
          rw [e2] at h1
          obtain ⟨m, hm, hi'⟩ := h1
          exact ih m hm r' s' hi'
        | ct r' s' =>
          rw [e2] at h1
          obtain ⟨m, hm, hi'⟩ := h1
          exact ih m hm r' s' hi'
        | bk r' s' => rw [e2] at h1; exact h1
        | rt d s' => rw [e2] at h1; exact h1
        | exc C fs r' s' => rw [e2] at h1; exact h1
        | bad => rw [e2] at h1; exact h1
    | exc C fs s1 => rw [e] at h; exact h
    | bad => rw [e] at h; exact h
theorem lcF_inv {c : Src} {g : DG} {tt : DM Bool} {te : DE} {Q : List D → Sto → Prop} (I : Nat → List D → Sto → Prop) (hc : ∀ i l s, I i l s → SrcOk c s)
    (hs : ∀ i d l s, c.its[i]? = some d → I i l s → ∃ p, g d r s = some p ∧ RP (fun k s1 => (k = true → RP (fun y s2 => l.length < sizeLine ∧ I (i + 1) (l ++ [y]) s2) noX (te p.1 s1)) ∧ (k = false → I (i + 1) l s1)) noX (tt p.1 p.2)) (he : ∀ l s, I c.its.length l s → Q l s) :
    ∀ (l : List D) (i : Nat) (acc : List D) (s : Sto), i ≤ c.its.length → c.its.drop i = l → I i acc s → RP Q E (lcF c g tt te r l acc s)
  | [], i, acc, s, hle, hl, hi => by
    have h1 : i = c.its.length := by
      have := congrArg List.length hl
      simp at this
      omega
    unfold lcF
    rw [if_pos (hc i acc s hi)]
    subst h1
    exact he acc s hi
  | d :: l, i, acc, s, hle, hl, hi => by
    have hlt : i < c.its.length := by
      have := congrArg List.length hl
      simp at this
      omega
    have hd : c.its[i]? = some d := by
      have := congrArg (fun z => z[0]?) hl
      simpa using this
    obtain ⟨p, hp, hb⟩ := hs i d acc s hd hi
    have hl' : c.its.drop (i + 1) = l := by
      rw [← List.tail_drop, hl]
      rfl
    unfold lcF
    rw [if_pos (hc i acc s hi), hp]
    dsimp only
    cases e : tt p.1 p.2 with
    | ok k s1 =>
      rw [e] at hb
      dsimp only
      cases k with
      | false => exact lcF_inv I hc hs he l (i + 1) acc s1 hlt hl' (hb.2 rfl)
      | true =>
        have h1 := hb.1 rfl
        rw [if_pos rfl]
        cases e2 : te p.1 s1 with
        | ok y s2 =>
          rw [e2] at h1
          dsimp only
          rw [if_pos h1.1]
          exact lcF_inv I hc hs he l (i + 1) (acc ++ [y]) s2 hlt hl' h1.2
        | exc C fs s2 => rw [e2] at h1; exact h1.elim
        | bad => rw [e2] at h1; exact h1.elim
    | exc C fs s1 => rw [e] at hb; exact hb.elim
    | bad => rw [e] at hb; exact hb.elim
theorem w_lc0 {k : Bool} {mi : DM Src} {g : DG} {tt : DM Bool} {te : DE} {vs : List Nat} (h : RP (fun c s' => RP (fun acc s2 => RP Q E (newL k acc s2)) noX (lcF c g tt te (wipeE r vs) c.its [] s')) E (mi r s)) : RP Q E (lcM k mi g tt te vs r s) := w_bind (h.mono (fun c s1 h => by
  cases e : lcF c g tt te (wipeE r vs) c.its [] s1 with
  | ok acc s2 => rw [e] at h; exact h
  | exc C fs s2 => rw [e] at h; exact h.elim
  | bad => rw [e] at h; exact h.elim) fun _ _ _ h => h)
theorem w_lc {c : Src} {g : DG} {tt : DM Bool} {te : DE} {Q : List D → Sto → Prop} (I : Nat → List D → Sto → Prop) (hc : c.cel = none) (h0 : I 0 [] s)
    (hs : ∀ i d l s, c.its[i]? = some d → I i l s → ∃ p, g d r s = some p ∧ RP (fun k s1 => (k = true → RP (fun y s2 => l.length < sizeLine ∧ I (i + 1) (l ++ [y]) s2) noX (te p.1 s1)) ∧ (k = false → I (i + 1) l s1)) noX (tt p.1 p.2)) (he : ∀ l s, I c.its.length l s → Q l s) : RP Q E (lcF c g tt te r c.its [] s) :=
  lcF_inv I (fun _ _ _ _ => by unfold SrcOk; rw [hc]; trivial) hs he c.its 0 [] s (Nat.zero_le _) rfl h0
/-- a comprehension without a test, whose elements leave the store -/
theorem w_lcP {c : Src} {g : DG} {te : DE} {Q : List D → Sto → Prop} (F : D → D) (hc : c.cel = none) (hl : c.its.length ≤ sizeLine) (hs : ∀ d, d ∈ c.its → ∃ p, g d r s = some (p, s) ∧ te p s = .ok (F d) s) (he : Q (c.its.map F) s) : RP Q E (lcF c g yesM te r c.its [] s) :=
  w_lc (fun i l s' => s' = s ∧ l = (c.its.take i).map F) hc ⟨rfl, by simp⟩ (fun i d l s' hd ⟨e1, e2⟩ => by
    subst e1
    obtain ⟨p, h1, h2⟩ := hs d (List.mem_of_getElem? hd)
    have hi := (List.getElem?_eq_some_iff.mp hd).1
    refine ⟨_, h1, fun _ => ?_, fun z => by cases z⟩
    refine RP.of h2 ⟨?_, rfl, ?_⟩
    · rw [e2, List.length_map, List.length_take]
      omega
    · rw [e2, List.take_add_one, hd]
      simp) (fun l s' ⟨e1, e2⟩ => by
    subst e1
    rw [e2, List.take_length]
    exact he)
end
section
variable {Q : Src → Sto → Prop} {E : XT} {r : En} {s : Sto} {a : DE}
theorem srcM_of {x : D} {c : Src} (h : srcD s x = some c) : srcM s x = .ok c s := by
  unfold srcM
  cases x with
  | dct m => cases h; rfl
  | cel n =>
    have h' : (match s[n]? with
      | some (some (.lst l)) => some (⟨l, some n⟩ : Src)
      | _ => none) = some c := h
    cases e : s[n]? with
    | none => rw [e] at h'; cases h'
    | some o =>
      rw [e] at h'
      cases o with
      | none => cases h'
      | some ct =>
        cases ct with
        | lst l =>
          cases h'
          simp only [lockD, srcD, e, okO]
        | _ => cases h'
  | _ =>
    simp only [lockD]
    rw [h]
    rfl
theorem w_seqI (h : RP (fun x s1 => ∃ c, srcD s1 x = some c ∧ Q c s1) E (a r s)) : RP Q E (seqI a r s) := w_bind (h.mono (fun x s ⟨c, e, h⟩ => by
  rw [srcM_of e]
  exact h) fun _ _ _ h => h)
theorem w_argI {m : DM (List D)} {g : List D → Sto → Res Src} (h : RP (fun x s1 => RP Q E (g x s1)) E (m r s)) : RP Q E (argI g m r s) := w_bind h
theorem w_range1 {j : Int} (h1 : -(2 ^ 62) ≤ j) (h2 : j < 2 ^ 62) (h : Q ⟨intL 0 j.toNat, none⟩ s) : RP Q E (rangeD1 [.int j] s) := by
  unfold rangeD1
  dsimp only
  rw [if_pos ⟨h1, h2⟩]
  exact h
theorem intL_len {lo : Int} {n : Nat} : (intL lo n).length = n := by simp [intL]
theorem intL_get {lo : Int} {n i : Nat} {d : D} (h : (intL lo n)[i]? = some d) : i < n ∧ d = .int (lo + i) := by
  have hi := (List.getElem?_eq_some_iff.mp h).1
  rw [intL_len] at hi
  refine ⟨hi, ?_⟩
  unfold intL at h
  rw [List.getElem?_map, List.getElem?_range hi] at h
  simpa using h.symm
end
end Pl
set_option Elab.async false
set_option linter.all false
set_option maxRecDepth 100000
/-! Pl: operators on data. -/
namespace Pl
open Mp
open PySem (Str sizeLine)
section
variable {Q : D → Sto → Prop} {E : XT} {r : En} {s : Sto} {i j : Int} {x y : Str}
theorem o_addI (h : Q (.int (i + j)) s) : RP Q E (addD (.int i) (.int j) s) := h
theorem o_addS (hl : x.length + y.length ≤ sizeLine) (h : Q (.str (x ++ y)) s) : RP Q E (addD (.str x) (.str y) s) := by
  unfold addD
  dsimp only
  rw [if_pos hl]
  exact h
theorem o_addL {l m : List D} (hl : l.length + m.length ≤ sizeLine) (h : Q (.lst (l ++ m)) s) : RP Q E (addD (.lst l) (.lst m) s) := by
  unfold addD
  dsimp only [lstX]
  rw [if_pos hl]
  exact h
theorem o_addI' (h : Q (.int (i + j)) s) : RP Q E (addI (.int i) (.int j) s) := h
theorem o_sub (h : Q (.int (i - j)) s) : RP Q E (subD (.int i) (.int j) s) := h
theorem log_lt' {n k : Nat} (h : n < 2 ^ k) (hk : 0 < k) : n.log2 < k := by
  by_cases z : n = 0
  · subst z
    have : Nat.log2 0 = 0 := by decide
    omega
  · exact (Nat.log2_lt z).mpr h
theorem mulC_of {a b : Nat} (hi : i.natAbs < 2 ^ a) (hj : j.natAbs < 2 ^ b) (ha : 0 < a) (hb : 0 < b) (h : a + b ≤ 1000000) : mulC i j = true := by
  unfold mulC
  refine decide_eq_true ?_
  have h1 := log_lt' hi ha
  have h2 := log_lt' hj hb
  omega
theorem o_mul (hc : mulC i j = true) (h : Q (.int (i * j)) s) : RP Q E (mulD (.int i) (.int j) s) := by
  unfold mulD
  dsimp only
  rw [if_pos hc]
  exact h
/-- of small ones -/
theorem o_mul64 (hi : i.natAbs < 18446744073709551616) (hj : j.natAbs < 18446744073709551616) (h : Q (.int (i * j)) s) : RP Q E (mulD (.int i) (.int j) s) := o_mul (mulC_of (a := 64) (b := 64) hi hj (by decide) (by decide) (by decide)) h
theorem log_of {n b : Nat} (h : n < 2 ^ b) (hb : 0 < b) : n.log2 < b := log_lt' h hb
theorem o_div (h0 : 0 < j) (h1 : j.natAbs.log2 < 9000) (h : Q (.int (i / j)) s) : RP Q E (divD (.int i) (.int j) s) := by
  unfold divD
  dsimp only
  rw [if_pos ⟨h0, h1⟩]
  exact h
theorem o_div64 (h0 : 0 < j) (h1 : j < 18446744073709551616) (h : Q (.int (i / j)) s) : RP Q E (divD (.int i) (.int j) s) :=
  o_div h0 (Nat.lt_of_lt_of_le (log_of (b := 64) (by omega) (by decide)) (by decide)) h
theorem o_mod (h0 : 0 < j) (h : Q (.int (i % j)) s) : RP Q E (modD (.int i) (.int j) s) := by
  unfold modD
  dsimp only
  rw [if_pos h0]
  exact h
theorem o_pow (h0 : 0 ≤ j) (h1 : j ≤ 1000000) (h2 : i.natAbs < 2 ^ 64) (h : Q (.int (i ^ j.toNat)) s) : RP Q E (powD (.int i) (.int j) s) := by
  unfold powD
  dsimp only
  rw [if_pos ⟨h0, h1, h2⟩]
  exact h
theorem o_powV {v : Int} (h0 : 0 ≤ j) (h1 : j ≤ 1000000) (h2 : i.natAbs < 2 ^ 64) (hv : i ^ j.toNat = v) (h : Q (.int v) s) : RP Q E (powD (.int i) (.int j) s) := o_pow h0 h1 h2 (by rw [hv]; exact h)
theorem o_max2 (h : Q (.int (if j > i then j else i)) s) : RP Q E (max2D [.int i, .int j] s) := h
theorem o_min2 (h : Q (.int (if j < i then j else i)) s) : RP Q E (min2D [.int i, .int j] s) := h
theorem o_neg (h : Q (.int (-i)) s) : RP Q E (negD (.int i) s) := h
theorem o_lt (h : Q (.bl (decide (i < j))) s) : RP Q E (ltI (.int i) (.int j) s) := h
theorem o_le (h : Q (.bl (decide (i ≤ j))) s) : RP Q E (leI (.int i) (.int j) s) := h
theorem o_gt (h : Q (.bl (decide (j < i))) s) : RP Q E (gtI (.int i) (.int j) s) := h
theorem o_ge (h : Q (.bl (decide (j ≤ i))) s) : RP Q E (geI (.int i) (.int j) s) := h
theorem o_eqI (h : Q (.bl (decide (i = j))) s) : RP Q E (eqD (.int i) (.int j) s) := h
theorem o_neI (h : Q (.bl (!decide (i = j))) s) : RP Q E (neD (.int i) (.int j) s) := h
theorem o_eqS (h : Q (.bl (decide (x = y))) s) : RP Q E (eqD (.str x) (.str y) s) := h
theorem o_neS (h : Q (.bl (!decide (x = y))) s) : RP Q E (neD (.str x) (.str y) s) := h
theorem o_abs (h : Q (.int (if i < 0 then -i else i)) s) : RP Q E (absD [.int i] s) := h
theorem o_int (h : Q (.int i) s) : RP Q E (Mp.intD [.int i] s) := h
theorem o_intB {b : Bool} (h : Q (.int (if b then 1 else 0)) s) : RP Q E (Mp.intD [.bl b] s) := h
theorem o_tup {l : List D} (hl : l.length ≤ sizeLine) (h : Q (.tup l) s) : RP Q E (tupD l s) := by
  unfold tupD
  rw [if_pos hl]
  exact h
theorem o_lst {l : List D} (hl : l.length ≤ sizeLine) (h : Q (.lst l) s) : RP Q E (lstD false l s) := by
  unfold lstD
  rw [if_pos hl]
  exact h
theorem o_newL {l : List D} (h : Q (.lst l) s) : RP Q E (newL false l s) := h
theorem o_len {x : D} {l : List D} (hx : ∀ z, x ≠ .str z) (hs : seqOf s x = some l) (h : Q (.int (l.length : Nat)) s) : RP Q E (lenD [x] s) := by
  unfold lenD
  cases x with
  | str z => exact absurd rfl (hx z)
  | _ =>
    dsimp only
    rw [hs]
    exact h
theorem o_lenL {l : List D} (h : Q (.int (l.length : Nat)) s) : RP Q E (lenD [.lst l] s) := h
theorem o_lenT {l : List D} (h : Q (.int (l.length : Nat)) s) : RP Q E (lenD [.tup l] s) := h
theorem o_lenS (hl : x.length ≤ sizeLine) (h : Q (.int (x.length : Nat)) s) : RP Q E (lenD [.str x] s) := by
  unfold lenD
  dsimp only
  rw [if_pos hl]
  exact h
theorem o_list {x : D} {l : List D} (hs : seqOf s x = some l) (h : Q (.lst l) s) : RP Q E (listD false [x] s) := by
  unfold listD
  dsimp only
  rw [hs]
  exact h
theorem o_all {l : List Bool} {x : D} (hx : (lstOf s x).bind bools = some l) (h : Q (.bl (l.all id)) s) : RP Q E (allD [x] s) := by
  unfold allD
  dsimp only
  rw [hx]
  exact h
theorem o_any {l : List Bool} {x : D} (hx : (lstOf s x).bind bools = some l) (h : Q (.bl (l.any id)) s) : RP Q E (anyD [x] s) := by
  unfold anyD
  dsimp only
  rw [hx]
  exact h
theorem bools_map {T : Type} (f : T → Bool) : ∀ l : List T, bools (l.map fun x => .bl (f x)) = some (l.map f)
  | [] => rfl
  | x :: l => by
    show (bools (l.map fun x => .bl (f x))).map (fun m => f x :: m) = _
    rw [bools_map f l]
    rfl
theorem o_isi {it : Isi} {x c : D} {t : Tg} {b : Bool} (h1 : tagD s x = some t) (h2 : isiT it t c = some b) (h : Q (.bl b) s) : RP Q E (isiD it [x, c] s) := by
  unfold isiD
  dsimp only
  rw [h1]
  dsimp only
  rw [h2]
  exact h
theorem o_idxD {n : Nat} {m : List (L2.Key × D)} {x y d : D} {k : L2.Key} (h1 : dctOf s x = some m) (h2 : keyD y = some k) (h3 : getK m k = some d) (h : Q d s) : RP Q E (idxD x y s) := by
  unfold idxD
  rw [h1]
  dsimp only
  rw [h2]
  dsimp only
  rw [h3]
  exact h
theorem o_fld {tb : List (Str × Ak)} {f C : Str} {x d : D} {fs : List (Str × D)} (h1 : insOf s x = some (C, fs)) (h2 : tb.lookup C = some .fld) (h3 : fs.lookup f = some d) (h : Q d s) : RP Q E (attrD tb f x s) := by
  unfold attrD
  rw [h1]
  dsimp only
  rw [h2]
  dsimp only
  rw [h3]
  exact h
theorem o_prop {tb : List (Str × Ak)} {f C : Str} {x : D} {fs : List (Str × D)} {m : DF} (h1 : insOf s x = some (C, fs)) (h2 : tb.lookup C = some (.prop m)) (h : RP Q E (m [x] s)) : RP Q E (attrD tb f x s) := by
  unfold attrD
  rw [h1]
  dsimp only
  rw [h2]
  exact h
/-- xs[i] of a frozen list, a tuple -/
theorem o_idxL {l : List D} {d : D} {k : Nat} (h0 : i = (k : Int)) (h1 : l[k]? = some d) (h : Q d s) : RP Q E (idxD (.lst l) (.int i) s) := by
  have hk := (List.getElem?_eq_some_iff.mp h1).1
  have e : L2.atI l i = some d := by
    subst h0
    unfold L2.atI L2.ixN
    rw [if_pos (by omega), if_pos (by omega)]
    simpa using h1
  show RP Q E (okO s (L2.atI l i))
  rw [e]
  exact h
theorem cut_take {l : List D} {k : Int} (hk : 0 ≤ k) : cutD l none (some k) = l.take k.toNat := by
  unfold cutD
  have e0 : _root_.HT.sIx l.length 0 none = 0 := rfl
  have e1 : _root_.HT.sIx l.length l.length (some k) = min k.toNat l.length := if_neg (by omega)
  rw [e0, e1, List.drop_zero, Nat.sub_zero]
  by_cases h : k.toNat ≤ l.length
  · rw [Nat.min_eq_left h]
  · rw [Nat.min_eq_right (by omega), List.take_length, List.take_of_length_le (by omega)]
end
end Pl
set_option Elab.async false
set_option linter.all false
set_option maxRecDepth 100000
/-! Pl: how long a repr is. -/
namespace Pl
open Mp
open PySem (Str sizeLine PyData)
open PySem
mutual
def wt : PyData → Nat
  | .none => 4
  | .bool _ => 5
  | .int _ => 600
  | .str x => (reprText x).length
  | .list xs => wtAll xs + 4
  | .tuple xs => wtAll xs + 4
  | .dict _ => 0
def wtAll : List PyData → Nat
  | [] => 0
  | x :: xs => wt x + 2 + wtAll xs
end
theorem int_len {i : Int} (h : i.natAbs.log2 < 1920) : (Str.ofString (toString i)).length ≤ 600 := by
  have hb : i.natAbs < 2 ^ 1920 := by
    by_cases z : i.natAbs = 0
    · rw [z]
      exact Nat.two_pow_pos 1920
    · exact (Nat.log2_lt z).mp h
  have hc : (2 : Nat) ^ 1920 < 10 ^ 599 := by decide +kernel
  by_cases h0 : 0 ≤ i
  · exact Nat.le_trans (PyProof.Rows.toString_length_le (k := 599) h0 (by decide) (by
      have : (i.natAbs : Int) < ((10 ^ 599 : Nat) : Int) := by exact_mod_cast Nat.lt_trans hb hc
      rw [Int.natAbs_of_nonneg h0] at this
      simpa using this)) (by decide)
  · have e : toString i = "-" ++ toString (-i) := by
      cases i with
      | ofNat n => exact absurd (Int.natCast_nonneg n) h0
      | negSucc n => rfl
    have h1 := PyProof.Rows.toString_length_le (v := -i) (k := 599) (by omega) (by decide) (by
      have : (i.natAbs : Int) < ((10 ^ 599 : Nat) : Int) := by exact_mod_cast Nat.lt_trans hb hc
      rw [show ((i.natAbs : Nat) : Int) = -i by omega] at this
      simpa using this)
    rw [e, PyProof.Rows.ofString_length, String.toList_append, List.length_append]
    rw [PyProof.Rows.ofString_length] at h1
    have : ("-" : String).toList.length = 1 := by decide
    omega
theorem textFrom_le : ∀ (ts : List Str) (k : Nat) (acc : Str), (textFrom k acc ts).length ≤ acc.length + piled ts
  | [], k, acc => by
    show acc.length ≤ acc.length + piled []
    omega
  | t :: r, k, acc => by
    have h := textFrom_le r (k + 1) (acc ++ (if k > 0 then ", " else "" : String) ++ t)
    have e : (acc ++ (if k > 0 then ", " else "" : String) ++ t).length = acc.length + (if k > 0 then 2 else 0) + t.length := by
      rw [strLen_append, strLen_append]
      split <;> rfl
    have d1 : (if k > 0 then 2 else 0 : Nat) ≤ 2 := by split <;> omega
    rw [piled_cons]
    show (textFrom (k + 1) _ r).length ≤ _
    omega
theorem join_le : ∀ ts : List Str, (Str.join ", " ts).length ≤ piled ts
  | [] => by decide
  | t :: r => by
    have := join_length_add (t :: r) (by simp)
    omega
mutual
theorem shown_len : ∀ p : PyData, p.showable = true → p.hasDict = false → p.shown.length ≤ wt p
  | .none, _, _ => by rw [PyData.shown, wt]; decide
  | .bool b, _, _ => by rw [PyData.shown, wt]; cases b <;> decide
  | .int i, h, _ => by
    rw [PyData.shown, wt]
    rw [PyData.showable] at h
    exact int_len (of_decide_eq_true h)
  | .str x, _, _ => by rw [PyData.shown, wt]; exact Nat.le_refl _
  | .list xs, h, hd => by
    rw [PyData.showable] at h
    rw [PyData.hasDict] at hd
    have := shownAll_len xs h hd
    rw [PyData.shown, wt]
    unfold listText
    rw [strLen_append]
    have h2 := textFrom_le (PyData.shownAll xs) 0 "["
    have h3 : (("[" : String) : Str).length = 1 := by decide
    have h4 : (("]" : String) : Str).length = 1 := by decide
    omega
  | .tuple xs, h, hd => by
    rw [PyData.showable] at h
    rw [PyData.hasDict] at hd
    have := shownAll_len xs h hd
    rw [PyData.shown, wt]
    unfold tupleText
    rw [strLen_append, strLen_append]
    have h2 := join_le (PyData.shownAll xs)
    have h3 : (("(" : String) : Str).length = 1 := by decide
    have h4 : ((if (PyData.shownAll xs).length == 1 then ",)" else ")" : String) : Str).length ≤ 2 := by split <;> decide
    omega
  | .dict kvs, _, hd => by
    rw [PyData.hasDict] at hd
    cases hd
theorem shownAll_len : ∀ xs : List PyData, PyData.showableAll xs = true → PyData.hasDictAll xs = false → piled (PyData.shownAll xs) ≤ wtAll xs
  | [], _, _ => by rw [PyData.shownAll, wtAll]; decide
  | x :: xs, h, hd => by
    rw [PyData.showableAll, Bool.and_eq_true] at h
    rw [PyData.hasDictAll, Bool.or_eq_false_iff] at hd
    have h1 := shown_len x h.1 hd.1
    have h2 := shownAll_len xs h.2 hd.2
    rw [PyData.shownAll, piled_cons, wtAll]
    omega
end
end Pl
set_option Elab.async false
set_option linter.all false
set_option maxRecDepth 100000
/-! Pl: the pen of a law. -/
namespace Pl
open Mp
open PySem (Str sizeLine)
/-- the pen's cell -/
def penC (cells : List Int) (b l : Int) : Ct := .dct [(.inr "cells", .lst (cells.map .int)), (.inr "begun", .int b), (.inr "left", .int l)]
/-- cell n is a pen with at most b draws begun -/
def Pen (s : Sto) (n : Nat) (b : Int) : Prop := ∃ cells g l, s[n]? = some (some (penC cells g l)) ∧ cells.length ≤ 63 ∧ 0 ≤ g ∧ g ≤ b ∧ 0 ≤ l
/-- all but cell n stays -/
def Fr (n : Nat) (s s' : Sto) : Prop := s.length ≤ s'.length ∧ ∀ i, i < s.length → i ≠ n → s'[i]? = s[i]?
theorem Fr.refl {n : Nat} {s : Sto} : Fr n s s := ⟨Nat.le_refl _, fun _ _ _ => rfl⟩
theorem Fr.trans {n : Nat} {s s' s'' : Sto} (h : Fr n s s') (k : Fr n s' s'') : Fr n s s'' := ⟨Nat.le_trans h.1 k.1, fun i hi ne => (k.2 i (Nat.lt_of_lt_of_le hi h.1) ne).trans (h.2 i hi ne)⟩
theorem Fr.set {n : Nat} {s : Sto} {c : Option Ct} : Fr n s (s.set n c) := ⟨by rw [List.length_set]; exact Nat.le_refl _, fun i _ ne => List.getElem?_set_ne (fun e => ne e.symm)⟩
theorem Pen.mono {s : Sto} {n : Nat} {b c : Int} (h : Pen s n b) (hb : b ≤ c) : Pen s n c := by
  obtain ⟨cells, g, l, h1, h2, h3, h4, h5⟩ := h
  exact ⟨cells, g, l, h1, h2, h3, Int.le_trans h4 hb, h5⟩
theorem Pen.lt {s : Sto} {n : Nat} {b : Int} (h : Pen s n b) : n < s.length := by
  obtain ⟨cells, g, l, h1, _⟩ := h
  exact (List.getElem?_eq_some_iff.mp h1).1
theorem Pen.app {s : Sto} {n : Nat} {b : Int} (h : Pen s n b) (c : Option Ct) : Pen (s ++ [c]) n b := by
  have hl := h.lt
  obtain ⟨cells, g, l, h1, h2⟩ := h
  exact ⟨cells, g, l, by rw [List.getElem?_append_left hl]; exact h1, h2⟩
end Pl
namespace Pl
open Mp
open PySem (Str sizeLine PyData)
section
variable {Q : D → Sto → Prop} {E : XT} {s : Sto} {n : Nat} {c : List Int} {g l x : Int}
theorem pen_left (hs : s[n]? = some (some (penC c g l))) (h : Q (.int l) s) : RP Q E (idxD (.cel n) (.str "left") s) := by
  refine o_idxD (n := n) (m := [(.inr "cells", .lst (c.map .int)), (.inr "begun", .int g), (.inr "left", .int l)]) (k := .inr "left") (d := .int l) ?_ rfl ?_ h
  · unfold dctOf
    dsimp only
    rw [hs]
    rfl
  · rfl
theorem pen_begun (hs : s[n]? = some (some (penC c g l))) (h : Q (.int g) s) : RP Q E (idxD (.cel n) (.str "begun") s) := by
  refine o_idxD (n := n) (m := [(.inr "cells", .lst (c.map .int)), (.inr "begun", .int g), (.inr "left", .int l)]) (k := .inr "begun") (d := .int g) ?_ rfl ?_ h
  · unfold dctOf
    dsimp only
    rw [hs]
    rfl
  · rfl
theorem pen_cells (hs : s[n]? = some (some (penC c g l))) (h : Q (.lst (c.map .int)) s) : RP Q E (idxD (.cel n) (.str "cells") s) := by
  refine o_idxD (n := n) (m := [(.inr "cells", .lst (c.map .int)), (.inr "begun", .int g), (.inr "left", .int l)]) (k := .inr "cells") (d := .lst (c.map .int)) ?_ rfl ?_ h
  · unfold dctOf
    dsimp only
    rw [hs]
    rfl
  · rfl
theorem pen_putL (hs : s[n]? = some (some (penC c g l))) : putI (.cel n) (.str "left") (.int x) s = some (s.set n (some (penC c g x))) := by
  unfold putI
  dsimp only
  rw [hs]
  rfl
theorem pen_putB (hs : s[n]? = some (some (penC c g l))) : putI (.cel n) (.str "begun") (.int x) s = some (s.set n (some (penC c x l))) := by
  unfold putI
  dsimp only
  rw [hs]
  rfl
theorem pen_at (hs : s[n]? = some (some (penC c g l))) {y : Ct} : (s.set n (some y))[n]? = some (some y) := List.getElem?_set_self (List.getElem?_eq_some_iff.mp hs).1
theorem toPys_ints : ∀ c : List Int, toPys (c.map D.int) = some (c.map PyData.int)
  | [] => rfl
  | i :: c => by
    show (toPy (.int i)).bind (fun x => (toPys (c.map D.int)).map fun y => x :: y) = _
    rw [toPys_ints c]
    rfl
theorem lay_ints : ∀ c : List Int, PyData.canLayAll0 (c.map PyData.int) = true
  | [] => rfl
  | i :: c => by
    rw [List.map_cons, PyData.canLayAll0, lay_ints c]
    rfl
theorem dep_ints : ∀ c : List Int, PyData.depthAll (c.map PyData.int) = 0
  | [] => rfl
  | i :: c => by
    rw [List.map_cons, PyData.depthAll, dep_ints c]
    rfl
theorem shaped_ints (c : List Int) : PySem.SeqAt.shaped (.list (c.map .int)) = true := by
  unfold PySem.SeqAt.shaped
  rw [PyData.canLay0, lay_ints, PyData.depth, dep_ints]
  rfl
theorem o_neNil (h : Q (.bl (!c.isEmpty)) s) : RP Q E (neD (.lst (c.map .int)) (.lst []) s) := by
  show RP Q E (eqG0 true (.lst (c.map .int)) (.lst []) s)
  have e1 : toPy (.lst (c.map .int)) = some (.list (c.map .int)) := by
    rw [toPy, toPys_ints]
    rfl
  have e2 : toPy (.lst []) = some (.list []) := rfl
  unfold eqG0
  rw [e1, e2]
  dsimp only
  rw [if_pos (by rw [shaped_ints]; rfl)]
  have e3 : PyData.eqv (.list (c.map .int)) (.list []) = c.isEmpty := by
    rw [PyData.eqv]
    cases c with
    | nil => rfl
    | cons i c => rfl
  show Q (.bl (if true = true then !PyData.eqv (.list (c.map .int)) (.list []) else _)) s
  rw [e3]
  exact h
end
end Pl
set_option Elab.async false
set_option linter.all false
set_option maxRecDepth 100000
/-! Pl: try .. except .. as e. -/
namespace Pl
open Mp
open PySem (Str sizeLine PyData Addr)
section
variable {Q : D → Sto → Prop} {E : XT} {r : En} {s : Sto} {q : PQ}
theorem FP.rt_eq {v : D} {s2 : Sto} {f : Fl} (h : FP ⟨fun _ _ => False, fun d s => d = v ∧ s = s2, fun _ _ => False, fun _ _ => False, fun _ _ _ _ => False⟩ f) : f = .rt v s2 := by
  cases f with
  | rt d s =>
    obtain ⟨rfl, rfl⟩ := h
    rfl
  | nx _ _ => exact h.elim
  | bk _ _ => exact h.elim
  | ct _ _ => exact h.elim
  | exc _ _ _ _ => exact h.elim
  | bad => exact h.elim
abbrev retQ (v : D) (s2 : Sto) : PQ := ⟨fun _ _ => False, fun d s => d = v ∧ s = s2, fun _ _ => False, fun _ _ => False, fun _ _ _ _ => False⟩
/-- a handler that returns -/
theorem w_tryAs {i : Nat} {C0 : Str} {mb : DS} {tb : List (Str × Bool)} {mh : Addr → Option Addr → List (Str × D) → DS} (h : FP ⟨q.nx, q.rt, q.bk, q.ct, fun C fs r' s' => ∃ k, tb.lookup C = some k ∧ (k = true → C = C0 ∧ ∃ v s2, (∀ a d, FP (retQ v s2) (mh a d fs (r'.set i (some (.exn a d C fs))) s')) ∧ q.rt v s2) ∧ (k = false → q.ex C fs r' s')⟩ (mb r s)) : FP q (tryAsS i C0 mb tb mh r s) := by
  unfold tryAsS
  cases e : mb r s with
  | exc C fs r' s' =>
    rw [e] at h
    obtain ⟨k, e1, h1, h2⟩ := h
    dsimp only
    rw [e1]
    cases k
    · exact h2 rfl
    · obtain ⟨rfl, v, s2, h3, h4⟩ := h1 rfl
      dsimp only
      rw [if_pos rfl]
      have h5 : ∀ a d, offS i (mh a d fs (r'.set i (some (.exn a d C fs))) s') = .rt v s2 := fun a d => by
        rw [(h3 a d).rt_eq]
        rfl
      rw [joinF_of fun a d => (h5 a d).trans (h5 0 none).symm, h5]
      exact h4
  | nx r s => rw [e] at h; exact h
  | rt d s => rw [e] at h; exact h
  | bk r s => rw [e] at h; exact h
  | ct r s => rw [e] at h; exact h
  | bad => rw [e] at h; exact h
theorem o_isx {a : Addr} {d : Option Addr} {tt : List (String × Bool)} {C : Str} {fs : List (Str × D)} {n : String} {b : Bool} (hb : tt.lookup n = some b) (h : Q (.bl b) s) : RP Q E (isxD a d tt [.exn a d C fs, .ty n] s) := by
  unfold isxD
  dsimp only
  rw [if_pos ⟨rfl, rfl⟩, hb]
  exact h
theorem w_exn {a : Addr} {d : Option Addr} {f : Str} {m : DE} (h : RP (fun x s1 => ∃ C fs v, x = .exn a d C fs ∧ fs.lookup f = some v ∧ Q v s1) E (m r s)) : RP Q E (exnM a d f m r s) := w_bind (h.mono (fun x s1 ⟨C, fs, v, e, e2, h⟩ => by
  subst e
  dsimp only
  rw [if_pos ⟨rfl, rfl⟩, e2]
  exact h) fun _ _ _ h => h)
end
end Pl
set_option Elab.async false
set_option linter.all false
set_option maxRecDepth 100000
/-! Pl: rules for lists that grow, dict comprehensions, zip of a starred tuple, sorting. -/
namespace Pl
open Mp
open PySem (Str sizeLine PyData)
section
variable {Q : D → Sto → Prop} {E : XT} {r : En} {s : Sto} {q : PQ} {a : DE}
theorem RP.eqn {T : Type} {m : Res T} {v : T} {s' : Sto} (h : RP (fun y t => t = s' ∧ y = v) noX m) : m = .ok v s' := by
  obtain ⟨x, t, e, rfl, rfl⟩ := h.ex
  exact e
/-- a comprehension over a mapped list, whose elements leave the store -/
theorem w_lcX {T : Type} {c : Src} {g : DG} {te : DE} {Q : List D → Sto → Prop} (xs : List T) (f F : T → D) (hi : c.its = xs.map f) (hc : c.cel = none) (hl : xs.length ≤ sizeLine)
    (hs : ∀ x ∈ xs, ∃ p, g (f x) r s = some (p, s) ∧ RP (fun y t => t = s ∧ y = F x) noX (te p s)) (he : Q (xs.map F) s) : RP Q E (lcF c g yesM te r c.its [] s) :=
  w_lc (fun i l s' => s' = s ∧ l = (xs.take i).map F) hc ⟨rfl, by simp⟩ (fun i d l s' hd ⟨e1, e2⟩ => by
    subst e1
    rw [hi, List.getElem?_map] at hd
    cases ex : xs[i]? with
    | none => rw [ex] at hd; cases hd
    | some x =>
      rw [ex] at hd
      cases hd
      have hil := (List.getElem?_eq_some_iff.mp ex).1
      obtain ⟨p, h1, h2⟩ := hs x (List.mem_of_getElem? ex)
      refine ⟨_, h1, fun _ => ?_, fun z => by cases z⟩
      refine RP.of h2.eqn ⟨?_, rfl, ?_⟩
      · rw [e2, List.length_map, List.length_take]
        omega
      · rw [e2, List.take_succ, ex]
        simp) (fun l s' ⟨e1, e2⟩ => by
    subst e1
    rw [hi, List.length_map, List.take_length] at e2
    rw [e2]
    exact he)
/-! dict comprehensions -/
/-! methods -/
theorem w_bm {ty : Sto → D → Bool} {f : D → List D → Sto → Res D} {l : DM (List D)} (h : RP (fun x s1 => ty s1 x = true ∧ RP (fun ds s2 => RP Q E (f x ds s2)) E (l r s1)) E (a r s)) : RP Q E (bmD ty f a l r s) := w_bind (h.mono (fun x s ⟨e, h⟩ => by
  rw [if_pos e]
  exact w_bind h) fun _ _ _ h => h)
end
end Pl
set_option Elab.async false
set_option linter.all false
set_option maxRecDepth 100000
/-! Pl: letters and words as texts. -/
namespace Pl
open Mp
open PySem (Str sizeLine PyData)
theorem o_inS {x y : Str} {s : Sto} {Q : D → Sto → Prop} {E : XT} (h : Q (.bl (inStr x y)) s) : RP Q E (inD false (.str x) (.str y) s) := h
end Pl
set_option Elab.async false
set_option linter.all false
set_option maxRecDepth 100000
set_option maxHeartbeats 4000000
/-! Pl: lambdas handed to a def; texts by their signs. -/
namespace Pl
open Mp
open PySem (Str sizeLine PyData Addr)
section
variable {Q : D → Sto → Prop} {E : XT} {r : En} {s : Sto} {te : DE}
/-- texts by their signs -/
def CS (cs : List Nat) : Str := ⟨cs.toArray⟩
theorem CS_of (z : Str) : z = CS z.cps.toList := by
  cases z
  simp [CS]
theorem CS_len (cs : List Nat) : (CS cs).length = cs.length := by
  show cs.toArray.size = _
  simp
theorem CS_chars (cs : List Nat) : chars (CS cs) = cs.map fun c => .str ⟨#[c]⟩ := by
  unfold chars CS
  rfl
theorem CS_app (a b : List Nat) : CS a ++ CS b = CS (a ++ b) := by
  show (⟨a.toArray ++ b.toArray⟩ : Str) = ⟨_⟩
  simp
theorem foldl_app (l : List (List Nat)) (a : List Nat) : (l.map List.toArray).foldl (· ++ ·) a.toArray = (a ++ l.flatten).toArray := by
  induction l generalizing a with
  | nil => simp
  | cons x l ih =>
    rw [List.map_cons, List.foldl_cons, List.append_toArray, ih, List.flatten_cons, List.append_assoc]
theorem repS_CS (cs : List Nat) (n : Nat) : repS (CS cs) n = CS (List.replicate n cs).flatten := by
  unfold repS CS
  have h := foldl_app (List.replicate n cs) []
  rw [List.map_replicate] at h
  rw [List.nil_append] at h
  rw [← h]
theorem flat_len {T : Type} (n : Nat) (l : List T) : (List.replicate n l).flatten.length = n * l.length := by
  rw [List.length_flatten, List.map_replicate, List.sum_replicate_nat]
theorem o_mulX {z : Str} {k : Int} {n : Nat} (hn : n = k.toNat) (h1 : 2 ≤ k) (h2 : k ≤ 1000000) (h3 : 0 < z.length) (h4 : z.length * n ≤ 16777216) (h : Q (.str (repS z n)) s) : RP Q E (mulX (.str z) (.int k) s) := by
  subst hn
  unfold mulX
  dsimp only
  rw [if_pos ⟨h1, h2, h3, h4⟩]
  exact h
theorem repr_len {cs : List Nat} (h : ∀ c ∈ cs, c < 128) : (PySem.reprText (CS cs)).length ≤ 10 * cs.length + 2 := by
  have := PySem.StrLaws.reprText_len (CS cs) (by
    intro c hc
    have := h c (by simpa [CS] using hc)
    exact Nat.lt_trans this (by decide))
  rw [CS_len] at this
  exact this
end
end Pl
set_option Elab.async false
set_option linter.all false
set_option maxRecDepth 100000
set_option maxHeartbeats 4000000
/-! Pl: sums of products over a ring. -/
namespace Pl
section
end
end Pl
namespace Pl
open Mp
open PySem (Str sizeLine)
end Pl
namespace Pl
open Mp
open PySem (Str sizeLine PyData)
section
variable {s : Sto} {Q : D → Sto → Prop} {E : XT}
theorem o_sliS {c : Bool} {z : Str} {lo hi : Option Int} (hl : z.length ≤ sizeLine) (h : Q (.str (L2.cutS z lo hi)) s) : RP Q E (sliD c (.str z) lo hi s) := by
  unfold sliD
  dsimp only
  rw [if_pos hl]
  exact h
end
end Pl
set_option Elab.async false
set_option linter.all false
set_option maxRecDepth 100000
set_option maxHeartbeats 4000000
/-! Pl: rules for two clauses, starred items, dict(..), own operators, several except clauses. -/
namespace Pl
open Mp
open PySem (Str sizeLine PyData Addr)
section
variable {Q : D → Sto → Prop} {E : XT} {r : En} {s : Sto} {q : PQ} {a b : DE}
/-! two clauses -/
theorem w_lc20 {k : Bool} {mi mi1 : DM Src} {g g1 : DG} {tt tt1 : DM Bool} {te : DE} {vs vs1 : List Nat} (h : RP (fun c s' => RP (fun acc s2 => RP Q E (newL k acc s2)) noX (lcF2 c g tt mi1 g1 tt1 te vs1 (wipeE r vs) c.its [] s')) E (mi r s)) : RP Q E (lc2M k mi g tt mi1 g1 tt1 te vs vs1 r s) := w_bind (h.mono (fun c s1 h => by
  cases e : lcF2 c g tt mi1 g1 tt1 te vs1 (wipeE r vs) c.its [] s1 with
  | ok acc s2 => rw [e] at h; exact h
  | exc C fs s2 => rw [e] at h; exact h.elim
  | bad => rw [e] at h; exact h.elim) fun _ _ _ h => h)
theorem w_seqJ {Q : Src → Sto → Prop} (h : RP (fun x s1 => ∃ c, srcJ s1 x = some c ∧ Q c s1) E (a r s)) : RP Q E (seqJ a r s) := w_bind (h.mono (fun x s ⟨c, e, h⟩ => by
  rw [e]
  exact h) fun _ _ _ h => h)
/-! starred items -/
theorem w_starC {Q : List D → Sto → Prop} {m : DM (List D)} (h : RP (fun x s1 => ∃ l, seqOf s1 x = some l ∧ RP (fun ys s2 => Q (l ++ ys) s2) E (m r s1)) E (a r s)) : RP Q E (starC a m r s) := w_bind (h.mono (fun x s ⟨l, e, h⟩ => w_bind (by
  show RP _ E (okO s (seqOf s x))
  rw [e]
  exact w_bind h)) fun _ _ _ h => h)
theorem w_spr (h : RP (fun x s1 => ∃ m, dctOf s1 x = some m ∧ Q (.dct m) s1) E (a r s)) : RP Q E (sprM a r s) := w_bind (h.mono (fun x s ⟨m, e, h⟩ => by
  rw [e]
  exact h) fun _ _ _ h => h)
/-! dict(..) -/
/-! own operators -/
theorem o_own0 {tb : List (Str × DF)} {f : D → D → Sto → Res D} {x y : D} (h0 : insOf s x = none) (h : RP Q E (f x y s)) : RP Q E (ownD tb f x y s) := by
  unfold ownD
  rw [h0]
  exact h
theorem o_eqO0 {neg : Bool} {tb : List ((Str × Str) × DF)} {x y : D} (h0 : insOf s x = none) (h : RP Q E (eqG neg x y s)) : RP Q E (eqO neg tb x y s) := by
  unfold eqO
  rw [h0]
  exact h
theorem o_eqO {tb : List ((Str × Str) × DF)} {x y : D} {C C' : Str} {fs gs : List (Str × D)} {m : DF} (h1 : insOf s x = some (C, fs)) (h2 : insOf s y = some (C', gs)) (h3 : tb.lookup (C, C') = some m) (h : RP Q E (m [x, y] s)) : RP Q E (eqO false tb x y s) := by
  unfold eqO
  rw [h1]
  dsimp only
  rw [h2]
  dsimp only
  rw [h3]
  exact h
theorem o_neO {tb : List ((Str × Str) × DF)} {x y : D} {C C' : Str} {fs gs : List (Str × D)} {m : DF} (h1 : insOf s x = some (C, fs)) (h2 : insOf s y = some (C', gs)) (h3 : tb.lookup (C, C') = some m) (h : RP (fun v s' => ∃ k, v = .bl k ∧ Q (.bl (!k)) s') E (m [x, y] s)) : RP Q E (eqO true tb x y s) := by
  unfold eqO
  rw [h1]
  dsimp only
  rw [h2]
  dsimp only
  rw [h3]
  dsimp only
  rw [if_pos rfl]
  cases e : m [x, y] s with
  | ok v s' =>
    rw [e] at h
    obtain ⟨k, rfl, h⟩ := h
    exact h
  | exc C fs s' => rw [e] at h; exact h
  | bad => rw [e] at h; exact h
/-! several except clauses -/
theorem w_tryN {x : DS} {hs : List Hd} (h : FP ⟨q.nx, q.rt, q.bk, q.ct, fun C fs r' s' => FP q (manyF hs C fs r' s')⟩ (x r s)) : FP q (tryNS x hs r s) := by
  unfold tryNS
  cases e : x r s with
  | exc C fs r' s' => rw [e] at h; exact h
  | nx r s => rw [e] at h; exact h
  | rt d s => rw [e] at h; exact h
  | bk r s => rw [e] at h; exact h
  | ct r s => rw [e] at h; exact h
  | bad => rw [e] at h; exact h
end
end Pl
namespace Pl
open Mp
open PySem (Str sizeLine PyData Addr)
section
end
end Pl
namespace Pl
open Mp
open PySem (Str sizeLine PyData Addr)
section
end
end Pl
set_option Elab.async false
set_option linter.all false
set_option maxRecDepth 100000
/-! Pl: how long a repr is, dicts too. -/
namespace Pl
open Mp
open PySem (Str sizeLine PyData)
open PySem
mutual
def wd : PyData → Nat
  | .none => 4
  | .bool _ => 5
  | .int _ => 600
  | .str x => (reprText x).length
  | .list xs => wdAll xs + 4
  | .tuple xs => wdAll xs + 4
  | .dict kvs => wdKv kvs + 4
def wdAll : List PyData → Nat
  | [] => 0
  | x :: xs => wd x + 2 + wdAll xs
def wdKv : List (PyData × PyData) → Nat
  | [] => 0
  | (a, b) :: r => wd a + wd b + 4 + wdKv r
end
/-! texts of sound signs -/
def SOk (z : Str) : Prop := ∀ c ∈ z.cps.toList, c < 0x110000
theorem SOk.of (x : String) : SOk (Str.ofString x) := by
  rw [Str.ofString_eq_toList]
  intro c hc
  have hc : c ∈ x.toList.map Char.toNat := by simpa using hc
  obtain ⟨k, _, rfl⟩ := List.mem_map.mp hc
  have := k.valid
  show k.val.toNat < _
  rcases this with h | h <;> omega
theorem SOk.app {a b : Str} (ha : SOk a) (hb : SOk b) : SOk (a ++ b) := fun c hc => by
  have hc : c ∈ (a.cps ++ b.cps).toList := hc
  rw [Array.toList_append, List.mem_append] at hc
  exact hc.elim (ha c) (hb c)
theorem SOk.join : ∀ {ts : List Str}, (∀ t ∈ ts, SOk t) → SOk (Str.join ", " ts)
  | [], _ => fun c hc => by cases hc
  | [x], h => h x List.mem_cons_self
  | x :: y :: r, h => by
    show SOk (x ++ Str.ofString ", " ++ Str.join ", " (y :: r))
    exact ((h x List.mem_cons_self).app (SOk.of _)).app (SOk.join fun t ht => h t (List.mem_cons_of_mem _ ht))
mutual
/-- all texts in it are sound when shown -/
def snd : PyData → Prop
  | .none => True
  | .bool _ => True
  | .int _ => True
  | .str x => SOk (reprText x)
  | .list xs => sndAll xs
  | .tuple xs => sndAll xs
  | .dict kvs => sndKv kvs
def sndAll : List PyData → Prop
  | [] => True
  | x :: xs => snd x ∧ sndAll xs
def sndKv : List (PyData × PyData) → Prop
  | [] => True
  | (a, b) :: r => snd a ∧ snd b ∧ sndKv r
end
/-- data that can be shown: so much fuel, so deep, so wide -/
def Rdy (m k W : Nat) (d : D) : Prop := ∃ p, (∀ (s : Sto) n, m ≤ n → rdP s n d = some p) ∧ p.showable = true ∧ p.depth ≤ k ∧ wd p ≤ W ∧ snd p
def Rds (m k W : Nat) (l : List D) : Prop := ∃ ps, (∀ (s : Sto) n, m ≤ n → rdPs s n l = some ps) ∧ PyData.showableAll ps = true ∧ PyData.depthAll ps ≤ k ∧ wdAll ps ≤ W ∧ ps.length = l.length ∧ sndAll ps
section
variable {m m' k k' W W' : Nat} {d : D} {l : List D}
theorem Rdy.mono (h : Rdy m k W d) (h1 : m ≤ m') (h2 : k ≤ k') (h3 : W ≤ W') : Rdy m' k' W' d := by
  obtain ⟨p, e, a, b, c, o⟩ := h
  exact ⟨p, fun s n hn => e s n (Nat.le_trans h1 hn), a, Nat.le_trans b h2, Nat.le_trans c h3, o⟩
theorem Rds.nil : Rds 1 0 0 [] := by
  refine ⟨[], fun s n hn => ?_, rfl, Nat.le_refl _, Nat.le_refl _, rfl, trivial⟩
  obtain ⟨n, rfl⟩ : ∃ j, n = j + 1 := ⟨n - 1, by omega⟩
  simp only [rdPs]
theorem Rds.cons (h : Rdy m k W d) (h2 : Rds m' k' W' l) : Rds (max m m' + 1) (max k k') (W + 2 + W') (d :: l) := by
  obtain ⟨p, e1, a1, b1, c1, o1⟩ := h
  obtain ⟨ps, e2, a2, b2, c2, l2, o2⟩ := h2
  refine ⟨p :: ps, fun s n hn => ?_, ?_, ?_, ?_, by rw [List.length_cons, l2, List.length_cons], by rw [sndAll]; exact ⟨o1, o2⟩⟩
  · obtain ⟨n, rfl⟩ : ∃ j, n = j + 1 := ⟨n - 1, by omega⟩
    simp only [rdPs]
    rw [e1 s n (by omega), e2 s n (by omega)]
    rfl
  · rw [PyData.showableAll, a1, a2]
    rfl
  · rw [PyData.depthAll]
    omega
  · rw [wdAll]
    omega
theorem Rds.all : ∀ {l : List D}, (∀ d ∈ l, Rdy m k W d) → Rds (m + l.length + 1) k ((W + 2) * l.length) l
  | [], _ => by
    refine ⟨[], fun s n hn => ?_, rfl, Nat.zero_le _, Nat.zero_le _, rfl, trivial⟩
    obtain ⟨n, rfl⟩ : ∃ j, n = j + 1 := ⟨n - 1, by omega⟩
    simp only [rdPs]
  | d :: l, h => by
    obtain ⟨p, e1, a1, b1, c1, o1⟩ := h d List.mem_cons_self
    obtain ⟨ps, e2, a2, b2, c2, l2, o2⟩ := Rds.all (l := l) fun x hx => h x (List.mem_cons_of_mem _ hx)
    refine ⟨p :: ps, fun s n hn => ?_, ?_, ?_, ?_, by rw [List.length_cons, l2, List.length_cons], by rw [sndAll]; exact ⟨o1, o2⟩⟩
    · rw [List.length_cons] at hn
      obtain ⟨n, rfl⟩ : ∃ j, n = j + 1 := ⟨n - 1, by omega⟩
      simp only [rdPs]
      rw [e1 s n (by omega), e2 s n (by omega)]
      rfl
    · rw [PyData.showableAll, a1, a2]
      rfl
    · rw [PyData.depthAll]
      omega
    · rw [wdAll, List.length_cons, Nat.mul_succ]
      omega
theorem Rdy.int {i : Int} (h : i.natAbs < 2 ^ 1900) : Rdy 1 0 600 (.int i) := by
  refine ⟨.int i, fun s n hn => ?_, ?_, Nat.le_refl _, Nat.le_refl _, trivial⟩
  · obtain ⟨n, rfl⟩ : ∃ j, n = j + 1 := ⟨n - 1, by omega⟩
    simp only [rdP]
  · rw [PyData.showable]
    refine decide_eq_true ?_
    by_cases z : i.natAbs = 0
    · rw [z]
      decide
    · exact (Nat.log2_lt z).mpr (Nat.lt_of_lt_of_le h (Nat.pow_le_pow_right (by decide) (by decide)))
theorem Rdy.str {z : Str} (h : ∀ c ∈ z.cps.toList, c < 16 ^ 8) (ho : SOk (reprText z)) : Rdy 1 0 (10 * z.length + 2) (.str z) := by
  refine ⟨.str z, fun s n hn => ?_, rfl, Nat.le_refl _, PySem.StrLaws.reprText_len z h, by rw [snd]; exact ho⟩
  obtain ⟨n, rfl⟩ : ∃ j, n = j + 1 := ⟨n - 1, by omega⟩
  simp only [rdP]
theorem Rdy.tup (h : Rds m k W l) : Rdy (m + 1) (k + 1) (W + 4) (.tup l) := by
  obtain ⟨ps, e, a, b, c, _, o⟩ := h
  refine ⟨.tuple ps, fun s n hn => ?_, by rw [PyData.showable]; exact a, by rw [PyData.depth]; omega, by rw [wd]; omega, by rw [snd]; exact o⟩
  obtain ⟨n, rfl⟩ : ∃ j, n = j + 1 := ⟨n - 1, by omega⟩
  simp only [rdP]
  rw [e s n (by omega)]
  rfl
theorem Rdy.lst (h : Rds m k W l) : Rdy (m + 1) (k + 1) (W + 4) (.lst l) := by
  obtain ⟨ps, e, a, b, c, _, o⟩ := h
  refine ⟨.list ps, fun s n hn => ?_, by rw [PyData.showable]; exact a, by rw [PyData.depth]; omega, by rw [wd]; omega, by rw [snd]; exact o⟩
  obtain ⟨n, rfl⟩ : ∃ j, n = j + 1 := ⟨n - 1, by omega⟩
  simp only [rdP]
  rw [e s n (by omega)]
  rfl
theorem kv_show : ∀ {ks ps : List PyData}, PyData.showableAll ks = true → PyData.showableAll ps = true → ks.length = ps.length → PyData.showableKv (ks.zip ps) = true ∧ PyData.depthKv (ks.zip ps) ≤ max (PyData.depthAll ks) (PyData.depthAll ps) ∧ wdKv (ks.zip ps) ≤ wdAll ks + wdAll ps
  | [], [], _, _, _ => ⟨rfl, by simp [PyData.depthKv], by simp [wdKv]⟩
  | [], _ :: _, _, _, h => by cases h
  | _ :: _, [], _, _, h => by cases h
  | x :: ks, y :: ps, h1, h2, h3 => by
    rw [PyData.showableAll, Bool.and_eq_true] at h1 h2
    obtain ⟨a, b, c⟩ := kv_show h1.2 h2.2 (by simpa using h3)
    rw [List.zip_cons_cons, PyData.showableKv, PyData.depthKv, wdKv, PyData.depthAll, PyData.depthAll, wdAll, wdAll]
    refine ⟨by rw [h1.1, h2.1, a]; rfl, by omega, by omega⟩
theorem kv_snd : ∀ {ks ps : List PyData}, sndAll ks → sndAll ps → sndKv (ks.zip ps)
  | [], ps, _, _ => by rw [List.zip_nil_left]; trivial
  | x :: ks, [], _, _ => by rw [List.zip_nil_right]; trivial
  | x :: ks, y :: ps, h1, h2 => by
    rw [sndAll] at h1 h2
    rw [List.zip_cons_cons, sndKv]
    exact ⟨h1.1, h2.1, kv_snd h1.2 h2.2⟩
theorem Rdy.dct {m0 : List (L2.Key × D)} {K : Nat} (hk : PyData.showableAll (m0.map fun p => keyP p.1) = true) (hd : PyData.depthAll (m0.map fun p => keyP p.1) = 0) (hw : wdAll (m0.map fun p => keyP p.1) ≤ K) (ho : sndAll (m0.map fun p => keyP p.1)) (h : Rds m k W (m0.map (·.2))) : Rdy (m + 1) (k + 1) (K + W + 4) (.dct m0) := by
  obtain ⟨ps, e, a, b, c, hl, o⟩ := h
  obtain ⟨x, y, z⟩ := kv_show hk a (by rw [hl, List.length_map, List.length_map])
  refine ⟨.dict ((m0.map fun p => keyP p.1).zip ps), fun s n hn => ?_, by rw [PyData.showable]; exact x, by rw [PyData.depth]; omega, by rw [wd]; omega, by rw [snd]; exact kv_snd ho o⟩
  obtain ⟨n, rfl⟩ : ∃ j, n = j + 1 := ⟨n - 1, by omega⟩
  simp only [rdP]
  rw [e s n (by omega)]
  rfl
end
end Pl
set_option Elab.async false
set_option linter.all false
set_option maxRecDepth 100000
set_option maxHeartbeats 4000000
/-! Pl: rules for dict.get, list(d), keywords, sorted texts, max. -/
namespace Pl
open Mp
open PySem (Str sizeLine PyData)
section
variable {Q : D → Sto → Prop} {E : XT} {r : En} {s : Sto} {a b c : DE} {x y : D}
theorem w_get (h : RP (fun x s1 => ∃ m0, dctOf s1 x = some m0 ∧ RP (fun y s2 => RP (fun z s3 => ∃ m k, dctOf s3 x = some m ∧ keyD y = some k ∧ Q ((getK m k).getD z) s3) E (c r s2)) E (b r s1)) E (a r s)) : RP Q E (getM a b c r s) := w_bind (h.mono (fun x s1 ⟨m0, e0, h⟩ => by
  rw [e0]
  refine w_bind (h.mono (fun y s2 h => w_bind (h.mono (fun z s3 ⟨m, k, e1, e2, h⟩ => ?_) fun _ _ _ h => h)) fun _ _ _ h => h)
  rw [e1]
  dsimp only
  rw [e2]
  exact h) fun _ _ _ h => h)
theorem w_kwA {m : DM (List D)} {k : DM (List (Str × D))} {Q : List D → Sto → Prop} (h : RP (fun ds s1 => RP (fun l s2 => Q (ds ++ [.dct (KwX.kK l)]) s2) E (k r s1)) E (m r s)) : RP Q E (kwA m k r s) := w_bind (h.mono (fun _ _ h => w_bind h) fun _ _ _ h => h)
theorem w_sprK {Q : List (Str × D) → Sto → Prop} (h : RP (fun x s1 => ∃ m l, dctOf s1 x = some m ∧ kS m = some l ∧ Q l s1) E (a r s)) : RP Q E (sprK a r s) := w_bind (h.mono (fun x s ⟨m, l, e1, e2, h⟩ => by
  rw [e1]
  dsimp only
  rw [e2]
  exact h) fun _ _ _ h => h)
theorem w_kwM {ks : List Str} {m : DM (List D)} {Q : List (Str × D) → Sto → Prop} (h : RP (fun es s1 => Q (ks.zip es) s1) E (m r s)) : RP Q E (kwM ks m r s) := w_bind h
theorem w_makeL {kk : Bool} {C : Str} {m : DF} {l : DM (List D)} (h : RP (fun x s1 => x = .glo C ∧ RP Q E (makeM kk C m l r s1)) E (a r s)) : RP Q E (makeLM kk C m a l r s) := w_bind (h.mono (fun x s ⟨e, h⟩ => by
  subst e
  dsimp only
  rw [if_pos rfl]
  exact h) fun _ _ _ h => h)
end
end Pl
set_option Elab.async false
set_option linter.all false
set_option maxRecDepth 100000
set_option maxHeartbeats 4000000
/-! whole numbers as decimal texts, both ways -/
namespace Pl
open Mp
open PySem (Str sizeLine)
open PySem.NumText (AllDigits digitsVal)
/-- the decimal digits -/
def dg (n : Nat) : List Nat := if n < 10 then [48 + n] else dg (n / 10) ++ [48 + n % 10]
termination_by n
theorem dg_lt {n : Nat} (h : n < 10) : dg n = [48 + n] := by rw [dg, if_pos h]
theorem dg_ge {n : Nat} (h : 10 ≤ n) : dg n = dg (n / 10) ++ [48 + n % 10] := by rw [dg, if_neg (by omega)]
theorem dg_all : ∀ n : Nat, AllDigits (dg n) := fun n => by
  induction n using Nat.strongRecOn with
  | _ n ih =>
    by_cases h : n < 10
    · rw [dg_lt h]
      intro c hc
      have : c = 48 + n := by simpa using hc
      omega
    · rw [dg_ge (by omega)]
      intro c hc
      rcases List.mem_append.mp hc with hc | hc
      · exact ih (n / 10) (by omega) c hc
      · have : c = 48 + n % 10 := by simpa using hc
        omega
theorem dg_ne (n : Nat) : dg n ≠ [] := by
  by_cases h : n < 10
  · rw [dg_lt h]
    simp
  · rw [dg_ge (by omega)]
    simp
theorem val_app (cs : List Nat) (c : Nat) : digitsVal (cs ++ [c]) = digitsVal cs * 10 + (c - 48) := by
  unfold digitsVal
  rw [List.foldl_append]
  rfl
theorem dg_val : ∀ n : Nat, digitsVal (dg n) = n := fun n => by
  induction n using Nat.strongRecOn with
  | _ n ih =>
    by_cases h : n < 10
    · rw [dg_lt h]
      show 0 * 10 + (48 + n - 48) = n
      omega
    · rw [dg_ge (by omega), val_app, ih (n / 10) (by omega)]
      omega
theorem dg_head : ∀ {n : Nat}, 0 < n → (dg n).head? ≠ some 48 := fun {n} => by
  induction n using Nat.strongRecOn with
  | _ n ih =>
    intro h0
    by_cases h : n < 10
    · rw [dg_lt h]
      intro z
      have : 48 + n = 48 := by simpa using z
      omega
    · rw [dg_ge (by omega), List.head?_append]
      have := ih (n / 10) (by omega) (by omega)
      cases e : (dg (n / 10)).head? with
      | none => exact absurd (List.head?_eq_none_iff.mp e) (dg_ne _)
      | some c =>
        rw [e] at this
        simpa using this
theorem dg_len : ∀ {n k : Nat}, 0 < k → ((dg n).length ≤ k ↔ n < 10 ^ k) := fun {n} => by
  induction n using Nat.strongRecOn with
  | _ n ih =>
    intro k hk
    by_cases h : n < 10
    · rw [dg_lt h]
      have : 10 ^ 1 ≤ 10 ^ k := Nat.pow_le_pow_right (by decide) hk
      simp only [List.length_cons, List.length_nil]
      constructor
      · intro _
        omega
      · intro _
        omega
    · rw [dg_ge (by omega), List.length_append, List.length_cons, List.length_nil]
      cases k with
      | zero => omega
      | succ k =>
        cases k with
        | zero =>
          have := List.length_pos_iff.mpr (dg_ne (n / 10))
          constructor
          · intro _
            omega
          · intro z
            exfalso
            simp at z
            omega
        | succ k =>
          have i1 := ih (n / 10) (by omega) (k := k + 1) (by omega)
          rw [show (10 : Nat) ^ (k + 1 + 1) = 10 ^ (k + 1) * 10 from Nat.pow_succ ..]
          constructor
          · intro z
            have := i1.mp (by omega)
            omega
          · intro z
            have := i1.mpr (by omega)
            omega
/-- digits without a zero ahead -/
def Canon (cs : List Nat) : Prop := AllDigits cs ∧ cs ≠ [] ∧ (cs.head? ≠ some 48 ∨ cs = [48])
theorem dg_canon (n : Nat) : Canon (dg n) := by
  refine ⟨dg_all n, dg_ne n, ?_⟩
  by_cases h : n = 0
  · subst h
    exact .inr (dg_lt (by decide))
  · exact .inl (dg_head (by omega))
theorem core_dg : ∀ (fuel n : Nat) (ds : List Char), n < fuel → (Nat.toDigitsCore 10 fuel n ds).map Char.toNat = dg n ++ ds.map Char.toNat
  | 0, _, _, h => absurd h (Nat.not_lt_zero _)
  | fuel + 1, n, ds, h => by
    have hd : ∀ d, d < 10 → (Nat.digitChar d).toNat = 48 + d := by decide
    unfold Nat.toDigitsCore
    dsimp only
    by_cases z : n / 10 = 0
    · rw [if_pos z, List.map_cons, hd _ (Nat.mod_lt _ (by decide)), dg_lt (by omega), Nat.mod_eq_of_lt (by omega)]
      rfl
    · rw [if_neg z, core_dg fuel (n / 10) _ (by omega), List.map_cons, hd _ (Nat.mod_lt _ (by decide)), dg_ge (n := n) (by omega), List.append_assoc]
      rfl
theorem repr_dg (n : Nat) : ((Nat.repr n).toList.map Char.toNat) = dg n := by
  rw [Nat.toList_repr]
  have := core_dg (n + 1) n [] (by omega)
  simpa [Nat.toDigits] using this
/-- the text of an integer -/
def idg (i : Int) : List Nat := if 0 ≤ i then dg i.natAbs else 45 :: dg i.natAbs
theorem str_idg (i : Int) : ((toString i : String) : Str) = CS (idg i) := by
  show Str.ofString (toString i) = _
  rw [Str.ofString_eq_toList, Int.toString_eq_repr, Int.repr_eq_if]
  unfold CS idg
  by_cases h : 0 ≤ i
  · rw [if_pos h, if_pos h, repr_dg, show i.toNat = i.natAbs by omega]
  · rw [if_neg h, if_neg h, String.toList_append, List.map_append, repr_dg]
    have : (-i).toNat = i.natAbs := by omega
    first
      | rw [this]; rfl
      | (show _ = _; rw [this]; rfl)
end Pl
set_option Elab.async false
/-! plain number theory: an odd number to 10 ^ 9 that passes the strong test to the bases 2, 3, 5 and 7 is a prime -/
namespace Pl
/-! ### what the kernel runs -/
def st {α : Type} (x : Nat) (f : Nat → α) : α := Nat.rec (f 0) (fun k _ => f (Nat.succ k)) x
theorem st_eq {α : Type} (x : Nat) (f : Nat → α) : st x f = f x := by cases x <;> rfl
def pw (a e n : Nat) : Nat :=
  st (Nat.mod (Nat.pow a (Nat.div e 16777216)) n) fun x => st (Nat.mod (Nat.mul (Nat.pow x 64) (Nat.pow a (Nat.mod (Nat.div e 262144) 64))) n) fun x =>
  st (Nat.mod (Nat.mul (Nat.pow x 64) (Nat.pow a (Nat.mod (Nat.div e 4096) 64))) n) fun x => st (Nat.mod (Nat.mul (Nat.pow x 64) (Nat.pow a (Nat.mod (Nat.div e 64) 64))) n) fun x =>
  Nat.mod (Nat.mul (Nat.pow x 64) (Nat.pow a (Nat.mod e 64))) n
theorem pw_step (a y m n : Nat) : (a ^ y % n) ^ 64 * a ^ m % n = a ^ (64 * y + m) % n := by
  rw [Nat.mul_mod, ← Nat.pow_mod, ← Nat.mul_mod, ← Nat.pow_mul, ← Nat.pow_add, Nat.mul_comm y 64]
theorem pw_eq (a e n : Nat) : pw a e n = a ^ e % n := by
  unfold pw
  simp only [st_eq]
  show (((((a ^ (e / 16777216) % n) ^ 64 * a ^ (e / 262144 % 64) % n) ^ 64 * a ^ (e / 4096 % 64) % n) ^ 64 * a ^ (e / 64 % 64) % n) ^ 64 * a ^ (e % 64) % n) = _
  rw [pw_step, pw_step, pw_step, pw_step]
  congr 2
  omega
/-- f at all places from lo to lo + 2 ^ d - 1 that are at most hi -/
noncomputable def allB (f : Nat → Bool) (hi d : Nat) : Nat → Bool :=
  Nat.rec (fun lo => Bool.rec (f lo) true (Nat.blt hi lo)) (fun d ih lo => Bool.rec (Bool.rec false (st (Nat.add lo (Nat.pow 2 d)) ih) (ih lo)) true (Nat.blt hi lo)) d
theorem allB_ok {f : Nat → Bool} {hi : Nat} : ∀ {d lo : Nat}, allB f hi d lo = true → ∀ i, lo ≤ i → i < lo + 2 ^ d → i ≤ hi → f i = true
  | 0, lo, h, i, h1, h2, h3 => by
    have e : i = lo := by omega
    subst e
    have h : (Bool.rec (f i) true (Nat.blt hi i) : Bool) = true := h
    rw [show Nat.blt hi i = false by
      cases e : Nat.blt hi i with
      | false => rfl
      | true => have := Nat.le_of_ble_eq_true e; omega] at h
    exact h
  | d + 1, lo, h, i, h1, h2, h3 => by
    have h : (Bool.rec (Bool.rec false (st (Nat.add lo (Nat.pow 2 d)) (allB f hi d)) (allB f hi d lo)) true (Nat.blt hi lo) : Bool) = true := h
    rw [show Nat.blt hi lo = false by
      cases e : Nat.blt hi lo with
      | false => rfl
      | true => have := Nat.le_of_ble_eq_true e; omega, st_eq] at h
    cases e : allB f hi d lo with
    | false => rw [e] at h; cases h
    | true =>
      rw [e] at h
      have h : allB f hi d (lo + 2 ^ d) = true := h
      rw [Nat.pow_succ] at h2
      by_cases hm : i < lo + 2 ^ d
      · exact allB_ok e i h1 hm h3
      · exact allB_ok h i (by omega) (by omega) h3
/-! ### the strong test -/
noncomputable def hitN (n : Nat) (k : Nat) : Nat → Bool := Nat.rec (fun _ => false) (fun _ ih x => st (Nat.mod (Nat.mul x x) n) fun y => Bool.rec (ih y) true (Nat.beq (Nat.add y 1) n)) k
noncomputable def sbad (a n h : Nat) : Bool := st (Nat.div (Nat.sub n 1) (Nat.pow 2 h)) fun o => st (pw a o n) fun x => Bool.rec (Bool.rec (Bool.rec true false (hitN n (Nat.sub h 1) x)) false (Nat.beq (Nat.add x 1) n)) false (Nat.beq x 1)
def hOf (n : Nat) : Nat := Nat.log2 (Nat.gcd (Nat.sub n 1) 1073741824)
/-- n has a factor to 37, or fails -/
noncomputable def test (n : Nat) : Bool :=
  Bool.rec true (Bool.rec true (Bool.rec true (Bool.rec true (Bool.rec true (st (hOf n) fun h => Bool.rec (Bool.rec (Bool.rec (sbad 7 n h) true (sbad 5 n h)) true (sbad 3 n h)) true (sbad 2 n h))
    (Nat.beq (pw 7 (Nat.sub n 1) n) 1)) (Nat.beq (pw 5 (Nat.sub n 1) n) 1)) (Nat.beq (pw 3 (Nat.sub n 1) n) 1)) (Nat.beq (pw 2 (Nat.sub n 1) n) 1)) (Nat.beq (Nat.gcd n 7420738134810) 1)
/-- n passes to the base a -/
def Str (n o h a : Nat) : Prop := a ^ o % n = 1 ∨ ∃ i, i < h ∧ a ^ (o * 2 ^ i) % n + 1 = n
structure Passes (n : Nat) : Prop where
  big : 38 ≤ n
  cop : Nat.gcd n 7420738134810 = 1
  few : n ≤ 1000000000
  str : ∃ o h, n - 1 = o * 2 ^ h ∧ o % 2 = 1 ∧ 1 ≤ h ∧ ∀ a, a = 2 ∨ a = 3 ∨ a = 5 ∨ a = 7 → Str n o h a
theorem sq_mod1 {x n : Nat} (hn : 2 ≤ n) (h : x % n + 1 = n) : x * x % n = 1 := by
  have e : x % n = n - 1 := by omega
  rw [Nat.mul_mod, e]
  obtain ⟨m, rfl⟩ : ∃ m, n = m + 2 := ⟨n - 2, by omega⟩
  rw [show (m + 2 - 1) * (m + 2 - 1) = 1 + (m + 2) * m by
    rw [show m + 2 - 1 = m + 1 by omega, Nat.add_mul, Nat.mul_add, Nat.add_mul]
    omega, Nat.add_mul_mod_self_left, Nat.mod_eq_of_lt (by omega)]
theorem one_pow_mod {x n k : Nat} (hn : 2 ≤ n) (h : x % n = 1) : x ^ k % n = 1 := by
  rw [Nat.pow_mod, h, Nat.one_pow, Nat.mod_eq_of_lt (by omega)]
theorem Str.fermat {n o h a : Nat} (hn : 3 ≤ n) (he : n - 1 = o * 2 ^ h) (s : Str n o h a) : a ^ (n - 1) % n = 1 := by
  rcases s with s | ⟨i, hi, s⟩
  · rw [he, Nat.pow_mul]
    exact one_pow_mod (by omega) s
  · have e : o * 2 ^ h = (o * 2 ^ i + o * 2 ^ i) * 2 ^ (h - i - 1) := by
      rw [← Nat.mul_add, show 2 ^ i + 2 ^ i = 2 ^ (i + 1) by rw [Nat.pow_succ]; omega, Nat.mul_assoc, ← Nat.pow_add, show i + 1 + (h - i - 1) = h by omega]
    rw [he, e, Nat.pow_mul, Nat.pow_add]
    exact one_pow_mod (by omega) (sq_mod1 (by omega) s)
theorem Passes.fermat {n : Nat} (p : Passes n) {a : Nat} (ha : a = 2 ∨ a = 3 ∨ a = 5 ∨ a = 7) : a ^ (n - 1) % n = 1 := by
  obtain ⟨o, h, e, _, _, s⟩ := p.str
  exact (s a ha).fermat (by have := p.big; omega) e
theorem hitN_ok {n a : Nat} : ∀ {k y : Nat}, hitN n k (a ^ y % n) = false → ∀ i, i < k → a ^ (y * 2 ^ (i + 1)) % n + 1 ≠ n
  | 0, y, _, i, hi => by omega
  | k + 1, y, h, i, hi => by
    have h : (st (Nat.mod (Nat.mul (a ^ y % n) (a ^ y % n)) n) fun y => (Bool.rec (hitN n k y) true (Nat.beq (Nat.add y 1) n) : Bool)) = false := h
    rw [st_eq] at h
    have e : Nat.mod (Nat.mul (a ^ y % n) (a ^ y % n)) n = a ^ (y * 2) % n := by
      show (a ^ y % n) * (a ^ y % n) % n = _
      rw [← Nat.mul_mod, ← Nat.pow_add, show y + y = y * 2 by omega]
    rw [e] at h
    cases eb : Nat.beq (Nat.add (a ^ (y * 2) % n) 1) n with
    | true => rw [eb] at h; cases h
    | false =>
      rw [eb] at h
      have h : hitN n k (a ^ (y * 2) % n) = false := h
      cases i with
      | zero =>
        intro z
        have : Nat.beq (Nat.add (a ^ (y * 2) % n) 1) n = true := Nat.beq_eq ▸ (by simpa using z)
        rw [this] at eb
        cases eb
      | succ i =>
        have ih := hitN_ok h i (by omega)
        rwa [Nat.mul_assoc, ← Nat.pow_succ', ] at ih
theorem sbad_ok {a n o h : Nat} (he : n - 1 = o * 2 ^ h) (h1 : 1 ≤ h) (s : Str n o h a) : sbad a n h = false := by
  cases hb : sbad a n h with
  | false => rfl
  | true =>
    exfalso
    unfold sbad at hb
    rw [st_eq, st_eq, pw_eq] at hb
    have eo : Nat.div (Nat.sub n 1) (Nat.pow 2 h) = o := by
      show (n - 1) / 2 ^ h = o
      rw [he, Nat.mul_div_cancel _ (Nat.pow_pos (by decide))]
    rw [eo] at hb
    cases e1 : Nat.beq (a ^ o % n) 1 with
    | true => rw [e1] at hb; cases hb
    | false =>
      rw [e1] at hb
      cases e2 : Nat.beq (Nat.add (a ^ o % n) 1) n with
      | true => rw [e2] at hb; cases hb
      | false =>
        rw [e2] at hb
        cases e3 : hitN n (Nat.sub h 1) (a ^ o % n) with
        | true => rw [e3] at hb; cases hb
        | false =>
          rcases s with s | ⟨i, hi, s⟩
          · rw [s] at e1
            cases e1
          · cases i with
            | zero =>
              rw [Nat.pow_zero, Nat.mul_one] at s
              rw [show Nat.add (a ^ o % n) 1 = n from s] at e2
              rw [show Nat.beq n n = true from Nat.beq_refl n] at e2
              cases e2
            | succ i => exact hitN_ok e3 i (by show i < h - 1; omega) s
theorem hOf_eq {n o h : Nat} (he : n - 1 = o * 2 ^ h) (ho : o % 2 = 1) (hn : n ≤ 1000000000) : hOf n = h := by
  unfold hOf
  show Nat.log2 (Nat.gcd (n - 1) 1073741824) = h
  have h30 : h ≤ 30 := by
    refine Nat.le_of_not_lt fun z => ?_
    have : 2 ^ 31 ≤ 2 ^ h := Nat.pow_le_pow_right (by decide) z
    have h2 : 1 * 2 ^ h ≤ o * 2 ^ h := Nat.mul_le_mul_right _ (by omega)
    omega
  have c : Nat.Coprime o (2 ^ (30 - h)) := by
    apply Nat.Coprime.pow_right
    rw [Nat.coprime_comm]
    unfold Nat.Coprime
    rw [Nat.gcd_rec, ho]
    rfl
  have eg : Nat.gcd (n - 1) 1073741824 = 2 ^ h := by
    rw [he, show 1073741824 = 2 ^ (30 - h) * 2 ^ h by rw [← Nat.pow_add, show 30 - h + h = 30 by omega], Nat.gcd_mul_right, c.gcd_eq_one, Nat.one_mul]
  rw [eg, Nat.log2_two_pow]
/-- what passes is not refused -/
theorem Passes.test {n : Nat} (p : Passes n) : test n = false := by
  have f : ∀ {a : Nat}, (a = 2 ∨ a = 3 ∨ a = 5 ∨ a = 7) → Nat.beq (pw a (Nat.sub n 1) n) 1 = true := fun {a} ha => by
    rw [pw_eq]
    show Nat.beq (a ^ (n - 1) % n) 1 = true
    rw [p.fermat ha]
    rfl
  obtain ⟨o, h, e, ho, h1, s⟩ := p.str
  unfold Pl.test
  rw [f (.inl rfl), f (.inr (.inl rfl)), f (.inr (.inr (.inl rfl))), f (.inr (.inr (.inr rfl))), p.cop, st_eq, hOf_eq e ho p.few,
    sbad_ok e h1 (s 2 (.inl rfl)), sbad_ok e h1 (s 3 (.inr (.inl rfl))), sbad_ok e h1 (s 5 (.inr (.inr (.inl rfl)))), sbad_ok e h1 (s 7 (.inr (.inr (.inr rfl))))]
  rfl
/-! ### orders -/
theorem pow_rem {a p e f : Nat} (hp : 2 ≤ p) (h1 : a ^ e % p = 1) (h2 : a ^ f % p = 1) : a ^ (f % e) % p = 1 := by
  have h : a ^ (e * (f / e) + f % e) % p = 1 := by rw [Nat.div_add_mod]; exact h2
  rw [Nat.pow_add, Nat.mul_mod, Nat.pow_mul, one_pow_mod hp h1, Nat.one_mul, Nat.mod_mod] at h
  exact h
theorem pow_gcd {a p : Nat} (hp : 2 ≤ p) (e f : Nat) : a ^ e % p = 1 → a ^ f % p = 1 → a ^ Nat.gcd e f % p = 1 := by
  induction e, f using Nat.gcd.induction with
  | H0 n => intro _ h; rw [Nat.gcd_zero_left]; exact h
  | H1 m n hm ih =>
    intro h1 h2
    rw [Nat.gcd_rec]
    exact ih (pow_rem hp h1 h2) h1
theorem pow_dvd {a p e f : Nat} (hp : 2 ≤ p) (h : a ^ e % p = 1) (d : e ∣ f) : a ^ f % p = 1 := by
  obtain ⟨c, rfl⟩ := d
  rw [Nat.pow_mul]
  exact one_pow_mod hp h
theorem Pr.cop_pow {l c : Nat} (hl : Pr l) (h : ¬ l ∣ c) (e : Nat) : Nat.Coprime (l ^ e) c := Nat.Coprime.pow_left e (hl.cop h)
/-- a divisor without the full power lies in the rest -/
theorem dvd_rest {l d e D : Nat} (hl : Pr l) (he : 1 ≤ e) (hD : l ^ (e - 1) ∣ D) (hd : ¬ l ^ e ∣ d) : ∀ j, d ∣ l ^ j * D → d ∣ D
  | 0, h => by rwa [Nat.pow_zero, Nat.one_mul] at h
  | j + 1, h => by
    obtain ⟨c, hc⟩ := h
    by_cases hlc : l ∣ c
    · obtain ⟨c', rfl⟩ := hlc
      refine dvd_rest hl he hD hd j ⟨c', ?_⟩
      have : l * (l ^ j * D) = l * (d * c') := by
        rw [← Nat.mul_assoc, ← Nat.pow_succ', hc, ← Nat.mul_assoc, Nat.mul_comm d l, Nat.mul_assoc]
      exact Nat.eq_of_mul_eq_mul_left (by have := hl.1; omega) this
    · exfalso
      apply hd
      refine Nat.Coprime.dvd_of_dvd_mul_right (hl.cop_pow hlc e) ?_
      rw [← hc, Nat.pow_succ', Nat.mul_assoc]
      have : l ^ e = l * l ^ (e - 1) := by rw [← Nat.pow_succ', show (e - 1).succ = e by omega]
      rw [this]
      exact Nat.mul_dvd_mul_left l (Nat.dvd_trans hD (Nat.dvd_mul_left _ _))
/-- 126! -/
def fact : Nat → Nat
  | 0 => 1
  | n + 1 => (n + 1) * fact n
theorem dvd_fact {s : Nat} : ∀ {n : Nat}, 1 ≤ s → s ≤ n → s ∣ fact n
  | 0, h1, h2 => by omega
  | n + 1, h1, h2 => by
    by_cases e : s = n + 1
    · subst e
      exact Nat.dvd_mul_right _ _
    · exact Nat.dvd_trans (dvd_fact h1 (by omega)) (Nat.dvd_mul_left _ _)
theorem Pr.le_fact {q : Nat} (h : Pr q) : ∀ {n : Nat}, q ∣ fact n → q ≤ n
  | 0, d => by
    have := Nat.le_of_dvd (by decide) d
    have := h.1
    have : fact 0 = 1 := rfl
    omega
  | n + 1, d => by
    rcases h.euclid d with d | d
    · exact Nat.le_of_dvd (by omega) d
    · have := h.le_fact d; omega
end Pl
set_option Elab.async false
set_option linter.all false
/-! the checks that the kernel runs -/
namespace Pl
def F178 : Nat := 6235135397241908741680674639927586558582878361231153877729215864681715113389074517106770270394081618113953882713761626619212667044889245663364667862568799843977208366195524719896472807475423880975816549024219691598995799655217698833954618998814300242650289839922492033762220111298560000000000000000000000000000000000000000000
def F126 : Nat := 23721732428800468856771473051394170805702085973808045661837377170052497697783313457227249544076486314839447086187187275319400401837013955325179315652376928996065123321190898603130880000000000000000000000000000000
def F1000 : Nat := 402387260077093773543702433923003985719374864210714632543799910429938512398629020592044208486969404800479988610197196058631666872994808558901323829669944590997424504087073759918823627727188732519779505950995276120874975462497043601418278094646496291056393887437886487337119181045825783647849977012476632889835955735432513185323958463075557409114262417474349347553428646576611667797396668820291207379143853719588249808126867838374559731746136085379534524221586593201928090878297308431392844403281231558611036976801357304216168747609675871348312025478589320767169132448426236131412508780208000261683151027341827977704784635868170164365024153691398281264810213092761244896359928705114964975419909342221566832572080821333186116811553615836546984046708975602900950537616475847728421889679646244945160765353408198901385442487984959953319101723355556602139450399736280750137837615307127761926849034352625200015888535147331611702103968175921510907788019393178114194545257223865541461062892187960223838971476088506276862967146674697562911234082439208160153780889893964518263243671616762179168909779911903754031274622289988005195444414282012187361745992642956581746628302955570299024324153181617210465832036786906117260158783520751516284225540265170483304226143974286933061690897968482590125458327168226458066526769958652682272807075781391858178889652208164348344825993266043367660176999612831860788386150279465955131156552036093988180612138558600301435694527224206344631797460594682573103790084024432438465657245014402821885252470935190620929023136493273497565513958720559654228749774011413346962715422845862377387538230483865688976461927383814900140767310446640259899490222221765904339901886018566526485061799702356193897017860040811889729918311021171229845901641921068884387121855646124960798722908519296819372388642614839657382291123125024186649353143970137428531926649875337218940694281434118520158014123344828015051399694290153483077644569099073152433278288269864602789864321139083506217095002597389863554277196742822248757586765752344220207573630569498825087968928162753848863396909959826280956121450994871701244516461260379029309120889086942028510640182154399457156805941872748998094254742173582401063677404595741785160829230135358081840096996372524230560855903700624271243416909004153690105933983835777939410970027753472000000000000000000000000000000000000000000000000000000000000000000000000000000000000000000000000000000000000000000000000000000000000000000000000000000000000000000000000000000000000000000000000000000000000000000000000000000000000000000000000000000000
theorem f178 : F178 = fact 178 := by decide +kernel
theorem f126 : F126 = fact 126 := by decide +kernel
theorem f1000 : F1000 = fact 1000 := by decide +kernel
/-- which numbers below 127 are primes -/
def bits : Nat := 11208725692800878387746119562700972
def tabP : List (Nat × Nat) := [(41, 40), (43, 42), (47, 46), (53, 52), (59, 58), (61, 60), (67, 66), (71, 70), (73, 72), (79, 78), (83, 82), (89, 88), (97, 96), (101, 100), (103, 102), (107, 106), (109, 108), (113, 112), (127, 126), (131, 130), (137, 136), (139, 138), (149, 148), (151, 150), (157, 156), (163, 162), (167, 166), (173, 172), (179, 178), (181, 180), (191, 190), (193, 192), (197, 196), (199, 198), (211, 210), (223, 222), (227, 226), (229, 228), (233, 232), (239, 238), (241, 240), (251, 250), (257, 256), (263, 262), (269, 268), (271, 270), (277, 276), (281, 280), (283, 282), (293, 292), (307, 306), (311, 155), (313, 312), (317, 316), (331, 330), (337, 336), (347, 346), (349, 348), (353, 352), (359, 358), (367, 366), (373, 372), (379, 378), (383, 382), (389, 388), (397, 396), (401, 400), (409, 408), (419, 418), (421, 420), (431, 430), (433, 432), (439, 438), (443, 442), (449, 448), (457, 456), (461, 460), (463, 462), (467, 466), (479, 239), (487, 486), (491, 490), (499, 498), (503, 502), (509, 508), (521, 520), (523, 522), (541, 540), (547, 546), (557, 556), (563, 562), (569, 568), (571, 570), (577, 576), (587, 586), (593, 592), (599, 598), (601, 600), (607, 606), (613, 612), (617, 616), (619, 618), (631, 630), (641, 640), (643, 642), (647, 646), (653, 652), (659, 658), (661, 660), (673, 672), (677, 676), (683, 682), (691, 690), (701, 700), (709, 708), (719, 359), (727, 726), (733, 732), (739, 738), (743, 742), (751, 750), (757, 756), (761, 760), (769, 768), (773, 772), (787, 786), (797, 796), (809, 808), (811, 810), (821, 820), (823, 822), (827, 826), (829, 828), (839, 419), (853, 852), (857, 856), (859, 858), (863, 862), (877, 876), (881, 880), (883, 882), (887, 886), (907, 906), (911, 910), (919, 918), (929, 928), (937, 936), (941, 940), (947, 946), (953, 952), (967, 966), (971, 970), (977, 976), (983, 982), (991, 990), (997, 996)]
def rt (l : Nat) : Nat := if l < 4 then 0 else if l < 9 then 1 else if l < 25 then 3 else if l < 49 then 5 else if l < 121 then 9 else 11
theorem bits_ok : ((List.range 127).all fun l => Nat.beq (Nat.mod (Nat.shiftRight bits l) 2) 0 || (decide (2 ≤ l) && decide (l < (rt l + 2) * (rt l + 2)) && noDiv l (rt l) 2)) = true := by decide +kernel
noncomputable def prB (l : Nat) : Bool := Bool.rec (Bool.rec false (Nat.beq (Nat.gcd l F126) 1) (Nat.blt l 16129)) (Nat.beq (Nat.mod (Nat.shiftRight bits l) 2) 1) (Nat.blt l 127)
theorem exists_min {n : Nat} (hn : 2 ≤ n) : ∃ p, 2 ≤ p ∧ p ∣ n ∧ ∀ d, 2 ≤ d → d ∣ n → p ≤ d := by
  have key : ∀ k, ∀ j, j + k = n → 2 ≤ j → (∀ d, 2 ≤ d → d < j → ¬ d ∣ n) → ∃ p, 2 ≤ p ∧ p ∣ n ∧ ∀ d, 2 ≤ d → d ∣ n → p ≤ d := by
    intro k
    induction k with
    | zero => intro j hj h2 hm; exact ⟨j, h2, by rw [← hj]; exact Nat.dvd_refl _, fun d hd hdn => Nat.le_of_not_lt fun z => hm d hd z hdn⟩
    | succ k ih =>
      intro j hj h2 hm
      by_cases e : j ∣ n
      · exact ⟨j, h2, e, fun d hd hdn => Nat.le_of_not_lt fun z => hm d hd z hdn⟩
      · refine ih (j + 1) (by omega) (by omega) fun d hd hdj => ?_
        by_cases h : d = j
        · rw [h]; exact e
        · exact hm d hd (by omega)
  exact key (n - 2) 2 (by omega) (by decide) (fun d h1 h2 => by omega)
theorem min_pr {n p : Nat} (h2 : 2 ≤ p) (hd : p ∣ n) (hm : ∀ d, 2 ≤ d → d ∣ n → p ≤ d) : Pr p := by
  refine ⟨h2, fun d hdp => ?_⟩
  have hp : 0 < p := by omega
  have hle := Nat.le_of_dvd hp hdp
  by_cases e : d = 1
  · exact .inl e
  · have d0 : d ≠ 0 := fun z => by
      subst z
      have := Nat.eq_zero_of_zero_dvd hdp
      omega
    exact .inr (Nat.le_antisymm hle (hm d (by omega) (Nat.dvd_trans hdp hd)))
theorem prB_ok {l : Nat} (h : prB l = true) : Pr l := by
  unfold prB at h
  cases e : Nat.blt l 127 with
  | true =>
    rw [e] at h
    have hl : l < 127 := Nat.le_of_ble_eq_true e
    have h : Nat.beq (Nat.mod (Nat.shiftRight bits l) 2) 1 = true := h
    have := List.all_eq_true.mp bits_ok l (List.mem_range.mpr hl)
    have h1 : Nat.mod (Nat.shiftRight bits l) 2 = 1 := Nat.eq_of_beq_eq_true h
    rw [h1] at this
    simp only [Bool.or_eq_true, Bool.and_eq_true, decide_eq_true_eq] at this
    rcases this with z | ⟨⟨a, b⟩, c⟩
    · cases z
    · exact pr_of a b c
  | false =>
    rw [e] at h
    cases e2 : Nat.blt l 16129 with
    | false => rw [e2] at h; cases h
    | true =>
      rw [e2] at h
      have hl2 : l < 16129 := Nat.le_of_ble_eq_true e2
      have hl : 127 ≤ l := Nat.le_of_not_lt fun z => by rw [show Nat.blt l 127 = true from Nat.ble_eq_true_of_le z] at e; cases e
      have h : Nat.gcd l F126 = 1 := Nat.eq_of_beq_eq_true h
      obtain ⟨p, p2, pd, pm⟩ := exists_min (n := l) (by omega)
      have pp := min_pr p2 pd pm
      obtain ⟨c, hc⟩ := pd
      by_cases c1 : c = 1
      · subst c1
        rw [Nat.mul_one] at hc
        rw [hc]
        exact pp
      · exfalso
        have c0 : c ≠ 0 := fun z => by subst z; omega
        have hpc := pm c (by omega) ⟨p, by rw [hc, Nat.mul_comm]⟩
        have h126 : p ≤ 126 := Nat.le_of_not_lt fun z => by
          have := Nat.mul_le_mul (show 127 ≤ p from z) (show 127 ≤ c by omega)
          omega
        have hg : p ∣ Nat.gcd l F126 := Nat.dvd_gcd ⟨c, hc⟩ (by rw [f126]; exact dvd_fact (by omega) h126)
        rw [h] at hg
        have := Nat.le_of_dvd (by decide) hg
        omega
/-! ### a number that divides n - 1 for all n with the factor x that pass -/
def All4 (x d : Nat) : Prop := ∀ a, a = 2 ∨ a = 3 ∨ a = 5 ∨ a = 7 → a ^ d % x = 1
noncomputable def ne4 (D x : Nat) : Bool := Bool.rec true (Bool.rec true (Bool.rec true (Bool.rec true false (Nat.beq (pw 7 D x) 1)) (Nat.beq (pw 5 D x) 1)) (Nat.beq (pw 3 D x) 1)) (Nat.beq (pw 2 D x) 1)
theorem ne4_ok {D x : Nat} (h : ne4 D x = true) : ¬ All4 x D := fun z => by
  have f : ∀ {a : Nat}, (a = 2 ∨ a = 3 ∨ a = 5 ∨ a = 7) → Nat.beq (pw a D x) 1 = true := fun {a} ha => by
    rw [pw_eq, z a ha]
    rfl
  unfold ne4 at h
  rw [f (.inl rfl), f (.inr (.inl rfl)), f (.inr (.inr (.inl rfl))), f (.inr (.inr (.inr rfl)))] at h
  cases h
def Div (x q : Nat) : Prop := ∀ d, d ∣ x - 1 → All4 x d → q ∣ d
noncomputable def fpow (x l : Nat) (k : Nat → Bool) (e : Nat) : Nat → Bool :=
  Nat.rec (fun _ => k 1) (fun e ih j => st (Nat.div (Nat.sub x 1) (Nat.pow l j)) fun D => Bool.rec (ih (Nat.succ j)) (Bool.rec false (Bool.rec false (st (Nat.pow l (Nat.succ e)) k) (Nat.beq (Nat.mod D (Nat.pow l e)) 0)) (Nat.beq (Nat.mul (Nat.pow l j) D) (Nat.sub x 1))) (ne4 D x)) e
theorem fpow_ok {x l : Nat} {k : Nat → Bool} (hx : 2 ≤ x) (hl : Pr l) : ∀ {e j : Nat}, fpow x l k e j = true → ∃ q, k q = true ∧ Div x q
  | 0, j, h => ⟨1, h, fun d _ _ => Nat.one_dvd d⟩
  | e + 1, j, h => by
    have h : (st (Nat.div (Nat.sub x 1) (Nat.pow l j)) fun D => (Bool.rec (fpow x l k e (Nat.succ j)) (Bool.rec false (Bool.rec false (st (Nat.pow l (Nat.succ e)) k) (Nat.beq (Nat.mod D (Nat.pow l e)) 0)) (Nat.beq (Nat.mul (Nat.pow l j) D) (Nat.sub x 1))) (ne4 D x) : Bool)) = true := h
    rw [st_eq] at h
    generalize Nat.div (Nat.sub x 1) (Nat.pow l j) = D at h
    cases e1 : ne4 D x with
    | false => rw [e1] at h; exact fpow_ok hx hl h
    | true =>
      rw [e1] at h
      cases e2 : Nat.beq (Nat.mul (Nat.pow l j) D) (Nat.sub x 1) with
      | false => rw [e2] at h; cases h
      | true =>
        rw [e2] at h
        cases e3 : Nat.beq (Nat.mod D (Nat.pow l e)) 0 with
        | false => rw [e3] at h; cases h
        | true =>
          rw [e3] at h
          have h : st (Nat.pow l (Nat.succ e)) k = true := h
          rw [st_eq] at h
          refine ⟨_, h, fun d hd ha => ?_⟩
          have e2 : l ^ j * D = x - 1 := Nat.eq_of_beq_eq_true e2
          have e3 : D % l ^ e = 0 := Nat.eq_of_beq_eq_true e3
          refine Classical.byContradiction fun hn => ?_
          have hdD : d ∣ D := dvd_rest (e := e + 1) hl (by omega) (Nat.dvd_of_mod_eq_zero e3) hn j (by rw [e2]; exact hd)
          exact ne4_ok e1 fun a h4 => pow_dvd hx (ha a h4) hdD
noncomputable def vv (l : Nat) (k : Nat → Nat → Bool) (fuel : Nat) : Nat → Nat → Bool :=
  Nat.rec (fun _ _ => false) (fun _ ih N v => Bool.rec (k N v) (st (Nat.div N l) fun N' => ih N' (Nat.succ v)) (Nat.beq (Nat.mod N l) 0)) fuel
theorem vv_ok {l : Nat} {k : Nat → Nat → Bool} : ∀ {fuel N v : Nat}, vv l k fuel N v = true → ∃ N' v', k N' v' = true
  | 0, _, _, h => by cases h
  | f + 1, N, v, h => by
    have h : (Bool.rec (k N v) (st (Nat.div N l) fun N' => vv l k f N' (Nat.succ v)) (Nat.beq (Nat.mod N l) 0) : Bool) = true := h
    cases e : Nat.beq (Nat.mod N l) 0 with
    | false => rw [e] at h; exact ⟨N, v, h⟩
    | true =>
      rw [e] at h
      have h : (st (Nat.div N l) fun N' => vv l k f N' (Nat.succ v)) = true := h
      rw [st_eq] at h
      exact vv_ok h
/-- a prime power more -/
noncomputable def more (x l v acc : Nat) (k : Nat → Bool) : Bool := Bool.rec false (fpow x l (fun q => Bool.rec false (st (Nat.mul acc q) k) (Nat.beq (Nat.gcd acc q) 1)) v 1) (prB l)
theorem more_ok {x l v acc : Nat} {k : Nat → Bool} (hx : 2 ≤ x) (ha : Div x acc) (h : more x l v acc k = true) : ∃ q, k q = true ∧ Div x q := by
  unfold more at h
  cases e : prB l with
  | false => rw [e] at h; cases h
  | true =>
    rw [e] at h
    obtain ⟨q, h1, h2⟩ := fpow_ok hx (prB_ok e) h
    cases e2 : Nat.beq (Nat.gcd acc q) 1 with
    | false => rw [e2] at h1; cases h1
    | true =>
      rw [e2] at h1
      have h1 : st (Nat.mul acc q) k = true := h1
      rw [st_eq] at h1
      exact ⟨_, h1, fun d d1 d2 => Nat.Coprime.mul_dvd_of_dvd_of_dvd (Nat.eq_of_beq_eq_true e2) (ha d d1 d2) (h2 d d1 d2)⟩
noncomputable def tdiv (x : Nat) (k : Nat → Bool) (fuel : Nat) : Nat → Nat → Nat → Bool :=
  Nat.rec (fun _ _ _ => false) (fun _ ih l N acc => Bool.rec
    (Bool.rec (st (Nat.add l (Nat.add 1 (Nat.mod l 2))) fun l' => ih l' N acc) (vv l (fun N' v => more x l v acc fun acc' => st (Nat.add l (Nat.add 1 (Nat.mod l 2))) fun l' => ih l' N' acc') 40 N 0) (Nat.beq (Nat.mod N l) 0))
    (Bool.rec (more x N 1 acc k) (k acc) (Nat.beq N 1)) (Nat.blt N (Nat.mul l l))) fuel
theorem tdiv_ok {x : Nat} {k : Nat → Bool} (hx : 2 ≤ x) : ∀ {fuel l N acc : Nat}, Div x acc → tdiv x k fuel l N acc = true → ∃ q, k q = true ∧ Div x q
  | 0, _, _, _, _, h => by cases h
  | f + 1, l, N, acc, ha, h => by
    have h : (Bool.rec (Bool.rec (st (Nat.add l (Nat.add 1 (Nat.mod l 2))) fun l' => tdiv x k f l' N acc) (vv l (fun N' v => more x l v acc fun acc' => st (Nat.add l (Nat.add 1 (Nat.mod l 2))) fun l' => tdiv x k f l' N' acc') 40 N 0) (Nat.beq (Nat.mod N l) 0))
      (Bool.rec (more x N 1 acc k) (k acc) (Nat.beq N 1)) (Nat.blt N (Nat.mul l l)) : Bool) = true := h
    cases e : Nat.blt N (Nat.mul l l) with
    | true =>
      rw [e] at h
      cases e2 : Nat.beq N 1 with
      | true => rw [e2] at h; exact ⟨acc, h, ha⟩
      | false => rw [e2] at h; exact more_ok hx ha h
    | false =>
      rw [e] at h
      cases e2 : Nat.beq (Nat.mod N l) 0 with
      | false =>
        rw [e2] at h
        have h : (st (Nat.add l (Nat.add 1 (Nat.mod l 2))) fun l' => tdiv x k f l' N acc) = true := h
        rw [st_eq] at h
        exact tdiv_ok hx ha h
      | true =>
        rw [e2] at h
        obtain ⟨N', v', h1⟩ := vv_ok h
        obtain ⟨q, h2, h3⟩ := more_ok hx ha h1
        rw [st_eq] at h2
        exact tdiv_ok hx h3 h2
noncomputable def ordL (x : Nat) (k : Nat → Bool) : Bool := tdiv x k 200 2 (Nat.sub x 1) 1
theorem ordL_ok {x : Nat} {k : Nat → Bool} (hx : 2 ≤ x) (h : ordL x k = true) : ∃ q, k q = true ∧ Div x q := tdiv_ok hx (fun d _ _ => Nat.one_dvd d) h
/-- what a number that passes has of its factors -/
theorem Passes.d4 {n p : Nat} (h : Passes n) (hp : Pr p) (h8 : 8 ≤ p) (hd : p ∣ n) {q : Nat} (hq : Div p q) : q ∣ n - 1 ∧ q ∣ p - 1 := by
  have hdv : q ∣ Nat.gcd (n - 1) (p - 1) := hq _ (Nat.gcd_dvd_right _ _) fun a ha => by
    refine pow_gcd (by omega) _ _ ?_ ?_
    · have := h.fermat ha
      rw [← Nat.mod_mod_of_dvd _ hd, this, Nat.mod_eq_of_lt (by omega)]
    · exact hp.fermat fun z => by
        have := Nat.le_of_dvd (by omega) z
        omega
  exact ⟨Nat.dvd_trans hdv (Nat.gcd_dvd_left _ _), Nat.dvd_trans hdv (Nat.gcd_dvd_right _ _)⟩
/-- a number that is seen to be none -/
noncomputable def isC (x : Nat) : Bool := Bool.rec true false (Nat.beq (Nat.gcd x (Bool.rec F178 15015 (Nat.ble x 178))) 1)
theorem isC_ok {x : Nat} (hx : Pr x) (h14 : 14 ≤ x) : isC x = false := by
  unfold isC
  have one : ∀ {F : Nat}, ¬ x ∣ F → Nat.gcd x F = 1 := fun {F} hF => hx.cop hF
  cases e : Nat.ble x 178 with
  | true =>
    have : Nat.gcd x 15015 = 1 := one fun z => by
      have := hx.le_fact (n := 13) (Nat.dvd_trans z (by decide))
      omega
    show (Bool.rec true false (Nat.beq (Nat.gcd x 15015) 1) : Bool) = false
    rw [this]
    rfl
  | false =>
    have hb : 178 < x := Nat.lt_of_not_le fun z => by rw [Nat.ble_eq_true_of_le z] at e; cases e
    have : Nat.gcd x F178 = 1 := one fun z => by
      rw [f178] at z
      have := hx.le_fact z
      omega
    show (Bool.rec true false (Nat.beq (Nat.gcd x F178) 1) : Bool) = false
    rw [this]
    rfl
/-! ### the first way: all n with a factor x -/
noncomputable def bigB (x : Nat) : Bool := Bool.rec (ordL x fun L => st (Nat.div 1000000000 (Nat.mul x L)) fun hi => allB (fun k => st (Nat.mul x (Nat.add 1 (Nat.mul k L))) test) hi (Nat.succ (Nat.log2 hi)) 1) true (isC x)
theorem bigB_ok {n p m : Nat} (h : Passes n) (hp : Pr p) (h14 : 14 ≤ p) (hn : n = p * m) (hm : 2 ≤ m) (hb : bigB p = true) : False := by
  unfold bigB at hb
  rw [isC_ok hp h14] at hb
  obtain ⟨L, h1, h2⟩ := ordL_ok (by omega) hb
  rw [st_eq] at h1
  obtain ⟨d1, d2⟩ := h.d4 hp (by omega) ⟨m, hn⟩ h2
  have e : n - 1 = (p - 1) * m + (m - 1) := by
    have : p * m = (p - 1) * m + m := by
      obtain ⟨q, rfl⟩ : ∃ q, p = q + 1 := ⟨p - 1, by omega⟩
      rw [Nat.add_mul, Nat.one_mul]
      rfl
    omega
  have dm : L ∣ m - 1 := (Nat.dvd_add_right (Nat.dvd_trans d2 (Nat.dvd_mul_right _ _))).mp (e ▸ d1)
  obtain ⟨k, hk⟩ := dm
  have hL : 0 < L := Nat.pos_of_ne_zero fun z => by subst z; omega
  have hk1 : 1 ≤ k := Nat.pos_of_ne_zero fun z => by subst z; omega
  have hmk : m = 1 + k * L := by rw [Nat.mul_comm k L]; omega
  have hle : k ≤ 1000000000 / (p * L) := by
    rw [Nat.le_div_iff_mul_le (Nat.mul_pos (by omega) hL)]
    have := h.few
    rw [hn, hmk, Nat.mul_add] at this
    rw [Nat.mul_comm, Nat.mul_assoc, Nat.mul_comm L k]
    omega
  have := allB_ok h1 k hk1 (by have := Nat.lt_log2_self (n := 1000000000 / (p * L)); show k < 1 + 2 ^ (Nat.log2 (1000000000 / (p * L)) + 1); omega) hle
  rw [st_eq] at this
  have e2 : Nat.mul p (Nat.add 1 (Nat.mul k L)) = n := by rw [hn, hmk]; rfl
  rw [e2, h.test] at this
  cases this
/-! ### the second way: n with two factors -/
noncomputable def invN (L : Nat) (k : Nat → Bool) (fuel : Nat) : Nat → Nat → Nat → Nat → Bool :=
  Nat.rec (fun _ _ _ _ => false) (fun _ ih r0 r1 t0 t1 => Bool.rec (st (Nat.div r0 r1) fun q => st (Nat.mod r0 r1) fun r2 => st (Nat.mod (Nat.add t0 (Nat.sub L (Nat.mod (Nat.mul q t1) L))) L) fun t2 => ih r1 r2 t1 t2) (k t1) (Nat.ble r1 1)) fuel
theorem invN_ok {L : Nat} {k : Nat → Bool} : ∀ {fuel r0 r1 t0 t1 : Nat}, invN L k fuel r0 r1 t0 t1 = true → ∃ t, k t = true
  | 0, _, _, _, _, h => by cases h
  | f + 1, r0, r1, t0, t1, h => by
    have h : (Bool.rec (st (Nat.div r0 r1) fun q => st (Nat.mod r0 r1) fun r2 => st (Nat.mod (Nat.add t0 (Nat.sub L (Nat.mod (Nat.mul q t1) L))) L) fun t2 => invN L k f r1 r2 t1 t2) (k t1) (Nat.ble r1 1) : Bool) = true := h
    cases e : Nat.ble r1 1 with
    | true => rw [e] at h; exact ⟨t1, h⟩
    | false =>
      rw [e] at h
      have h : (st (Nat.div r0 r1) fun q => st (Nat.mod r0 r1) fun r2 => st (Nat.mod (Nat.add t0 (Nat.sub L (Nat.mod (Nat.mul q t1) L))) L) fun t2 => invN L k f r1 r2 t1 t2) = true := h
      rw [st_eq, st_eq, st_eq] at h
      exact invN_ok h
noncomputable def pairB (p Lp r Lr : Nat) : Bool := Bool.rec
  (st (Nat.div (Nat.mul Lp Lr) (Nat.gcd Lp Lr)) fun M => st (Nat.mul p r) fun pr => invN M (fun i0 => Bool.rec false (Bool.rec false (st (Nat.div (Nat.div 1000000000 pr) M) fun hi => allB (fun k => st (Nat.mul pr (Nat.add i0 (Nat.mul k M))) test) hi (Nat.succ (Nat.log2 hi)) 0)
    (Nat.blt i0 M)) (Nat.beq (Nat.mod (Nat.mul pr i0) M) 1)) 60 M (Nat.mod pr M) 0 1) true (Nat.beq (Nat.mod Lr p) 0)
theorem pairB_ok {n p r m Lp Lr : Nat} (h : Passes n) (hp : Pr p) (hr : Pr r) (h14 : 14 ≤ p) (r14 : 14 ≤ r) (hn : n = p * r * m) (hLp : Div p Lp) (hLr : Div r Lr) (hL2 : 2 ≤ Lr) (hb : pairB p Lp r Lr = true) : False := by
  unfold pairB at hb
  obtain ⟨d1, _⟩ := h.d4 hp (by omega) ⟨r * m, by rw [hn, Nat.mul_assoc]⟩ hLp
  obtain ⟨d2, _⟩ := h.d4 hr (by omega) ⟨p * m, by rw [hn, Nat.mul_comm p r, Nat.mul_assoc]⟩ hLr
  have hbig := h.big
  cases e : Nat.beq (Nat.mod Lr p) 0 with
  | true =>
    have e : Lr % p = 0 := Nat.eq_of_beq_eq_true e
    have z1 : p ∣ n - 1 := Nat.dvd_trans (Nat.dvd_of_mod_eq_zero e) d2
    have z2 : p ∣ n := ⟨r * m, by rw [hn, Nat.mul_assoc]⟩
    have z3 : p ∣ n - (n - 1) := Nat.dvd_sub z2 z1
    rw [show n - (n - 1) = 1 by omega] at z3
    have := Nat.le_of_dvd (by decide) z3
    omega
  | false =>
    rw [e] at hb
    have hb : (st (Nat.div (Nat.mul Lp Lr) (Nat.gcd Lp Lr)) fun M => st (Nat.mul p r) fun pr => invN M (fun i0 => (Bool.rec false (Bool.rec false (st (Nat.div (Nat.div 1000000000 pr) M) fun hi => allB (fun k => st (Nat.mul pr (Nat.add i0 (Nat.mul k M))) test) hi (Nat.succ (Nat.log2 hi)) 0)
      (Nat.blt i0 M)) (Nat.beq (Nat.mod (Nat.mul pr i0) M) 1) : Bool)) 60 M (Nat.mod pr M) 0 1) = true := hb
    rw [st_eq, st_eq] at hb
    have dM : Nat.div (Nat.mul Lp Lr) (Nat.gcd Lp Lr) ∣ n - 1 := Nat.lcm_dvd d1 d2
    generalize Nat.div (Nat.mul Lp Lr) (Nat.gcd Lp Lr) = M at hb dM
    have hn' : n = Nat.mul p r * m := hn
    have hpr : 0 < Nat.mul p r := Nat.mul_pos (by omega) (by omega)
    generalize Nat.mul p r = pr at hb hn' hpr
    obtain ⟨i0, hb⟩ := invN_ok hb
    cases e1 : Nat.beq (Nat.mod (Nat.mul pr i0) M) 1 with
    | false => rw [e1] at hb; cases hb
    | true =>
      rw [e1] at hb
      cases e2 : Nat.blt i0 M with
      | false => rw [e2] at hb; cases hb
      | true =>
        rw [e2] at hb
        have hb : (st (Nat.div (Nat.div 1000000000 pr) M) fun hi => allB (fun k => st (Nat.mul pr (Nat.add i0 (Nat.mul k M))) test) hi (Nat.succ (Nat.log2 hi)) 0) = true := hb
        rw [st_eq] at hb
        have e1 : pr * i0 % M = 1 := Nat.eq_of_beq_eq_true e1
        have e2 : i0 < M := Nat.le_of_ble_eq_true e2
        obtain ⟨c, hc⟩ := dM
        have M1 : 1 < M := by
          refine Classical.byContradiction fun z => ?_
          have : M = 1 := by omega
          rw [this, Nat.mod_one] at e1
          cases e1
        have epm : pr * m % M = 1 := by
          rw [← hn', show n = 1 + M * c by omega, Nat.add_mul_mod_self_left, Nat.mod_eq_of_lt M1]
        have em : m % M = i0 := by
          have h1 : pr * i0 * m % M = m % M := by rw [Nat.mul_mod, e1, Nat.one_mul, Nat.mod_mod]
          have h2 : pr * i0 * m % M = i0 % M := by
            rw [Nat.mul_comm pr i0, Nat.mul_assoc, Nat.mul_mod, epm, Nat.mul_one, Nat.mod_mod]
          rw [← h1, h2, Nat.mod_eq_of_lt e2]
        have hk : m = i0 + m / M * M := by
          have := Nat.mod_add_div m M
          rw [em, Nat.mul_comm] at this
          exact this.symm
        have hle : m / M ≤ 1000000000 / pr / M := by
          refine Nat.div_le_div_right ?_
          rw [Nat.le_div_iff_mul_le hpr, Nat.mul_comm, ← hn']
          exact h.few
        have key := allB_ok hb (m / M) (Nat.zero_le _) (by
          have := Nat.lt_log2_self (n := 1000000000 / pr / M)
          show m / M < 0 + 2 ^ (Nat.log2 (1000000000 / pr / M) + 1)
          omega) hle
        rw [st_eq] at key
        have en : Nat.mul pr (Nat.add i0 (Nat.mul (m / M) M)) = n := by
          show pr * (i0 + m / M * M) = n
          rw [← hk, hn']
        rw [en, h.test] at key
        cases key
/-- for one r: all p of the table -/
noncomputable def rowB (r Lr : Nat) (l : List (Nat × Nat)) : Bool := List.rec true (fun a _ ih => Bool.rec true (Bool.rec false ih (pairB a.1 a.2 r Lr)) (Bool.rec false (Nat.ble (Nat.mul a.1 (Nat.mul r r)) 1000000000) (Nat.ble a.1 r))) l
theorem rowB_ok {r Lr : Nat} : ∀ {l : List (Nat × Nat)}, (l.map (·.1)).Pairwise (· < ·) → rowB r Lr l = true → ∀ p L, (p, L) ∈ l → p ≤ r → p * (r * r) ≤ 1000000000 → pairB p L r Lr = true
  | [], _, _, p, L, hm, _, _ => by cases hm
  | a :: l, hs, h, p, L, hm, h1, h2 => by
    have h : (Bool.rec true (Bool.rec false (rowB r Lr l) (pairB a.1 a.2 r Lr)) (Bool.rec false (Nat.ble (Nat.mul a.1 (Nat.mul r r)) 1000000000) (Nat.ble a.1 r)) : Bool) = true := h
    rw [List.map_cons, List.pairwise_cons] at hs
    have hap : a.1 ≤ p := by
      rcases List.mem_cons.mp hm with e | hm
      · rw [← e]; exact Nat.le_refl _
      · exact Nat.le_of_lt (hs.1 p (List.mem_map.mpr ⟨(p, L), hm, rfl⟩))
    rw [show Nat.ble a.1 r = true from Nat.ble_eq_true_of_le (by omega)] at h
    have h : (Bool.rec true (Bool.rec false (rowB r Lr l) (pairB a.1 a.2 r Lr)) (Nat.ble (Nat.mul a.1 (Nat.mul r r)) 1000000000) : Bool) = true := h
    rw [show Nat.ble (Nat.mul a.1 (Nat.mul r r)) 1000000000 = true from Nat.ble_eq_true_of_le (by
      have : a.1 * (r * r) ≤ p * (r * r) := Nat.mul_le_mul_right _ hap
      show a.1 * (r * r) ≤ 1000000000
      omega)] at h
    have h : (Bool.rec false (rowB r Lr l) (pairB a.1 a.2 r Lr) : Bool) = true := h
    cases e : pairB a.1 a.2 r Lr with
    | false => rw [e] at h; cases h
    | true =>
      rw [e] at h
      rcases List.mem_cons.mp hm with e' | hm
      · rw [← e'] at e
        exact e
      · exact rowB_ok hs.2 h p L hm h1 h2
noncomputable def midB (r : Nat) : Bool := Bool.rec (ordL r fun L => Bool.rec false (rowB r L tabP) (Nat.ble 2 L)) true (isC r)
theorem tab_asc : (tabP.map (·.1)).Pairwise (· < ·) := by decide +kernel
theorem midB_ok {n p r m Lp : Nat} (h : Passes n) (hp : Pr p) (hr : Pr r) (h14 : 14 ≤ p) (hpr : p ≤ r) (hn : n = p * r * m) (hs : p * (r * r) ≤ 1000000000) (ht : (p, Lp) ∈ tabP) (hLp : Div p Lp) (hb : midB r = true) : False := by
  unfold midB at hb
  rw [isC_ok hr (by omega)] at hb
  obtain ⟨L, h1, h2⟩ := ordL_ok (by have := hr.1; omega) hb
  cases e : Nat.ble 2 L with
  | false => rw [e] at h1; cases h1
  | true =>
    rw [e] at h1
    exact pairB_ok h hp hr h14 (by omega) hn hLp h2 (Nat.le_of_ble_eq_true e) (rowB_ok tab_asc h1 p Lp ht hpr hs)
/-! ### the third way: n of two primes, one small -/
noncomputable def gB (p : Nat) : Bool := st (Nat.sub p 1) fun e => st (Nat.gcd (Nat.gcd (Nat.sub (Nat.pow 2 e) 1) (Nat.sub (Nat.pow 3 e) 1)) (Nat.gcd (Nat.sub (Nat.pow 5 e) 1) (Nat.sub (Nat.pow 7 e) 1))) fun G =>
  st (Nat.div G (Nat.gcd G (Nat.pow F1000 16))) fun G' => Bool.rec (Bool.rec false (Bool.rec false (st (Nat.mul p G') test) (Nat.ble 1 G')) (Nat.blt G' 2000)) true (Nat.beq G' 1)
theorem Pr.dvd_pow {q x : Nat} (h : Pr q) : ∀ {k : Nat}, q ∣ x ^ k → q ∣ x
  | 0, d => by
    rw [Nat.pow_zero] at d
    have := Nat.le_of_dvd (by decide) d
    have := h.1
    omega
  | k + 1, d => (h.euclid (by rwa [Nat.pow_succ] at d)).elim (fun d => h.dvd_pow d) id
theorem gB_ok {n p q : Nat} (h : Passes n) (hp : Pr p) (hq : Pr q) (h1000 : 1000 < q) (hn : n = p * q) (hb : gB p = true) : False := by
  have hp2 := hp.1
  have key : ∀ a, a = 2 ∨ a = 3 ∨ a = 5 ∨ a = 7 → q ∣ a ^ (p - 1) - 1 := fun a ha => by
    have f1 : a ^ (n - 1) % q = 1 := by
      rw [← Nat.mod_mod_of_dvd _ (show q ∣ n from ⟨p, by rw [hn, Nat.mul_comm]⟩), h.fermat ha, Nat.mod_eq_of_lt (by omega)]
    have f2 : a ^ (q - 1) % q = 1 := hq.fermat fun z => by
      have := Nat.le_of_dvd (by omega) z
      omega
    have e : n - 1 = (q - 1) * p + (p - 1) := by
      have : p * q = (q - 1) * p + p := by
        obtain ⟨c, rfl⟩ : ∃ c, q = c + 1 := ⟨q - 1, by omega⟩
        rw [Nat.add_sub_cancel, Nat.mul_add, Nat.mul_one, Nat.mul_comm]
      omega
    rw [e, Nat.pow_add, Nat.mul_mod, Nat.pow_mul, one_pow_mod (by omega) f2, Nat.one_mul, Nat.mod_mod] at f1
    have h1 : 1 ≤ a ^ (p - 1) := Nat.pow_pos (by omega)
    refine Nat.dvd_of_mod_eq_zero (Nat.sub_mod_eq_zero_of_mod_eq ?_)
    rw [f1, Nat.mod_eq_of_lt (by omega)]
  unfold gB at hb
  rw [st_eq, st_eq, st_eq] at hb
  have dG : q ∣ Nat.gcd (Nat.gcd (Nat.sub (Nat.pow 2 (Nat.sub p 1)) 1) (Nat.sub (Nat.pow 3 (Nat.sub p 1)) 1)) (Nat.gcd (Nat.sub (Nat.pow 5 (Nat.sub p 1)) 1) (Nat.sub (Nat.pow 7 (Nat.sub p 1)) 1)) :=
    Nat.dvd_gcd (Nat.dvd_gcd (key 2 (.inl rfl)) (key 3 (.inr (.inl rfl)))) (Nat.dvd_gcd (key 5 (.inr (.inr (.inl rfl)))) (key 7 (.inr (.inr (.inr rfl)))))
  generalize Nat.gcd (Nat.gcd (Nat.sub (Nat.pow 2 (Nat.sub p 1)) 1) (Nat.sub (Nat.pow 3 (Nat.sub p 1)) 1)) (Nat.gcd (Nat.sub (Nat.pow 5 (Nat.sub p 1)) 1) (Nat.sub (Nat.pow 7 (Nat.sub p 1)) 1)) = G at hb dG
  have e : G = Nat.gcd G (Nat.pow F1000 16) * (G / Nat.gcd G (Nat.pow F1000 16)) := (Nat.mul_div_cancel' (Nat.gcd_dvd_left _ _)).symm
  have hb : (Bool.rec (Bool.rec false (Bool.rec false (st (Nat.mul p (G / Nat.gcd G (Nat.pow F1000 16))) test) (Nat.ble 1 (G / Nat.gcd G (Nat.pow F1000 16)))) (Nat.blt (G / Nat.gcd G (Nat.pow F1000 16)) 2000)) true (Nat.beq (G / Nat.gcd G (Nat.pow F1000 16)) 1) : Bool) = true := hb
  have dG' : q ∣ G / Nat.gcd G (Nat.pow F1000 16) := by
    rw [e] at dG
    rcases hq.euclid dG with z | z
    · exfalso
      have z1 : q ∣ F1000 ^ 16 := Nat.dvd_trans z (Nat.gcd_dvd_right _ _)
      have z2 := hq.dvd_pow z1
      rw [f1000] at z2
      have := hq.le_fact z2
      omega
    · exact z
  generalize G / Nat.gcd G (Nat.pow F1000 16) = G' at hb dG'
  cases e1 : Nat.beq G' 1 with
  | true =>
    rw [Nat.eq_of_beq_eq_true e1] at dG'
    have := Nat.le_of_dvd (by decide) dG'
    omega
  | false =>
    rw [e1] at hb
    cases e2 : Nat.blt G' 2000 with
    | false => rw [e2] at hb; cases hb
    | true =>
      rw [e2] at hb
      have hG : G' < 2000 := Nat.le_of_ble_eq_true e2
      obtain ⟨c, hc⟩ := dG'
      cases e3 : Nat.ble 1 G' with
      | false => rw [e3] at hb; cases hb
      | true =>
        rw [e3] at hb
        have hb : st (Nat.mul p G') test = true := hb
        rw [st_eq] at hb
        have h1 : 1 ≤ G' := Nat.le_of_ble_eq_true e3
        have hc2 : c = 1 := by
          by_cases z : c < 2
          · have : c ≠ 0 := fun z => by
              rw [z, Nat.mul_zero] at hc
              omega
            omega
          · have := Nat.mul_le_mul (show 1001 ≤ q from h1000) (show 2 ≤ c by omega)
            omega
        subst hc2
        rw [Nat.mul_one] at hc
        rw [hc, show Nat.mul p q = n from hn.symm, h.test] at hb
        cases hb
end Pl
set_option Elab.async false
/-! what passes is a prime -/
namespace Pl
theorem mid1 : allB (fun i => st (Nat.add (Nat.mul 2 i) 1) midB) 60 14 20 = true := by decide +kernel
theorem mid2 : allB (fun i => st (Nat.add (Nat.mul 2 i) 1) midB) 200 14 61 = true := by decide +kernel
theorem mid3 : allB (fun i => st (Nat.add (Nat.mul 2 i) 1) midB) 700 14 201 = true := by decide +kernel
theorem mid4 : allB (fun i => st (Nat.add (Nat.mul 2 i) 1) midB) 2469 14 701 = true := by decide +kernel
theorem big1 : allB (fun i => st (Nat.add (Nat.mul 2 i) 1) bigB) 1200 14 500 = true := by decide +kernel
theorem big2 : allB (fun i => st (Nat.add (Nat.mul 2 i) 1) bigB) 3000 14 1201 = true := by decide +kernel
theorem big3 : allB (fun i => st (Nat.add (Nat.mul 2 i) 1) bigB) 7000 14 3001 = true := by decide +kernel
theorem big4 : allB (fun i => st (Nat.add (Nat.mul 2 i) 1) bigB) 15811 14 7001 = true := by decide +kernel
/-- a row of the table is right -/
noncomputable def tabB (a : Nat × Nat) : Bool := Bool.rec false (gB a.1) (ordL a.1 fun L => Nat.beq L a.2)
theorem tab_ok : (tabP.all tabB) = true := by decide +kernel
theorem tab_all : (allB (fun i => st (Nat.add (Nat.mul 2 i) 1) fun x => Bool.rec ((tabP.map (·.1)).any (Nat.beq x)) true (isC x)) 499 14 20) = true := by decide +kernel
theorem small40 : ((List.range 41).all fun p => decide (p < 2) || decide (7420738134810 % p = 0) || (decide (2 < p) && decide (p % 2 = 0)) || (decide (3 < p) && decide (p % 3 = 0)) || (decide (5 < p) && decide (p % 5 = 0))) = true := by decide +kernel
theorem Pr.odd {p : Nat} (h : Pr p) (h2 : 2 < p) : p = 2 * (p / 2) + 1 := by
  have : p % 2 ≠ 0 := fun z => by
    rcases h.2 2 (Nat.dvd_of_mod_eq_zero z) with e | e <;> omega
  omega
theorem bigB_all {p : Nat} (h : Pr p) (h1 : 1000 < p) (h2 : p ≤ 31623) : bigB p = true := by
  have e := h.odd (by omega)
  have key : ∀ {hi lo : Nat}, allB (fun i => st (Nat.add (Nat.mul 2 i) 1) bigB) hi 14 lo = true → lo ≤ p / 2 → p / 2 < lo + 16384 → p / 2 ≤ hi → bigB p = true := fun {hi lo} hb l1 l2 l3 => by
    have := allB_ok hb (p / 2) l1 l2 l3
    rw [st_eq] at this
    rwa [show Nat.add (Nat.mul 2 (p / 2)) 1 = p from e.symm] at this
  by_cases a1 : p / 2 ≤ 1200
  · exact key big1 (by omega) (by omega) a1
  by_cases a2 : p / 2 ≤ 3000
  · exact key big2 (by omega) (by omega) a2
  by_cases a3 : p / 2 ≤ 7000
  · exact key big3 (by omega) (by omega) a3
  · exact key big4 (by omega) (by omega) (by omega)
theorem midB_all {p : Nat} (h : Pr p) (h1 : 41 ≤ p) (h2 : p ≤ 4939) : midB p = true := by
  have e := h.odd (by omega)
  have key : ∀ {hi lo : Nat}, allB (fun i => st (Nat.add (Nat.mul 2 i) 1) midB) hi 14 lo = true → lo ≤ p / 2 → p / 2 < lo + 16384 → p / 2 ≤ hi → midB p = true := fun {hi lo} hb l1 l2 l3 => by
    have := allB_ok hb (p / 2) l1 l2 l3
    rw [st_eq] at this
    rwa [show Nat.add (Nat.mul 2 (p / 2)) 1 = p from e.symm] at this
  by_cases a1 : p / 2 ≤ 60
  · exact key mid1 (by omega) (by omega) a1
  by_cases a2 : p / 2 ≤ 200
  · exact key mid2 (by omega) (by omega) a2
  by_cases a3 : p / 2 ≤ 700
  · exact key mid3 (by omega) (by omega) a3
  · exact key mid4 (by omega) (by omega) (by omega)
theorem tab_has {p : Nat} (h : Pr p) (h1 : 41 ≤ p) (h2 : p < 1000) : ∃ L, (p, L) ∈ tabP ∧ Div p L ∧ gB p = true := by
  have e := h.odd (by omega)
  have := allB_ok tab_all (p / 2) (by omega) (by omega) (by omega)
  rw [st_eq, show Nat.add (Nat.mul 2 (p / 2)) 1 = p from e.symm] at this
  rw [isC_ok h (by omega)] at this
  obtain ⟨x, hx, ex⟩ := List.any_eq_true.mp this
  obtain ⟨⟨q, L⟩, hm, rfl⟩ := List.mem_map.mp hx
  have eq : p = q := Nat.eq_of_beq_eq_true ex
  subst eq
  have hr := List.all_eq_true.mp tab_ok _ hm
  unfold tabB at hr
  cases e1 : ordL p fun L' => Nat.beq L' L with
  | false => simp only [e1] at hr; cases hr
  | true =>
    simp only [e1] at hr
    obtain ⟨L', h1, h2⟩ := ordL_ok (by omega) e1
    rw [Nat.eq_of_beq_eq_true h1] at h2
    exact ⟨L, hm, h2, hr⟩
theorem Passes.pr {n : Nat} (h : Passes n) : Pr n := by
  have hbig := h.big
  have hfew := h.few
  obtain ⟨p, p2, pd, pm⟩ := exists_min (n := n) (by omega)
  have hp := min_pr p2 pd pm
  obtain ⟨m, hn⟩ := pd
  by_cases m1 : m = 1
  · subst m1
    rw [Nat.mul_one] at hn
    rw [hn]
    exact hp
  exfalso
  have m0 : m ≠ 0 := fun z => by rw [z, Nat.mul_zero] at hn; omega
  have hpm : p ≤ m := pm m (by omega) ⟨p, by rw [hn, Nat.mul_comm]⟩
  have hpp : p * p ≤ n := by rw [hn]; exact Nat.mul_le_mul_left _ hpm
  have hp41 : 41 ≤ p := by
    refine Nat.le_of_not_lt fun z => ?_
    have := List.all_eq_true.mp small40 p (List.mem_range.mpr z)
    simp only [Bool.or_eq_true, Bool.and_eq_true, decide_eq_true_eq] at this
    have no : ∀ d, 2 ≤ d → d < p → p % d = 0 → False := fun d h1 h2 h3 => by
      rcases hp.2 d (Nat.dvd_of_mod_eq_zero h3) with e | e <;> omega
    rcases this with (((a | a) | a) | a) | a
    · omega
    · have hg : p ∣ Nat.gcd n 7420738134810 := Nat.dvd_gcd ⟨m, hn⟩ (Nat.dvd_of_mod_eq_zero a)
      rw [h.cop] at hg
      have := Nat.le_of_dvd (by decide) hg
      omega
    · exact no 2 (by decide) a.1 a.2
    · exact no 3 (by decide) a.1 a.2
    · exact no 5 (by decide) a.1 a.2
  have hps : p ≤ 31623 := by
    refine Nat.le_of_not_lt fun z => ?_
    have := Nat.mul_le_mul (show 31624 ≤ p from z) (show 31624 ≤ p from z)
    omega
  by_cases hp1 : 1000 < p
  · exact bigB_ok h hp (by omega) hn (by omega) (bigB_all hp hp1 hps)
  have hp1000 : p < 1000 := by
    refine Nat.lt_of_le_of_ne (by omega) fun z => ?_
    rcases hp.2 2 ⟨500, by omega⟩ with e | e <;> omega
  obtain ⟨L, t1, t2, t3⟩ := tab_has hp hp41 hp1000
  obtain ⟨r, r2, rd, rm⟩ := exists_min (n := m) (by omega)
  have hr := min_pr r2 rd rm
  obtain ⟨m', hm'⟩ := rd
  have hpr : p ≤ r := pm r r2 ⟨p * m', by rw [hn, hm', ← Nat.mul_assoc, Nat.mul_comm p r, Nat.mul_assoc]⟩
  have hn2 : n = p * r * m' := by rw [hn, hm', Nat.mul_assoc]
  have m'0 : m' ≠ 0 := fun z => by rw [z, Nat.mul_zero] at hm'; omega
  have fin : p * (r * r) ≤ 1000000000 → r ≤ 4939 → False := fun a b => midB_ok h hp hr (by omega) hpr hn2 a t1 t2 (midB_all hr (by omega) b)
  by_cases hm1 : m' = 1
  · subst hm1
    by_cases hr1 : r ≤ 1000
    · have a1 : r * r ≤ 1000 * 1000 := Nat.mul_le_mul hr1 hr1
      have a2 : p * (r * r) ≤ 1000 * (1000 * 1000) := Nat.mul_le_mul (by omega) a1
      exact fin (by omega) (by omega)
    · rw [Nat.mul_one] at hn2
      exact gB_ok h hp hr (by omega) hn2 t3
  · have hrm : r ≤ m' := rm m' (by omega) ⟨r, by rw [hm', Nat.mul_comm]⟩
    have a1 : p * (r * r) ≤ n := by
      rw [hn2, Nat.mul_assoc]
      exact Nat.mul_le_mul_left _ (Nat.mul_le_mul_left _ hrm)
    refine fin (by omega) (Nat.le_of_not_lt fun z => ?_)
    have a2 := Nat.mul_le_mul (show 41 ≤ p from hp41) (Nat.mul_le_mul (show 4940 ≤ r from z) (show 4940 ≤ r from z))
    omega
end Pl
set_option Elab.async false
set_option linter.all false
set_option maxRecDepth 100000
set_option maxHeartbeats 0
namespace G
open PySem PySem.Spec PyProof.Rows L2 Mp
section
variable {w : World} {K : Frag} {mg : Str → Option Value} {base : Heap}
theorem z0 (Z : FX K mg) : mg "ValueError" = none := Z.free 0 rfl
theorem z1 (Z : FX K mg) : OexB K (He.ga K "InvalidPrime") "ValueError" "ValueError.__new__" "ValueError.__init__" mValue ∧ PySem.W.findIn K (.ref (He.ga K "InvalidPrime")) "__init__" = some (some (.ref (He.ma K (He.ga K "InvalidPrime") "__init__"))) ∧ PySem.W.typeIn K (.ref (He.ma K (He.ga K "InvalidPrime") "__init__")) = some (.type "function") := Z.exc 1 bxValue rfl
theorem z2 (Z : FX K mg) : NoAttr K (He.ga K "InvalidPrime") "value" := Z.noat 2 rfl
theorem z3 (Z : FX K mg) : OexB K (He.ga K "InvalidText") "ValueError" "ValueError.__new__" "ValueError.__init__" mValue ∧ PySem.W.findIn K (.ref (He.ga K "InvalidText")) "__init__" = some (some (.ref (He.ma K (He.ga K "InvalidText") "__init__"))) ∧ PySem.W.typeIn K (.ref (He.ma K (He.ga K "InvalidText") "__init__")) = some (.type "function") := Z.exc 3 bxValue rfl
theorem z4 (Z : FX K mg) : NoAttr K (He.ga K "InvalidText") "line" := Z.noat 4 rfl
theorem z5 (Z : FX K mg) : mg "Field" = some (.ref (He.ga K "Field")) := Z.glo 5 rfl
theorem z6 (Z : FX K mg) : mg "isinstance" = none := Z.free 6 rfl
theorem z7 (Z : FX K mg) : Cls K (He.ga K "Modulo") := Z.cls 7 rfl
theorem z8 (Z : FX K mg) : NoAttr K (He.ga K "Modulo") "own_prime" := Z.noat 8 rfl
theorem z9 (Z : FX K mg) : Cls K (He.ga K "Fractions") := Z.cls 9 rfl
theorem z10 (Z : FX K mg) : NoAttr K (He.ga K "Fractions") "own_prime" := Z.noat 10 rfl
theorem z11 (Z : FX K mg) : (decide (He.ma K (He.ga K "Fractions") "__eq__" = (fun K => He.ma K (He.ga K "Field") "__eq__") K)) = true := Z.fact (f := fun K => decide (He.ma K (He.ga K "Fractions") "__eq__" = (fun K => He.ma K (He.ga K "Field") "__eq__") K)) 11 rfl
theorem z12 (Z : FX K mg) : (decide (He.ma K (He.ga K "Modulo") "__eq__" = (fun K => He.ma K (He.ga K "Field") "__eq__") K)) = true := Z.fact (f := fun K => decide (He.ma K (He.ga K "Modulo") "__eq__" = (fun K => He.ma K (He.ga K "Field") "__eq__") K)) 12 rfl
theorem z13 (Z : FX K mg) : ∃ t, mg "FRACTIONS" = some (.str "fractions" t) := Z.str 13 rfl
theorem z14 (Z : FX K mg) : ∃ t, mg "MODULO" = some (.str "modulo " t) := Z.str 14 rfl
theorem z15 (Z : FX K mg) : BigD K := Z.big 15 rfl
theorem z16 (Z : FX K mg) : mg "str" = none := Z.free 16 rfl
theorem z17 (Z : FX K mg) : (decide (propG "Fractions" "name" K = (propG "Field" "name") K)) = true := Z.fact (f := fun K => decide (propG "Fractions" "name" K = (propG "Field" "name") K)) 17 rfl
theorem z18 (Z : FX K mg) : (decide (propG "Modulo" "name" K = (propG "Field" "name") K)) = true := Z.fact (f := fun K => decide (propG "Modulo" "name" K = (propG "Field" "name") K)) 18 rfl
theorem z20 (Z : FX K mg) : mg "super" = none := Z.free 20 rfl
theorem z21 (Z : FX K mg) : mg "int" = none := Z.free 21 rfl
theorem z22 (Z : FX K mg) : mg "bool" = none := Z.free 22 rfl
theorem z23 (Z : FX K mg) : mg "is_integer" = some (.ref (He.ga K "is_integer")) := Z.glo 23 rfl
theorem z24 (Z : FX K mg) : mg "power" = some (.ref (He.ga K "power")) := Z.glo 24 rfl
theorem z25 (Z : FX K mg) : mg "range" = none := Z.free 25 rfl
theorem z26 (Z : FX K mg) : ∃ t, mg "MAX_PRIME" = some (.int 1000000000 t) := Z.int 26 rfl
theorem z27 (Z : FX K mg) : mg "is_between" = some (.ref (He.ga K "is_between")) := Z.glo 27 rfl
theorem z28 (Z : FX K mg) : mg "SMALL_PRIMES" = some (.ref (He.ga K "SMALL_PRIMES")) := Z.glo 28 rfl
theorem z29 (Z : FX K mg) : KT K (He.ga K "SMALL_PRIMES") (([.int 2, .int 3, .int 5, .int 7, .int 11, .int 13, .int 17, .int 19, .int 23, .int 29, .int 31, .int 37] : List He.Dv).map (He.Dv.v K)) := Z.tup 29 rfl
theorem z30 (Z : FX K mg) : mg "WITNESSES" = some (.ref (He.ga K "WITNESSES")) := Z.glo 30 rfl
theorem z31 (Z : FX K mg) : KT K (He.ga K "WITNESSES") (([.int 2, .int 3, .int 5, .int 7] : List He.Dv).map (He.Dv.v K)) := Z.tup 31 rfl
theorem z32 (Z : FX K mg) : mg "is_witness" = some (.ref (He.ga K "is_witness")) := Z.glo 32 rfl
theorem z33 (Z : FX K mg) : mg "any" = none := Z.free 33 rfl
theorem z34 (Z : FX K mg) : mg "is_prime" = some (.ref (He.ga K "is_prime")) := Z.glo 34 rfl
theorem z35 (Z : FX K mg) : mg "InvalidPrime" = some (.ref (He.ga K "InvalidPrime")) := Z.glo 35 rfl
theorem z37 (Z : FX K mg) : mg "all" = none := Z.free 37 rfl
theorem z38 (Z : FX K mg) : mg "InvalidText" = some (.ref (He.ga K "InvalidText")) := Z.glo 38 rfl
theorem z39 (Z : FX K mg) : Mk K (He.ga K "Fractions") (He.ma K (He.ga K "Fractions") "__init__") := Z.mkr 39 rfl
theorem z40 (Z : FX K mg) : mg "Fractions" = some (.ref (He.ga K "Fractions")) := Z.glo 40 rfl
theorem z41 (Z : FX K mg) : mg "len" = none := Z.free 41 rfl
theorem z42 (Z : FX K mg) : mg "is_numeral" = some (.ref (He.ga K "is_numeral")) := Z.glo 42 rfl
theorem z43 (Z : FX K mg) : ∃ t, mg "MAX_DIGITS" = some (.int 100 t) := Z.int 43 rfl
theorem z44 (Z : FX K mg) : Mk K (He.ga K "Modulo") (He.ma K (He.ga K "Modulo") "__init__") := Z.mkr 44 rfl
theorem z45 (Z : FX K mg) : mg "Modulo" = some (.ref (He.ga K "Modulo")) := Z.glo 45 rfl
theorem z46 (Z : FX K mg) : (decide (propG "Fractions" "prime" K = (propG "Field" "prime") K)) = true := Z.fact (f := fun K => decide (propG "Fractions" "prime" K = (propG "Field" "prime") K)) 46 rfl
theorem z47 (Z : FX K mg) : (decide (propG "Modulo" "prime" K = (propG "Field" "prime") K)) = true := Z.fact (f := fun K => decide (propG "Modulo" "prime" K = (propG "Field" "prime") K)) 47 rfl
theorem z48 (Z : FX K mg) : mg "abs" = none := Z.free 48 rfl
theorem z49 (Z : FX K mg) : mg "_law_draw" = some (.ref (He.ga K "_law_draw")) := Z.glo 49 rfl
theorem z50 (Z : FX K mg) : mg "_law_pick" = some (.ref (He.ga K "_law_pick")) := Z.glo 50 rfl
theorem z51 (Z : FX K mg) : mg "_law_odd" = some (.ref (He.ga K "_law_odd")) := Z.glo 51 rfl
theorem z52 (Z : FX K mg) : mg "_law_is_whole" = some (.ref (He.ga K "_law_is_whole")) := Z.glo 52 rfl
theorem z53 (Z : FX K mg) : mg "_law_is_prime" = some (.ref (He.ga K "_law_is_prime")) := Z.glo 53 rfl
theorem z54 (Z : FX K mg) : mg "list" = none := Z.free 54 rfl
theorem z55 (Z : FX K mg) : ClX.CRead K (He.ga K "Field") (.type "type") := Z.cr 55 rfl
theorem z56 (Z : FX K mg) : SMet K (He.ga K "Field") "named" (He.ma K (He.ga K "Field") "named") (He5.wf K (He.ga K "Field") "staticmethod" "named") := Z.sm 56 rfl
theorem z57 (Z : FX K mg) : ExTab K (((fun K => .ref (He.ga K "InvalidText") : Frag → Value)) K) [("InvalidPrime", false), ("InvalidText", true)] := Z.exm 57 rfl
theorem z58 (Z : FX K mg) : ExcC K (He.ga K "InvalidText") := Z.xc 58 rfl
theorem z59 (Z : FX K mg) : SysD K := Z.sys 59 rfl
theorem z60 (Z : FX K mg) : mg "repr" = none := Z.free 60 rfl
theorem z61 (Z : FX K mg) : ExTab K (((fun K => .ref (He.ga K "InvalidPrime") : Frag → Value)) K) [("InvalidPrime", true), ("InvalidText", false)] := Z.exm 61 rfl
theorem z62 (Z : FX K mg) : ExcC K (He.ga K "InvalidPrime") := Z.xc 62 rfl
theorem z63 (Z : FX K mg) : KitTab K "InvalidPrime" [("ValueError", true), ("LookupError", false), ("ArithmeticError", false), ("OverflowError", false), ("RuntimeError", false)] := Z.kt 63 rfl
theorem z64 (Z : FX K mg) : mg "_law_pen" = some (.ref (He.ga K "_law_pen")) := Z.glo 64 rfl
theorem z65 (Z : FX K mg) : PropOf K (He.ga K "Modulo") "prime" (He.ma K (He.ga K "Modulo") "prime") (propG "Modulo" "prime" K) := Z.propOf 65 rfl
theorem z66 (Z : FX K mg) : PropOf K (He.ga K "Fractions") "prime" (He.ma K (He.ga K "Fractions") "prime") (propG "Fractions" "prime" K) := Z.propOf 66 rfl
theorem z67 (Z : FX K mg) : PropOf K (He.ga K "Modulo") "name" (He.ma K (He.ga K "Modulo") "name") (propG "Modulo" "name" K) := Z.propOf 67 rfl
theorem z68 (Z : FX K mg) : PropOf K (He.ga K "Fractions") "name" (He.ma K (He.ga K "Fractions") "name") (propG "Fractions" "name" K) := Z.propOf 68 rfl
theorem z69 (Z : FX K mg) : Meth K (He.ga K "Modulo") "__eq__" (He.ma K (He.ga K "Modulo") "__eq__") := Z.meth 69 rfl
theorem z70 (Z : FX K mg) : PySem.W.findIn K (.ref (He.ga K "Modulo")) "__ne__" = some (some (.builtin "object.__ne__")) ∧ PySem.W.subIn K (.ref (He.ga K "Modulo")) (.type "object") = some true := ckNeq_ok (Z.fact (f := ckNeq "Modulo") 70 rfl)
theorem z71 (Z : FX K mg) : PySem.W.notFirst K (He.ga K "Modulo") (.ref (He.ga K "Modulo")) = true := Z.fact (f := fun K => PySem.W.notFirst K (He.ga K "Modulo") (.ref (He.ga K "Modulo"))) 71 rfl
theorem z72 (Z : FX K mg) : PySem.W.notFirst K (He.ga K "Modulo") (.ref (He.ga K "Fractions")) = true := Z.fact (f := fun K => PySem.W.notFirst K (He.ga K "Modulo") (.ref (He.ga K "Fractions"))) 72 rfl
theorem z73 (Z : FX K mg) : Meth K (He.ga K "Fractions") "__eq__" (He.ma K (He.ga K "Fractions") "__eq__") := Z.meth 73 rfl
theorem z74 (Z : FX K mg) : PySem.W.findIn K (.ref (He.ga K "Fractions")) "__ne__" = some (some (.builtin "object.__ne__")) ∧ PySem.W.subIn K (.ref (He.ga K "Fractions")) (.type "object") = some true := ckNeq_ok (Z.fact (f := ckNeq "Fractions") 74 rfl)
theorem z75 (Z : FX K mg) : PySem.W.notFirst K (He.ga K "Fractions") (.ref (He.ga K "Modulo")) = true := Z.fact (f := fun K => PySem.W.notFirst K (He.ga K "Fractions") (.ref (He.ga K "Modulo"))) 75 rfl
theorem z76 (Z : FX K mg) : PySem.W.notFirst K (He.ga K "Fractions") (.ref (He.ga K "Fractions")) = true := Z.fact (f := fun K => PySem.W.notFirst K (He.ga K "Fractions") (.ref (He.ga K "Fractions"))) 76 rfl
theorem z77 (Z : FX K mg) : PySem.W.notFirst K (He.ga K "Modulo") (.type "list") = true := Z.fact (f := ckNp "Modulo" "list") 77 rfl
theorem z78 (Z : FX K mg) : PySem.W.notFirst K (He.ga K "Modulo") (.type "str") = true := Z.fact (f := ckNp "Modulo" "str") 78 rfl
theorem z79 (Z : FX K mg) : PySem.W.notFirst K (He.ga K "Modulo") (.type "int") = true := Z.fact (f := ckNp "Modulo" "int") 79 rfl
theorem z80 (Z : FX K mg) : PySem.W.notFirst K (He.ga K "Fractions") (.type "list") = true := Z.fact (f := ckNp "Fractions" "list") 80 rfl
theorem z81 (Z : FX K mg) : PySem.W.notFirst K (He.ga K "Fractions") (.type "str") = true := Z.fact (f := ckNp "Fractions" "str") 81 rfl
theorem z82 (Z : FX K mg) : PySem.W.notFirst K (He.ga K "Fractions") (.type "int") = true := Z.fact (f := ckNp "Fractions" "int") 82 rfl
theorem z83 (Z : FX K mg) : ∃ u, Con K (He.ga K "Modulo") "DIGITS" (He.Dv.v K (.int 100)) u := Z.con 83 rfl
theorem z84 (Z : FX K mg) : ∃ u, Con K (He.ga K "Fractions") "DIGITS" (He.Dv.v K (.int 100)) u := Z.con 84 rfl
theorem z85 (Z : FX K mg) : ∃ u, ClX.CVal K (He.ga K "Field") (.type "type") "DIGITS" (.int 100) u := Z.cv 85 rfl
theorem z86 (Z : FX K mg) : mg "min" = none := Z.free 86 rfl
theorem z87 (Z : FX K mg) : mg "_law_drawn_prime" = some (.ref (He.ga K "_law_drawn_prime")) := Z.glo 87 rfl
theorem z88 (Z : FX K mg) : mg "_law_is_fine" = some (.ref (He.ga K "_law_is_fine")) := Z.glo 88 rfl
theorem z89 (Z : FX K mg) : mg "_law_refused" = some (.ref (He.ga K "_law_refused")) := Z.glo 89 rfl
theorem z90 (Z : FX K mg) : mg "_law_prime" = some (.ref (He.ga K "_law_prime")) := Z.glo 90 rfl
theorem z91 (Z : FX K mg) : mg "_law_bent_name" = some (.ref (He.ga K "_law_bent_name")) := Z.glo 91 rfl
theorem z92 (Z : FX K mg) : mg "_law_read" = some (.ref (He.ga K "_law_read")) := Z.glo 92 rfl
theorem z93 (Z : FX K mg) : mg "_law_made_field" = some (.ref (He.ga K "_law_made_field")) := Z.glo 93 rfl
theorem z95 (Z : FX K mg) : IsiOk K it0 := Z.isi 95 rfl
theorem z_isi (Z : FX K mg) : IsiOk K it0 := z95 Z
theorem x_InvalidPrime (Z : FX K mg) : ∃ fd, FnOk PP w K mg base (L2.CX PP w) 1 (He.ma K (He.ga K "InvalidPrime") "__init__") fd ["self", "value"] (spI1 (He.ga K "InvalidPrime") "value") ∧ Binds K fd ["self", "value"] [] := by
  obtain ⟨fd, F⟩ := Z.df 0 (d := d_InvalidPrime___init__) rfl rfl
  exact ⟨fd, fn_init1 F ⟨rfl, rfl, rfl, by decide +kernel, rfl, by decide +kernel, by decide +kernel⟩ rfl rfl (by decide) (by decide) (z0 Z) ((z1 Z)).1 (z2 Z), F.bindsN (ps := ["self", "value"]) fun _ _ _ _ _ _ us hl => match us, hl with | [_, _], _ => rfl⟩
theorem x_InvalidText (Z : FX K mg) : ∃ fd, FnOk PP w K mg base (L2.CX PP w) 1 (He.ma K (He.ga K "InvalidText") "__init__") fd ["self", "line"] (spI1 (He.ga K "InvalidText") "line") ∧ Binds K fd ["self", "line"] [] := by
  obtain ⟨fd, F⟩ := Z.df 1 (d := d_InvalidText___init__) rfl rfl
  exact ⟨fd, fn_init1 F ⟨rfl, rfl, rfl, by decide +kernel, rfl, by decide +kernel, by decide +kernel⟩ rfl rfl (by decide) (by decide) (z0 Z) ((z3 Z)).1 (z4 Z), F.bindsN (ps := ["self", "line"]) fun _ _ _ _ _ _ us hl => match us, hl with | [_, _], _ => rfl⟩
noncomputable def b_Field___eq__ : DS := retS (andV (argM (isiD it0) (consA (vM 1) (consA (cM (.glo "Field")) (nilA)))) ((binM eqD (attrM [("Fractions", .fld), ("Modulo", .fld)] "own_prime" (vM 0)) (attrM [("Fractions", .fld), ("Modulo", .fld)] "own_prime" (vM 1)))))
noncomputable def m_Field___eq__ : DF := bodyM 2 [] 2 b_Field___eq__
theorem c_Field___eq__ (Z : FX K mg) {f : Addr} : BodyD PP w K mg base ["self", "other"] "Field.__eq__" (defScope s_Field___eq__) f 0 (defBody s_Field___eq__) b_Field___eq__ := by
  intro cdv A outer s H E hr
  have nd : (["self", "other"] : List Str).Nodup := by decide +kernel
  have tk : Takes (cxOf (L2.CX PP w) PP w K mg base ["self", "other"] "Field.__eq__" (defScope s_Field___eq__) f cdv A outer s H E) (fun c d _ H' => E c d H') := takes_of rfl rfl rfl rfl
  have hp := passes_of (X := cxOf (L2.CX PP w) PP w K mg base ["self", "other"] "Field.__eq__" (defScope s_Field___eq__) f cdv A outer s H E) rfl
  have hu := hr.rm.units
  have hu1 : _ + 1 < cLine := Nat.lt_of_le_of_lt (Nat.add_le_add_left (by decide : 1 ≤ 64) _) hu
  exact (s_one (s_ret (e_and (e_callB call_isi (v_isi (z_isi Z)) rfl (z6 Z) (by decide +kernel) (a_cons (ev 1) (a_cons (e_glo rfl (z5 Z)) a_nil))) (e_one (e_eq hu (e_attr (.fld (z9 Z) (z10 Z) (.fld (z7 Z) (z8 Z) .nil)) (ev 0)) (e_attr (.fld (z9 Z) (z10 Z) (.fld (z7 Z) (z8 Z) .nil)) (ev 1)))))))
theorem f_Field___eq__ (Z : FX K mg) : FnD PP w K mg base 1 ((fun K => He.ma K (He.ga K "Field") "__eq__") K) m_Field___eq__ := by
  obtain ⟨fd, F0⟩ := Z.df 2 (d := d_Field___eq__) rfl rfl
  have F : FunD K "__eq__" "Field.__eq__" (defArgs s_Field___eq__) (defBody s_Field___eq__) (defScope s_Field___eq__) [] [] ((fun K => He.ma K (He.ga K "Field") "__eq__") K) fd := cast (by kernel_rfl) F0
  exact fn_ok0 (x := "__eq__") (qual := "Field.__eq__") (params := defArgs s_Field___eq__) (body := defBody s_Field___eq__) (scope := defScope s_Field___eq__) (kws := []) (N := ["self", "other"]) (ps := ["self", "other"]) (k := 0) (b := b_Field___eq__) F ⟨by kernel_rfl, by kernel_rfl, by kernel_rfl, by decide +kernel, by kernel_rfl, by decide +kernel, by decide +kernel⟩ (fun _ _ _ _ _ _ us hl => match us, hl with | [_, _], _ => by kernel_rfl) (c_Field___eq__ Z)
theorem f_Field___eq___at_Fractions (Z : FX K mg) : FnD PP w K mg base 1 (He.ma K (He.ga K "Fractions") "__eq__") m_Field___eq__ := by
  have e : He.ma K (He.ga K "Fractions") "__eq__" = (fun K => He.ma K (He.ga K "Field") "__eq__") K := of_decide_eq_true (z11 Z)
  rw [e]
  exact f_Field___eq__ Z
theorem f_Field___eq___at_Modulo (Z : FX K mg) : FnD PP w K mg base 1 (He.ma K (He.ga K "Modulo") "__eq__") m_Field___eq__ := by
  have e : He.ma K (He.ga K "Modulo") "__eq__" = (fun K => He.ma K (He.ga K "Field") "__eq__") K := of_decide_eq_true (z12 Z)
  rw [e]
  exact f_Field___eq__ Z
noncomputable def b_Field___init__ : DS := fldS ["Fractions", "Modulo"] "own_prime" (vM 0) (vM 1)
noncomputable def m_Field___init__ : DF := bodyM 2 [] 2 b_Field___init__
theorem c_Field___init__ (Z : FX K mg) {f : Addr} : BodyD PP w K mg base ["self", "prime"] "Field.__init__" (defScope s_Field___init__) f 0 (defBody s_Field___init__) b_Field___init__ := by
  intro cdv A outer s H E hr
  have nd : (["self", "prime"] : List Str).Nodup := by decide +kernel
  have tk : Takes (cxOf (L2.CX PP w) PP w K mg base ["self", "prime"] "Field.__init__" (defScope s_Field___init__) f cdv A outer s H E) (fun c d _ H' => E c d H') := takes_of rfl rfl rfl rfl
  have hp := passes_of (X := cxOf (L2.CX PP w) PP w K mg base ["self", "prime"] "Field.__init__" (defScope s_Field___init__) f cdv A outer s H E) rfl
  have hu := hr.rm.units
  have hu1 : _ + 1 < cLine := Nat.lt_of_le_of_lt (Nat.add_le_add_left (by decide : 1 ≤ 64) _) hu
  exact (s_one (s_fld (List.forall_mem_cons.2 ⟨⟨(z9 Z), (z10 Z)⟩, (List.forall_mem_cons.2 ⟨⟨(z7 Z), (z8 Z)⟩, (List.forall_mem_nil _)⟩)⟩) (ev 0) (ev 1)))
theorem f_Field___init__ (Z : FX K mg) : FnD PP w K mg base 1 ((fun K => He.ma K (He.ga K "Field") "__init__") K) m_Field___init__ := by
  obtain ⟨fd, F0⟩ := Z.df 3 (d := d_Field___init__) rfl rfl
  have F : FunD K "__init__" "Field.__init__" (defArgs s_Field___init__) (defBody s_Field___init__) (defScope s_Field___init__) [] [] ((fun K => He.ma K (He.ga K "Field") "__init__") K) fd := cast (by kernel_rfl) F0
  exact fn_ok0 (x := "__init__") (qual := "Field.__init__") (params := defArgs s_Field___init__) (body := defBody s_Field___init__) (scope := defScope s_Field___init__) (kws := []) (N := ["self", "prime"]) (ps := ["self", "prime"]) (k := 0) (b := b_Field___init__) F ⟨by kernel_rfl, by kernel_rfl, by kernel_rfl, by decide +kernel, by kernel_rfl, by decide +kernel, by decide +kernel⟩ (fun _ _ _ _ _ _ us hl => match us, hl with | [_, _], _ => by kernel_rfl) (c_Field___init__ Z)
noncomputable def b_Field_name : DS := retS (ifM (blM (binM isNoneD (attrM [("Fractions", .fld), ("Modulo", .fld)] "own_prime" (vM 0)) (cM .non))) (cM (.str "fractions")) (binM addD (cM (.str "modulo ")) (argM (strXD) (consA (attrM [("Fractions", .fld), ("Modulo", .fld)] "own_prime" (vM 0)) (nilA)))))
noncomputable def m_Field_name : DF := bodyM 1 [] 1 b_Field_name
theorem c_Field_name (Z : FX K mg) {f : Addr} : BodyD PP w K mg base ["self"] "Field.name" (defScope s_Field_name) f 0 (defBody s_Field_name) b_Field_name := by
  intro cdv A outer s H E hr
  have nd : (["self"] : List Str).Nodup := by decide +kernel
  have tk : Takes (cxOf (L2.CX PP w) PP w K mg base ["self"] "Field.name" (defScope s_Field_name) f cdv A outer s H E) (fun c d _ H' => E c d H') := takes_of rfl rfl rfl rfl
  have hp := passes_of (X := cxOf (L2.CX PP w) PP w K mg base ["self"] "Field.name" (defScope s_Field_name) f cdv A outer s H E) rfl
  have hu := hr.rm.units
  have hu1 : _ + 1 < cLine := Nat.lt_of_le_of_lt (Nat.add_le_add_left (by decide : 1 ≤ 64) _) hu
  exact (s_one (s_ret (e_if (t_isN (e_attr (.fld (z9 Z) (z10 Z) (.fld (z7 Z) (z8 Z) .nil)) (ev 0)) e_non) (e_gstr rfl (z13 Z)) (e_add (e_gstr rfl (z14 Z)) (e_callTy (call_strX (z15 Z) rfl) v_strX rfl (z16 Z) (by decide +kernel) (a_cons (e_attr (.fld (z9 Z) (z10 Z) (.fld (z7 Z) (z8 Z) .nil)) (ev 0)) a_nil))))))
theorem f_Field_name (Z : FX K mg) : FnD PP w K mg base 1 ((propG "Field" "name") K) m_Field_name := by
  obtain ⟨fd, F0⟩ := Z.df 4 (d := d_Field_name) rfl rfl
  have F : FunD K "name" "Field.name" (defArgs s_Field_name) (defBody s_Field_name) (defScope s_Field_name) [] [] ((propG "Field" "name") K) fd := cast (by kernel_rfl) F0
  exact fn_ok0 (x := "name") (qual := "Field.name") (params := defArgs s_Field_name) (body := defBody s_Field_name) (scope := defScope s_Field_name) (kws := []) (N := ["self"]) (ps := ["self"]) (k := 0) (b := b_Field_name) F ⟨by kernel_rfl, by kernel_rfl, by kernel_rfl, by decide +kernel, by kernel_rfl, by decide +kernel, by decide +kernel⟩ (fun _ _ _ _ _ _ us hl => match us, hl with | [_], _ => by kernel_rfl) (c_Field_name Z)
theorem f_Field_name_at_Fractions (Z : FX K mg) : FnD PP w K mg base 1 (propG "Fractions" "name" K) m_Field_name := by
  have e : propG "Fractions" "name" K = (propG "Field" "name") K := of_decide_eq_true (z17 Z)
  rw [e]
  exact f_Field_name Z
theorem f_Field_name_at_Modulo (Z : FX K mg) : FnD PP w K mg base 1 (propG "Modulo" "name" K) m_Field_name := by
  have e : propG "Modulo" "name" K = (propG "Field" "name") K := of_decide_eq_true (z18 Z)
  rw [e]
  exact f_Field_name Z
noncomputable def b_Fractions___init__ : DS := seqS (superS [("Fractions", m_Field___init__)] (consA (cM .non) (nilA))) (skipS)
noncomputable def m_Fractions___init__ : DF := bodyM 1 [] 2 b_Fractions___init__
theorem f_Fractions___init__ (Z : FX K mg) : FnD PP w K mg base 2 ((fun K => He.ma K (He.ga K "Fractions") "__init__") K) m_Fractions___init__ := by
  obtain ⟨cc, cda, F⟩ := Z.dfS (P := PP) 5 (d := d_Fractions___init__) (C := "Fractions") rfl rfl rfl
  refine fn_sup (N := ["self", "__class__"]) (ps := ["self"]) (b := b_Fractions___init__) F ⟨rfl, rfl, rfl, by decide +kernel, rfl, by decide +kernel, by decide +kernel, by decide +kernel, by decide +kernel⟩ (fun _ _ _ _ _ us hl => match us, hl with | [_], _ => rfl) fun A outer s H E hr => ?_
  have nd : (["self", "__class__"] : List Str).Nodup := by decide +kernel
  have tk : Takes (cxS PP w K mg base ["self", "__class__"] d_Fractions___init__.name d_Fractions___init__.qual d_Fractions___init__.params d_Fractions___init__.body d_Fractions___init__.scope (d_Fractions___init__.ad K) cc cda A outer s H E) (fun c d _ H' => E c d H') := takes_of rfl rfl rfl rfl
  have hp := passes_of (X := cxS PP w K mg base ["self", "__class__"] d_Fractions___init__.name d_Fractions___init__.qual d_Fractions___init__.params d_Fractions___init__.body d_Fractions___init__.scope (d_Fractions___init__.ad K) cc cda A outer s H E) rfl
  have hu := hr.rm.units
  have hu1 : _ + 1 < cLine := Nat.lt_of_le_of_lt (Nat.add_le_add_left (by decide : 1 ≤ 64) _) hu
  have SX := sup_x (w := w) (mg := mg) (base := base) (N := ["self", "__class__"]) (A := A) (outer := outer) (s := s) (H := H) (E := E) (me := "self") F rfl rfl rfl rfl rfl rfl (z20 Z) (by kernel_rfl)
  exact (q_super tk SX (.cons (Z.supF 19 (g := fun K => He.ma K (He.ga K "Field") "__init__") rfl (f_Field___init__ Z) (hr.mono (Nat.le_of_ble_eq_true rfl) : Rm 1 _)) .nil) (a_cons e_non a_nil) (q_of s_nil))
theorem f_Fractions___init___at_Fractions (Z : FX K mg) : FnD PP w K mg base 2 (He.ma K (He.ga K "Fractions") "__init__") m_Fractions___init__ := f_Fractions___init__ Z
noncomputable def b_is_integer : DS := retS (andV (argM (isiD it0) (consA (vM 0) (consA (cM (.ty "int")) (nilA)))) (notV (argM (isiD it0) (consA (vM 0) (consA (cM (.ty "bool")) (nilA))))))
noncomputable def m_is_integer : DF := bodyM 1 [] 1 b_is_integer
theorem c_is_integer (Z : FX K mg) {f : Addr} : BodyD PP w K mg base ["value"] "is_integer" (defScope s_is_integer) f 0 (defBody s_is_integer) b_is_integer := by
  intro cdv A outer s H E hr
  have nd : (["value"] : List Str).Nodup := by decide +kernel
  have tk : Takes (cxOf (L2.CX PP w) PP w K mg base ["value"] "is_integer" (defScope s_is_integer) f cdv A outer s H E) (fun c d _ H' => E c d H') := takes_of rfl rfl rfl rfl
  have hp := passes_of (X := cxOf (L2.CX PP w) PP w K mg base ["value"] "is_integer" (defScope s_is_integer) f cdv A outer s H E) rfl
  have hu := hr.rm.units
  have hu1 : _ + 1 < cLine := Nat.lt_of_le_of_lt (Nat.add_le_add_left (by decide : 1 ≤ 64) _) hu
  exact (s_one (s_ret (e_and (e_callB call_isi (v_isi (z_isi Z)) rfl (z6 Z) (by decide +kernel) (a_cons (ev 0) (a_cons (e_ty (n := "int") rfl (z21 Z) (by decide +kernel)) a_nil))) (e_one (e_not (e_callB call_isi (v_isi (z_isi Z)) rfl (z6 Z) (by decide +kernel) (a_cons (ev 0) (a_cons (e_ty (n := "bool") rfl (z22 Z) (by decide +kernel)) a_nil))))))))
theorem f_is_integer (Z : FX K mg) : FnD PP w K mg base 1 ((fun K => He.ga K "is_integer") K) m_is_integer := by
  obtain ⟨fd, F0⟩ := Z.df 6 (d := d_is_integer) rfl rfl
  have F : FunD K "is_integer" "is_integer" (defArgs s_is_integer) (defBody s_is_integer) (defScope s_is_integer) [] [] ((fun K => He.ga K "is_integer") K) fd := cast (by kernel_rfl) F0
  exact fn_ok0 (x := "is_integer") (qual := "is_integer") (params := defArgs s_is_integer) (body := defBody s_is_integer) (scope := defScope s_is_integer) (kws := []) (N := ["value"]) (ps := ["value"]) (k := 0) (b := b_is_integer) F ⟨by kernel_rfl, by kernel_rfl, by kernel_rfl, by decide +kernel, by kernel_rfl, by decide +kernel, by decide +kernel⟩ (fun _ _ _ _ _ _ us hl => match us, hl with | [_], _ => by kernel_rfl) (c_is_integer Z)
theorem k_is_integer (Z : FX K mg) : PySem.W.keepIn K (.ref ((fun K => He.ga K "is_integer") K)) = true := Z.keep 6 (d := d_is_integer) rfl
noncomputable def b_is_between : DS := retS (andV (callM m_is_integer (consA (vM 0) (nilA))) ((chainM leI leI (vM 1) (vM 0) (vM 2))))
noncomputable def m_is_between : DF := bodyM 3 [] 3 b_is_between
theorem c_is_between (Z : FX K mg) {f : Addr} : BodyD PP w K mg base ["value", "least", "most"] "is_between" (defScope s_is_between) f 1 (defBody s_is_between) b_is_between := by
  intro cdv A outer s H E hr
  have nd : (["value", "least", "most"] : List Str).Nodup := by decide +kernel
  have tk : Takes (cxOf (L2.CX PP w) PP w K mg base ["value", "least", "most"] "is_between" (defScope s_is_between) f cdv A outer s H E) (fun c d _ H' => E c d H') := takes_of rfl rfl rfl rfl
  have hp := passes_of (X := cxOf (L2.CX PP w) PP w K mg base ["value", "least", "most"] "is_between" (defScope s_is_between) f cdv A outer s H E) rfl
  have hu := hr.rm.units
  have hu1 : _ + 1 < cLine := Nat.lt_of_le_of_lt (Nat.add_le_add_left (by decide : 1 ≤ 64) _) hu
  exact (s_one (s_ret (e_and (e_call tk (f_is_integer Z) (hr.mono (Nat.le_of_ble_eq_true rfl) : Rm 1 _) rfl (z23 Z) (k_is_integer Z) (a_cons (ev 0) a_nil)) (e_one (e_chain o_le o_le v_ord v_ord (ev 1) (ev 0) (ev 2))))))
theorem f_is_between (Z : FX K mg) : FnD PP w K mg base 2 ((fun K => He.ga K "is_between") K) m_is_between := by
  obtain ⟨fd, F0⟩ := Z.df 7 (d := d_is_between) rfl rfl
  have F : FunD K "is_between" "is_between" (defArgs s_is_between) (defBody s_is_between) (defScope s_is_between) [] [] ((fun K => He.ga K "is_between") K) fd := cast (by kernel_rfl) F0
  exact fn_ok0 (x := "is_between") (qual := "is_between") (params := defArgs s_is_between) (body := defBody s_is_between) (scope := defScope s_is_between) (kws := []) (N := ["value", "least", "most"]) (ps := ["value", "least", "most"]) (k := 1) (b := b_is_between) F ⟨by kernel_rfl, by kernel_rfl, by kernel_rfl, by decide +kernel, by kernel_rfl, by decide +kernel, by decide +kernel⟩ (fun _ _ _ _ _ _ us hl => match us, hl with | [_, _, _], _ => by kernel_rfl) (c_is_between Z)
theorem k_is_between (Z : FX K mg) : PySem.W.keepIn K (.ref ((fun K => He.ga K "is_between") K)) = true := Z.keep 7 (d := d_is_between) rfl
noncomputable def b_power : DS := seqS (setS 3 (cM (.int 1))) (seqS (whileS (blM (binM gtI (vM 1) (cM (.int 0)))) (seqS (ifS (blM (binM eqD (binM modD (vM 1) (cM (.int 2))) (cM (.int 1)))) (setS 3 (binM modD (binM mulD (vM 3) (vM 0)) (vM 2))) (skipS)) (seqS (setS 0 (binM modD (binM mulD (vM 0) (vM 0)) (vM 2))) (setS 1 (binM divD (vM 1) (cM (.int 2))))))) (retS (vM 3)))
noncomputable def m_power : DF := bodyM 3 [] 4 b_power
theorem c_power (Z : FX K mg) {f : Addr} : BodyD PP w K mg base ["number", "times", "modulus", "found"] "power" (defScope s_power) f 0 (defBody s_power) b_power := by
  intro cdv A outer s H E hr
  have nd : (["number", "times", "modulus", "found"] : List Str).Nodup := by decide +kernel
  have tk : Takes (cxOf (L2.CX PP w) PP w K mg base ["number", "times", "modulus", "found"] "power" (defScope s_power) f cdv A outer s H E) (fun c d _ H' => E c d H') := takes_of rfl rfl rfl rfl
  have hp := passes_of (X := cxOf (L2.CX PP w) PP w K mg base ["number", "times", "modulus", "found"] "power" (defScope s_power) f cdv A outer s H E) rfl
  have hu := hr.rm.units
  have hu1 : _ + 1 < cLine := Nat.lt_of_le_of_lt (Nat.add_le_add_left (by decide : 1 ≤ 64) _) hu
  exact (s_cons (s_set nd rfl (by first | exact .inl rfl | exact .inr rfl) e_int)
    (s_cons (s_while hp (t_gt (ev 1) e_int) (s_cons (s_if (t_eq hu (e_mod (ev 1) e_int) e_int) (s_one (s_set nd rfl (by first | exact .inl rfl | exact .inr rfl) (e_mod (e_mul (ev 3) (ev 0)) (ev 2)))) s_nil)
    (s_cons (s_set nd rfl (by first | exact .inl rfl | exact .inr rfl) (e_mod (e_mul (ev 0) (ev 0)) (ev 2)))
    (s_one (s_set nd rfl (by first | exact .inl rfl | exact .inr rfl) (e_div (ev 1) e_int))))))
    (s_one (s_ret (ev 3)))))
theorem f_power (Z : FX K mg) : FnD PP w K mg base 1 ((fun K => He.ga K "power") K) m_power := by
  obtain ⟨fd, F0⟩ := Z.df 8 (d := d_power) rfl rfl
  have F : FunD K "power" "power" (defArgs s_power) (defBody s_power) (defScope s_power) [] [] ((fun K => He.ga K "power") K) fd := cast (by kernel_rfl) F0
  exact fn_ok0 (x := "power") (qual := "power") (params := defArgs s_power) (body := defBody s_power) (scope := defScope s_power) (kws := []) (N := ["number", "times", "modulus", "found"]) (ps := ["number", "times", "modulus"]) (k := 0) (b := b_power) F ⟨by kernel_rfl, by kernel_rfl, by kernel_rfl, by decide +kernel, by kernel_rfl, by decide +kernel, by decide +kernel⟩ (fun _ _ _ _ _ _ us hl => match us, hl with | [_, _, _], _ => by kernel_rfl) (c_power Z)
theorem k_power (Z : FX K mg) : PySem.W.keepIn K (.ref ((fun K => He.ga K "power") K)) = true := Z.keep 8 (d := d_power) rfl
noncomputable def b_is_witness : DS := seqS (par2S 4 5 (consA (binM subD (vM 1) (cM (.int 1))) (consA (cM (.int 0)) (nilA)))) (seqS (whileS (blM (binM eqD (binM modD (vM 4) (cM (.int 2))) (cM (.int 0)))) (par2S 4 5 (consA (binM divD (vM 4) (cM (.int 2))) (consA (binM addD (vM 5) (cM (.int 1))) (nilA))))) (seqS (setS 2 (callM m_power (consA (vM 0) (consA (vM 4) (consA (vM 1) (nilA)))))) (seqS (ifS (orT (blM (binM eqD (vM 2) (cM (.int 1)))) (blM (binM eqD (vM 2) (binM subD (vM 1) (cM (.int 1)))))) (retS (cM (.bl false))) (skipS)) (seqS (forS (argI rangeD1 (consA (binM subD (vM 5) (cM (.int 1))) (nilA))) (nameG 3) (seqS (setS 2 (binM modD (binM mulD (vM 2) (vM 2)) (vM 1))) (ifS (blM (binM eqD (vM 2) (binM subD (vM 1) (cM (.int 1))))) (retS (cM (.bl false))) (skipS)))) (retS (cM (.bl true)))))))
noncomputable def m_is_witness : DF := bodyM 2 [] 6 b_is_witness
theorem c_is_witness (Z : FX K mg) {f : Addr} : BodyD PP w K mg base ["number", "value", "found", "turn", "odd", "halves"] "is_witness" (defScope s_is_witness) f 1 (defBody s_is_witness) b_is_witness := by
  intro cdv A outer s H E hr
  have nd : (["number", "value", "found", "turn", "odd", "halves"] : List Str).Nodup := by decide +kernel
  have tk : Takes (cxOf (L2.CX PP w) PP w K mg base ["number", "value", "found", "turn", "odd", "halves"] "is_witness" (defScope s_is_witness) f cdv A outer s H E) (fun c d _ H' => E c d H') := takes_of rfl rfl rfl rfl
  have hp := passes_of (X := cxOf (L2.CX PP w) PP w K mg base ["number", "value", "found", "turn", "odd", "halves"] "is_witness" (defScope s_is_witness) f cdv A outer s H E) rfl
  have hu := hr.rm.units
  have hu1 : _ + 1 < cLine := Nat.lt_of_le_of_lt (Nat.add_le_add_left (by decide : 1 ≤ 64) _) hu
  exact (s_cons (s_par2 rfl nd rfl rfl (by decide) rfl rfl (a_cons (e_sub (ev 1) e_int) (a_cons e_int a_nil)))
    (s_cons (s_while hp (t_eq hu (e_mod (ev 4) e_int) e_int) (s_one (s_par2 rfl nd rfl rfl (by decide) rfl rfl (a_cons (e_div (ev 4) e_int) (a_cons (e_add (ev 5) e_int) a_nil)))))
    (s_cons (s_set nd rfl (by first | exact .inl rfl | exact .inr rfl) (e_call tk (f_power Z) (hr.mono (Nat.le_of_ble_eq_true rfl) : Rm 1 _) rfl (z24 Z) (k_power Z) (a_cons (ev 0) (a_cons (ev 4) (a_cons (ev 1) a_nil)))))
    (s_cons (s_if (PW.pt (w_or (t_eq hu (ev 2) e_int) (w_or1 (t_eq hu (ev 2) (e_sub (ev 1) e_int))))) (s_one (s_ret e_bl)) s_nil)
    (s_cons (s_for hp rfl (i_range1 rfl (z25 Z) (a_cons (e_sub (ev 5) e_int) a_nil)) (g_name nd rfl (by first | exact .inl rfl | exact .inr rfl)) (s_cons (s_set nd rfl (by first | exact .inl rfl | exact .inr rfl) (e_mod (e_mul (ev 2) (ev 2)) (ev 1)))
    (s_one (s_if (t_eq hu (ev 2) (e_sub (ev 1) e_int)) (s_one (s_ret e_bl)) s_nil))))
    (s_one (s_ret e_bl)))))))
theorem f_is_witness (Z : FX K mg) : FnD PP w K mg base 2 ((fun K => He.ga K "is_witness") K) m_is_witness := by
  obtain ⟨fd, F0⟩ := Z.df 9 (d := d_is_witness) rfl rfl
  have F : FunD K "is_witness" "is_witness" (defArgs s_is_witness) (defBody s_is_witness) (defScope s_is_witness) [] [] ((fun K => He.ga K "is_witness") K) fd := cast (by kernel_rfl) F0
  exact fn_ok0 (x := "is_witness") (qual := "is_witness") (params := defArgs s_is_witness) (body := defBody s_is_witness) (scope := defScope s_is_witness) (kws := []) (N := ["number", "value", "found", "turn", "odd", "halves"]) (ps := ["number", "value"]) (k := 1) (b := b_is_witness) F ⟨by kernel_rfl, by kernel_rfl, by kernel_rfl, by decide +kernel, by kernel_rfl, by decide +kernel, by decide +kernel⟩ (fun _ _ _ _ _ _ us hl => match us, hl with | [_, _], _ => by kernel_rfl) (c_is_witness Z)
theorem k_is_witness (Z : FX K mg) : PySem.W.keepIn K (.ref ((fun K => He.ga K "is_witness") K)) = true := Z.keep 9 (d := d_is_witness) rfl
noncomputable def b_is_prime : DS := seqS (ifS (notT (truM (callM m_is_between (consA (vM 0) (consA (cM (.int 2)) (consA (cM (.int 1000000000)) (nilA))))))) (retS (cM (.bl false))) (skipS)) (seqS (forS (seqI (cM (.kot [.int 2, .int 3, .int 5, .int 7, .int 11, .int 13, .int 17, .int 19, .int 23, .int 29, .int 31, .int 37]))) (nameG 1) (ifS (blM (binM eqD (binM modD (vM 0) (vM 1)) (cM (.int 0)))) (retS ((binM eqD (vM 0) (vM 1)))) (skipS))) (retS (notV (argM (anyD) (consA (lcM false (seqI (cM (.kot [.int 2, .int 3, .int 5, .int 7]))) (nameG 2) (yesM) (callM m_is_witness (consA (vM 2) (consA (vM 0) (nilA)))) [2]) (nilA))))))
noncomputable def m_is_prime : DF := bodyM 1 [] 3 b_is_prime
theorem c_is_prime (Z : FX K mg) {f : Addr} : BodyD PP w K mg base ["value", "prime", "number"] "is_prime" (defScope s_is_prime) f 2 (defBody s_is_prime) b_is_prime := by
  intro cdv A outer s H E hr
  have nd : (["value", "prime", "number"] : List Str).Nodup := by decide +kernel
  have tk : Takes (cxOf (L2.CX PP w) PP w K mg base ["value", "prime", "number"] "is_prime" (defScope s_is_prime) f cdv A outer s H E) (fun c d _ H' => E c d H') := takes_of rfl rfl rfl rfl
  have hp := passes_of (X := cxOf (L2.CX PP w) PP w K mg base ["value", "prime", "number"] "is_prime" (defScope s_is_prime) f cdv A outer s H E) rfl
  have hu := hr.rm.units
  have hu1 : _ + 1 < cLine := Nat.lt_of_le_of_lt (Nat.add_le_add_left (by decide : 1 ≤ 64) _) hu
  exact (s_cons (s_if (t_not (t_truth (e_call tk (f_is_between Z) (hr.mono (Nat.le_of_ble_eq_true rfl) : Rm 2 _) rfl (z27 Z) (k_is_between Z) (a_cons (ev 0) (a_cons e_int (a_cons (e_gint rfl (z26 Z)) a_nil)))))) (s_one (s_ret e_bl)) s_nil)
    (s_cons (s_for hp rfl (i_seq (e_gtup rfl (z28 Z) (z29 Z) (fun _ => .cons (.int 2) (.cons (.int 3) (.cons (.int 5) (.cons (.int 7) (.cons (.int 11) (.cons (.int 13) (.cons (.int 17) (.cons (.int 19) (.cons (.int 23) (.cons (.int 29) (.cons (.int 31) (.cons (.int 37) (.nil))))))))))))))) (g_name nd rfl (by first | exact .inl rfl | exact .inr rfl)) (s_one (s_if (t_eq hu (e_mod (ev 0) (ev 1)) e_int) (s_one (s_ret (e_eq hu (ev 0) (ev 1)))) s_nil)))
    (s_one (s_ret (e_not (e_callB (cr_any rfl) v_any rfl (z33 Z) (by decide +kernel) (a_cons (e_lc false rfl nd (i_seq (e_gtup rfl (z30 Z) (z31 Z) (fun _ => .cons (.int 2) (.cons (.int 3) (.cons (.int 5) (.cons (.int 7) (.nil))))))) (own := ([("number", 2)] : List (Str × Nat))) (show BlkOk ["value", "prime", "number"] (defScope s_is_prime) _ _ from ⟨rfl, by decide +kernel, by decide +kernel, by decide +kernel, by decide +kernel⟩) (fun _ _ _ _ _ => (gw_name nd rfl (by first | exact .inl rfl | exact .inr rfl) (by decide))) (fun _ _ _ _ _ => ts_nil) (fun _ _ _ _ _ => (e_call takes_blk (f_is_witness Z) (hr.mono (Nat.le_of_ble_eq_true rfl) : Rm 2 _) rfl (z32 Z) (k_is_witness Z) (a_cons (ev 2) (a_cons (ev 0) a_nil))))) a_nil)))))))
theorem f_is_prime (Z : FX K mg) : FnD PP w K mg base 3 ((fun K => He.ga K "is_prime") K) m_is_prime := by
  obtain ⟨fd, F0⟩ := Z.df 10 (d := d_is_prime) rfl rfl
  have F : FunD K "is_prime" "is_prime" (defArgs s_is_prime) (defBody s_is_prime) (defScope s_is_prime) [] [] ((fun K => He.ga K "is_prime") K) fd := cast (by kernel_rfl) F0
  exact fn_ok0 (x := "is_prime") (qual := "is_prime") (params := defArgs s_is_prime) (body := defBody s_is_prime) (scope := defScope s_is_prime) (kws := []) (N := ["value", "prime", "number"]) (ps := ["value"]) (k := 2) (b := b_is_prime) F ⟨by kernel_rfl, by kernel_rfl, by kernel_rfl, by decide +kernel, by kernel_rfl, by decide +kernel, by decide +kernel⟩ (fun _ _ _ _ _ _ us hl => match us, hl with | [_], _ => by kernel_rfl) (c_is_prime Z)
theorem k_is_prime (Z : FX K mg) : PySem.W.keepIn K (.ref ((fun K => He.ga K "is_prime") K)) = true := Z.keep 10 (d := d_is_prime) rfl
noncomputable def b_Modulo___init__ : DS := seqS (ifS (notT (truM (callM m_is_prime (consA (vM 1) (nilA))))) (raiseS "InvalidPrime" "value" (consA (vM 1) (nilA))) (skipS)) (seqS (superS [("Modulo", m_Field___init__)] (consA (vM 1) (nilA))) (skipS))
noncomputable def m_Modulo___init__ : DF := bodyM 2 [] 3 b_Modulo___init__
theorem f_Modulo___init__ (Z : FX K mg) : FnD PP w K mg base 4 ((fun K => He.ma K (He.ga K "Modulo") "__init__") K) m_Modulo___init__ := by
  obtain ⟨cc, cda, F⟩ := Z.dfS (P := PP) 11 (d := d_Modulo___init__) (C := "Modulo") rfl rfl rfl
  refine fn_sup (N := ["self", "prime", "__class__"]) (ps := ["self", "prime"]) (b := b_Modulo___init__) F ⟨rfl, rfl, rfl, by decide +kernel, rfl, by decide +kernel, by decide +kernel, by decide +kernel, by decide +kernel⟩ (fun _ _ _ _ _ us hl => match us, hl with | [_, _], _ => rfl) fun A outer s H E hr => ?_
  have nd : (["self", "prime", "__class__"] : List Str).Nodup := by decide +kernel
  have tk : Takes (cxS PP w K mg base ["self", "prime", "__class__"] d_Modulo___init__.name d_Modulo___init__.qual d_Modulo___init__.params d_Modulo___init__.body d_Modulo___init__.scope (d_Modulo___init__.ad K) cc cda A outer s H E) (fun c d _ H' => E c d H') := takes_of rfl rfl rfl rfl
  have hp := passes_of (X := cxS PP w K mg base ["self", "prime", "__class__"] d_Modulo___init__.name d_Modulo___init__.qual d_Modulo___init__.params d_Modulo___init__.body d_Modulo___init__.scope (d_Modulo___init__.ad K) cc cda A outer s H E) rfl
  have hu := hr.rm.units
  have hu1 : _ + 1 < cLine := Nat.lt_of_le_of_lt (Nat.add_le_add_left (by decide : 1 ≤ 64) _) hu
  have SX := sup_x (w := w) (mg := mg) (base := base) (N := ["self", "prime", "__class__"]) (A := A) (outer := outer) (s := s) (H := H) (E := E) (me := "self") F rfl rfl rfl rfl rfl rfl (z20 Z) (by kernel_rfl)
  exact (q_cons (s_if (t_not (t_truth (e_call tk (f_is_prime Z) (hr.mono (Nat.le_of_ble_eq_true rfl) : Rm 3 _) rfl (z34 Z) (k_is_prime Z) (a_cons (ev 1) a_nil)))) (s_one (raise_row1 (x_InvalidPrime Z) fun fd h => s_raise1 rfl tk ⟨((z1 Z)).1, ((z1 Z)).2.1, ((z1 Z)).2.2⟩ h.1 ((hr.mono (Nat.le_of_ble_eq_true rfl) : Rm 2 _)).rm h.2 rfl (z35 Z) (a_cons (ev 1) a_nil))) s_nil)
    (q_super tk SX (.cons (Z.supF 36 (g := fun K => He.ma K (He.ga K "Field") "__init__") rfl (f_Field___init__ Z) (hr.mono (Nat.le_of_ble_eq_true rfl) : Rm 1 _)) .nil) (a_cons (ev 1) a_nil) (q_of s_nil)))
theorem f_Modulo___init___at_Modulo (Z : FX K mg) : FnD PP w K mg base 4 (He.ma K (He.ga K "Modulo") "__init__") m_Modulo___init__ := f_Modulo___init__ Z
noncomputable def b_is_numeral : DS := seqS (ifS (orT (blM (binM eqD (vM 0) (cM (.str "")))) (notT (truM (argM (allD) (consA (lcM false (seqI (vM 0)) (nameG 1) (yesM) ((binM (inD false) (vM 1) (cM (.str "0123456789")))) [1]) (nilA)))))) (retS (cM (.bl false))) (skipS)) (retS (orV ((binM neD (binM idxD (vM 0) (cM (.int 0))) (cM (.str "0")))) ((binM eqD (vM 0) (cM (.str "0"))))))
noncomputable def m_is_numeral : DF := bodyM 1 [] 2 b_is_numeral
theorem c_is_numeral (Z : FX K mg) {f : Addr} : BodyD PP w K mg base ["text", "sign"] "is_numeral" (defScope s_is_numeral) f 0 (defBody s_is_numeral) b_is_numeral := by
  intro cdv A outer s H E hr
  have nd : (["text", "sign"] : List Str).Nodup := by decide +kernel
  have tk : Takes (cxOf (L2.CX PP w) PP w K mg base ["text", "sign"] "is_numeral" (defScope s_is_numeral) f cdv A outer s H E) (fun c d _ H' => E c d H') := takes_of rfl rfl rfl rfl
  have hp := passes_of (X := cxOf (L2.CX PP w) PP w K mg base ["text", "sign"] "is_numeral" (defScope s_is_numeral) f cdv A outer s H E) rfl
  have hu := hr.rm.units
  have hu1 : _ + 1 < cLine := Nat.lt_of_le_of_lt (Nat.add_le_add_left (by decide : 1 ≤ 64) _) hu
  exact (s_cons (s_if (PW.pt (w_or (t_eq hu (ev 0) e_str) (w_or1 (t_not (t_truth (e_callB (cr_all rfl) v_all rfl (z37 Z) (by decide +kernel) (a_cons (e_lc false rfl nd (i_seq (ev 0)) (own := ([("sign", 1)] : List (Str × Nat))) (show BlkOk ["text", "sign"] (defScope s_is_numeral) _ _ from ⟨rfl, by decide +kernel, by decide +kernel, by decide +kernel, by decide +kernel⟩) (fun _ _ _ _ _ => (gw_name nd rfl (by first | exact .inl rfl | exact .inr rfl) (by decide))) (fun _ _ _ _ _ => ts_nil) (fun _ _ _ _ _ => (e_in hu1 (ev 1) e_str))) a_nil))))))) (s_one (s_ret e_bl)) s_nil)
    (s_one (s_ret (e_or (e_ne hu (e_idx hu1 (ev 0) e_int) e_str) (e_one (e_eq hu (ev 0) e_str))))))
theorem f_is_numeral (Z : FX K mg) : FnD PP w K mg base 1 ((fun K => He.ga K "is_numeral") K) m_is_numeral := by
  obtain ⟨fd, F0⟩ := Z.df 12 (d := d_is_numeral) rfl rfl
  have F : FunD K "is_numeral" "is_numeral" (defArgs s_is_numeral) (defBody s_is_numeral) (defScope s_is_numeral) [] [] ((fun K => He.ga K "is_numeral") K) fd := cast (by kernel_rfl) F0
  exact fn_ok0 (x := "is_numeral") (qual := "is_numeral") (params := defArgs s_is_numeral) (body := defBody s_is_numeral) (scope := defScope s_is_numeral) (kws := []) (N := ["text", "sign"]) (ps := ["text"]) (k := 0) (b := b_is_numeral) F ⟨by kernel_rfl, by kernel_rfl, by kernel_rfl, by decide +kernel, by kernel_rfl, by decide +kernel, by decide +kernel⟩ (fun _ _ _ _ _ _ us hl => match us, hl with | [_], _ => by kernel_rfl) (c_is_numeral Z)
theorem k_is_numeral (Z : FX K mg) : PySem.W.keepIn K (.ref ((fun K => He.ga K "is_numeral") K)) = true := Z.keep 12 (d := d_is_numeral) rfl
noncomputable def b_Field_named : DS := seqS (ifS (notT (truM (argM (isiD it0) (consA (vM 0) (consA (cM (.ty "str")) (nilA)))))) (raiseS "InvalidText" "line" (consA (cM (.int 0)) (nilA))) (skipS)) (seqS (ifS (blM (binM eqD (vM 0) (cM (.str "fractions")))) (retS (makeM false "Fractions" m_Fractions___init__ (nilA))) (skipS)) (seqS (setS 1 (sliM false (vM 0) (optM (argM (lenD) (consA (cM (.str "modulo ")) (nilA)))) (pureM none))) (seqS (ifS (orT (notT (truM (bmD isStrD startsD (vM 0) (consA (cM (.str "modulo ")) (nilA))))) (orT (notT (truM (callM m_is_numeral (consA (vM 1) (nilA))))) (blM (binM gtI (argM (lenD) (consA (vM 1) (nilA))) (cM (.int 100)))))) (raiseS "InvalidText" "line" (consA (cM (.int 0)) (nilA))) (skipS)) (seqS (ifS (notT (truM (callM m_is_prime (consA (argM (intXD) (consA (vM 1) (nilA))) (nilA))))) (raiseS "InvalidText" "line" (consA (cM (.int 0)) (nilA))) (skipS)) (retS (makeM false "Modulo" m_Modulo___init__ (consA (argM (intXD) (consA (vM 1) (nilA))) (nilA))))))))
noncomputable def m_Field_named : DF := bodyM 1 [] 2 b_Field_named
theorem c_Field_named (Z : FX K mg) {f : Addr} : BodyD PP w K mg base ["text", "digits"] "Field.named" (defScope s_Field_named) f 5 (defBody s_Field_named) b_Field_named := by
  intro cdv A outer s H E hr
  have nd : (["text", "digits"] : List Str).Nodup := by decide +kernel
  have tk : Takes (cxOf (L2.CX PP w) PP w K mg base ["text", "digits"] "Field.named" (defScope s_Field_named) f cdv A outer s H E) (fun c d _ H' => E c d H') := takes_of rfl rfl rfl rfl
  have hp := passes_of (X := cxOf (L2.CX PP w) PP w K mg base ["text", "digits"] "Field.named" (defScope s_Field_named) f cdv A outer s H E) rfl
  have hu := hr.rm.units
  have hu1 : _ + 1 < cLine := Nat.lt_of_le_of_lt (Nat.add_le_add_left (by decide : 1 ≤ 64) _) hu
  exact (s_cons (s_if (t_not (t_truth (e_callB call_isi (v_isi (z_isi Z)) rfl (z6 Z) (by decide +kernel) (a_cons (ev 0) (a_cons (e_ty (n := "str") rfl (z16 Z) (by decide +kernel)) a_nil))))) (s_one (raise_row1 (x_InvalidText Z) fun fd h => s_raise1 rfl tk ⟨((z3 Z)).1, ((z3 Z)).2.1, ((z3 Z)).2.2⟩ h.1 ((hr.mono (Nat.le_of_ble_eq_true rfl) : Rm 2 _)).rm h.2 rfl (z38 Z) (a_cons e_int a_nil))) s_nil)
    (s_cons (s_if (t_eq hu (ev 0) (e_gstr rfl (z13 Z))) (s_one (s_ret (e_make0 false tk (z39 Z) (f_Fractions___init___at_Fractions Z) (hr.mono (Nat.le_of_ble_eq_true rfl) : Rm 3 _) rfl (z40 Z)))) s_nil)
    (s_cons (s_set nd rfl (by first | exact .inl rfl | exact .inr rfl) (e_sli false (ev 0) (o_some (e_callB call_len v_len rfl (z41 Z) (by decide +kernel) (a_cons (e_gstr rfl (z14 Z)) a_nil))) o_none))
    (s_cons (s_if (PW.pt (w_or (t_not (t_truth (e_bm PySem.F.plainAttrs_str PySem.F.slot_str_startswith PySem.F.type_str_startswith mt_startswith ty_str v_starts (ev 0) (a_cons (e_gstr rfl (z14 Z)) a_nil)))) (w_or (t_not (t_truth (e_call tk (f_is_numeral Z) (hr.mono (Nat.le_of_ble_eq_true rfl) : Rm 1 _) rfl (z42 Z) (k_is_numeral Z) (a_cons (ev 1) a_nil)))) (w_or1 (t_gt (e_callB call_len v_len rfl (z41 Z) (by decide +kernel) (a_cons (ev 1) a_nil)) (e_gint rfl (z43 Z))))))) (s_one (raise_row1 (x_InvalidText Z) fun fd h => s_raise1 rfl tk ⟨((z3 Z)).1, ((z3 Z)).2.1, ((z3 Z)).2.2⟩ h.1 ((hr.mono (Nat.le_of_ble_eq_true rfl) : Rm 2 _)).rm h.2 rfl (z38 Z) (a_cons e_int a_nil))) s_nil)
    (s_cons (s_if (t_not (t_truth (e_call tk (f_is_prime Z) (hr.mono (Nat.le_of_ble_eq_true rfl) : Rm 3 _) rfl (z34 Z) (k_is_prime Z) (a_cons (e_callTy call_intX v_intX rfl (z21 Z) (by decide +kernel) (a_cons (ev 1) a_nil)) a_nil)))) (s_one (raise_row1 (x_InvalidText Z) fun fd h => s_raise1 rfl tk ⟨((z3 Z)).1, ((z3 Z)).2.1, ((z3 Z)).2.2⟩ h.1 ((hr.mono (Nat.le_of_ble_eq_true rfl) : Rm 2 _)).rm h.2 rfl (z38 Z) (a_cons e_int a_nil))) s_nil)
    (s_one (s_ret (e_make false tk (z44 Z) (f_Modulo___init___at_Modulo Z) (hr.mono (Nat.le_of_ble_eq_true rfl) : Rm 5 _) rfl (z45 Z) (a_cons (e_callTy call_intX v_intX rfl (z21 Z) (by decide +kernel) (a_cons (ev 1) a_nil)) a_nil)))))))))
theorem f_Field_named (Z : FX K mg) : FnD PP w K mg base 6 ((fun K => He5.wf K (He.ga K "Field") "staticmethod" "named") K) m_Field_named := by
  obtain ⟨fd, F0⟩ := Z.df 13 (d := d_Field_named) rfl rfl
  have F : FunD K "named" "Field.named" (defArgs s_Field_named) (defBody s_Field_named) (defScope s_Field_named) [] [] ((fun K => He5.wf K (He.ga K "Field") "staticmethod" "named") K) fd := cast (by kernel_rfl) F0
  exact fn_ok0 (x := "named") (qual := "Field.named") (params := defArgs s_Field_named) (body := defBody s_Field_named) (scope := defScope s_Field_named) (kws := []) (N := ["text", "digits"]) (ps := ["text"]) (k := 5) (b := b_Field_named) F ⟨by kernel_rfl, by kernel_rfl, by kernel_rfl, by decide +kernel, by kernel_rfl, by decide +kernel, by decide +kernel⟩ (fun _ _ _ _ _ _ us hl => match us, hl with | [_], _ => by kernel_rfl) (c_Field_named Z)
noncomputable def b_Field_prime : DS := retS (attrM [("Fractions", .fld), ("Modulo", .fld)] "own_prime" (vM 0))
noncomputable def m_Field_prime : DF := bodyM 1 [] 1 b_Field_prime
theorem c_Field_prime (Z : FX K mg) {f : Addr} : BodyD PP w K mg base ["self"] "Field.prime" (defScope s_Field_prime) f 0 (defBody s_Field_prime) b_Field_prime := by
  intro cdv A outer s H E hr
  have nd : (["self"] : List Str).Nodup := by decide +kernel
  have tk : Takes (cxOf (L2.CX PP w) PP w K mg base ["self"] "Field.prime" (defScope s_Field_prime) f cdv A outer s H E) (fun c d _ H' => E c d H') := takes_of rfl rfl rfl rfl
  have hp := passes_of (X := cxOf (L2.CX PP w) PP w K mg base ["self"] "Field.prime" (defScope s_Field_prime) f cdv A outer s H E) rfl
  have hu := hr.rm.units
  have hu1 : _ + 1 < cLine := Nat.lt_of_le_of_lt (Nat.add_le_add_left (by decide : 1 ≤ 64) _) hu
  exact (s_one (s_ret (e_attr (.fld (z9 Z) (z10 Z) (.fld (z7 Z) (z8 Z) .nil)) (ev 0))))
theorem f_Field_prime (Z : FX K mg) : FnD PP w K mg base 1 ((propG "Field" "prime") K) m_Field_prime := by
  obtain ⟨fd, F0⟩ := Z.df 14 (d := d_Field_prime) rfl rfl
  have F : FunD K "prime" "Field.prime" (defArgs s_Field_prime) (defBody s_Field_prime) (defScope s_Field_prime) [] [] ((propG "Field" "prime") K) fd := cast (by kernel_rfl) F0
  exact fn_ok0 (x := "prime") (qual := "Field.prime") (params := defArgs s_Field_prime) (body := defBody s_Field_prime) (scope := defScope s_Field_prime) (kws := []) (N := ["self"]) (ps := ["self"]) (k := 0) (b := b_Field_prime) F ⟨by kernel_rfl, by kernel_rfl, by kernel_rfl, by decide +kernel, by kernel_rfl, by decide +kernel, by decide +kernel⟩ (fun _ _ _ _ _ _ us hl => match us, hl with | [_], _ => by kernel_rfl) (c_Field_prime Z)
theorem f_Field_prime_at_Fractions (Z : FX K mg) : FnD PP w K mg base 1 (propG "Fractions" "prime" K) m_Field_prime := by
  have e : propG "Fractions" "prime" K = (propG "Field" "prime") K := of_decide_eq_true (z46 Z)
  rw [e]
  exact f_Field_prime Z
theorem f_Field_prime_at_Modulo (Z : FX K mg) : FnD PP w K mg base 1 (propG "Modulo" "prime" K) m_Field_prime := by
  have e : propG "Modulo" "prime" K = (propG "Field" "prime") K := of_decide_eq_true (z47 Z)
  rw [e]
  exact f_Field_prime Z
noncomputable def b__law_draw : DS := seqS (ifS (blM (binM gtI (binM idxD (vM 0) (cM (.str "left"))) (cM (.int 0)))) (seqS (setS 6 (binM modD (argM (intD) (consA (binM idxD (vM 0) (cM (.str "left"))) (nilA))) (vM 1))) (seqS (subS (vM 0) (cM (.str "left")) (binM divD (binM idxD (vM 0) (cM (.str "left"))) (vM 1))) (retS (vM 6)))) (skipS)) (seqS (setS 2 (binM idxD (vM 0) (cM (.str "begun")))) (seqS (subS (vM 0) (cM (.str "begun")) (binM addD (vM 2) (cM (.int 1)))) (seqS (setS 3 (binM addD (binM mulD (cM (.int 53)) (vM 2)) (cM (.int 17)))) (seqS (ifS (blM (binM neD (binM idxD (vM 0) (cM (.str "cells"))) (argM (lstD false) (nilA)))) (setS 3 (binM idxD (binM idxD (vM 0) (cM (.str "cells"))) (binM modD (argM (intD) (consA (vM 2) (nilA))) (argM (lenD) (consA (binM idxD (vM 0) (cM (.str "cells"))) (nilA)))))) (skipS)) (seqS (ifS (andT (blM (binM ltI (vM 2) (argM (lenD) (consA (binM idxD (vM 0) (cM (.str "cells"))) (nilA))))) (blM (binM geI (argM (absD) (consA (vM 3) (nilA))) (binM powD (cM (.int 10)) (cM (.int 18)))))) (seqS (subS (vM 0) (cM (.str "left")) (binM divD (binM subD (argM (absD) (consA (vM 3) (nilA))) (binM powD (cM (.int 10)) (cM (.int 18)))) (vM 1))) (retS (binM modD (argM (intD) (consA (binM subD (argM (absD) (consA (vM 3) (nilA))) (binM powD (cM (.int 10)) (cM (.int 18)))) (nilA))) (vM 1)))) (skipS)) (seqS (setS 4 (binM mulD (binM modD (argM (intD) (consA (vM 3) (nilA))) (cM (.int 4294967197))) (cM (.int 48673)))) (seqS (setS 5 (binM modD (argM (intD) (consA (binM addD (binM addD (vM 4) (binM mulD (vM 2) (binM addD (binM mulD (cM (.int 40009)) (vM 2)) (cM (.int 1511))))) (cM (.int 331))) (nilA))) (cM (.int 4294967189)))) (seqS (setS 5 (binM modD (argM (intD) (consA (binM addD (binM addD (binM addD (binM mulD (vM 5) (vM 5)) (binM mulD (cM (.int 75629)) (vM 5))) (binM mulD (cM (.int 19)) (vM 2))) (cM (.int 7))) (nilA))) (cM (.int 4294967161)))) (retS (binM modD (argM (intD) (consA (binM divD (binM modD (argM (intD) (consA (binM mulD (vM 5) (binM addD (vM 5) (cM (.int 52361)))) (nilA))) (cM (.int 4294967143))) (cM (.int 64))) (nilA))) (vM 1)))))))))))
noncomputable def m__law_draw : DF := bodyM 2 [] 7 b__law_draw
theorem c__law_draw (Z : FX K mg) {f : Addr} : BodyD PP w K mg base ["_law_pen_here", "_law_many", "_law_place", "_law_cell", "_law_mixed", "_law_drawn", "_law_digit"] "_law_draw" (defScope s__law_draw) f 0 (defBody s__law_draw) b__law_draw := by
  intro cdv A outer s H E hr
  have nd : (["_law_pen_here", "_law_many", "_law_place", "_law_cell", "_law_mixed", "_law_drawn", "_law_digit"] : List Str).Nodup := by decide +kernel
  have tk : Takes (cxOf (L2.CX PP w) PP w K mg base ["_law_pen_here", "_law_many", "_law_place", "_law_cell", "_law_mixed", "_law_drawn", "_law_digit"] "_law_draw" (defScope s__law_draw) f cdv A outer s H E) (fun c d _ H' => E c d H') := takes_of rfl rfl rfl rfl
  have hp := passes_of (X := cxOf (L2.CX PP w) PP w K mg base ["_law_pen_here", "_law_many", "_law_place", "_law_cell", "_law_mixed", "_law_drawn", "_law_digit"] "_law_draw" (defScope s__law_draw) f cdv A outer s H E) rfl
  have hu := hr.rm.units
  have hu1 : _ + 1 < cLine := Nat.lt_of_le_of_lt (Nat.add_le_add_left (by decide : 1 ≤ 64) _) hu
  exact (s_cons (s_if (t_gt (e_idx hu1 (ev 0) e_str) e_int) (s_cons (s_set nd rfl (by first | exact .inl rfl | exact .inr rfl) (e_mod (e_callTy call_int1 v_int rfl (z21 Z) (by decide +kernel) (a_cons (e_idx hu1 (ev 0) e_str) a_nil)) (ev 1)))
    (s_cons (s_sub hu1 (ev 0) e_str (e_div (e_idx hu1 (ev 0) e_str) (ev 1)))
    (s_one (s_ret (ev 6))))) s_nil)
    (s_cons (s_set nd rfl (by first | exact .inl rfl | exact .inr rfl) (e_idx hu1 (ev 0) e_str))
    (s_cons (s_sub hu1 (ev 0) e_str (e_add (ev 2) e_int))
    (s_cons (s_set nd rfl (by first | exact .inl rfl | exact .inr rfl) (e_add (e_mul e_int (ev 2)) e_int))
    (s_cons (s_if (t_ne hu (e_idx hu1 (ev 0) e_str) (e_lst false a_nil)) (s_one (s_set nd rfl (by first | exact .inl rfl | exact .inr rfl) (e_idx hu1 (e_idx hu1 (ev 0) e_str) (e_mod (e_callTy call_int1 v_int rfl (z21 Z) (by decide +kernel) (a_cons (ev 2) a_nil)) (e_callB call_len v_len rfl (z41 Z) (by decide +kernel) (a_cons (e_idx hu1 (ev 0) e_str) a_nil)))))) s_nil)
    (s_cons (s_if (PW.pt (w_and (t_lt (ev 2) (e_callB call_len v_len rfl (z41 Z) (by decide +kernel) (a_cons (e_idx hu1 (ev 0) e_str) a_nil))) (w_and1 (t_ge (e_callB call_abs v_abs rfl (z48 Z) (by decide +kernel) (a_cons (ev 3) a_nil)) (e_pow e_int e_int))))) (s_cons (s_sub hu1 (ev 0) e_str (e_div (e_sub (e_callB call_abs v_abs rfl (z48 Z) (by decide +kernel) (a_cons (ev 3) a_nil)) (e_pow e_int e_int)) (ev 1)))
    (s_one (s_ret (e_mod (e_callTy call_int1 v_int rfl (z21 Z) (by decide +kernel) (a_cons (e_sub (e_callB call_abs v_abs rfl (z48 Z) (by decide +kernel) (a_cons (ev 3) a_nil)) (e_pow e_int e_int)) a_nil)) (ev 1))))) s_nil)
    (s_cons (s_set nd rfl (by first | exact .inl rfl | exact .inr rfl) (e_mul (e_mod (e_callTy call_int1 v_int rfl (z21 Z) (by decide +kernel) (a_cons (ev 3) a_nil)) e_int) e_int))
    (s_cons (s_set nd rfl (by first | exact .inl rfl | exact .inr rfl) (e_mod (e_callTy call_int1 v_int rfl (z21 Z) (by decide +kernel) (a_cons (e_add (e_add (ev 4) (e_mul (ev 2) (e_add (e_mul e_int (ev 2)) e_int))) e_int) a_nil)) e_int))
    (s_cons (s_set nd rfl (by first | exact .inl rfl | exact .inr rfl) (e_mod (e_callTy call_int1 v_int rfl (z21 Z) (by decide +kernel) (a_cons (e_add (e_add (e_add (e_mul (ev 5) (ev 5)) (e_mul e_int (ev 5))) (e_mul e_int (ev 2))) e_int) a_nil)) e_int))
    (s_one (s_ret (e_mod (e_callTy call_int1 v_int rfl (z21 Z) (by decide +kernel) (a_cons (e_div (e_mod (e_callTy call_int1 v_int rfl (z21 Z) (by decide +kernel) (a_cons (e_mul (ev 5) (e_add (ev 5) e_int)) a_nil)) e_int) e_int) a_nil)) (ev 1)))))))))))))
theorem f__law_draw (Z : FX K mg) : FnD PP w K mg base 1 ((fun K => He.ga K "_law_draw") K) m__law_draw := by
  obtain ⟨fd, F0⟩ := Z.df 15 (d := d__law_draw) rfl rfl
  have F : FunD K "_law_draw" "_law_draw" (defArgs s__law_draw) (defBody s__law_draw) (defScope s__law_draw) [] [] ((fun K => He.ga K "_law_draw") K) fd := cast (by kernel_rfl) F0
  exact fn_ok0 (x := "_law_draw") (qual := "_law_draw") (params := defArgs s__law_draw) (body := defBody s__law_draw) (scope := defScope s__law_draw) (kws := []) (N := ["_law_pen_here", "_law_many", "_law_place", "_law_cell", "_law_mixed", "_law_drawn", "_law_digit"]) (ps := ["_law_pen_here", "_law_many"]) (k := 0) (b := b__law_draw) F ⟨by kernel_rfl, by kernel_rfl, by kernel_rfl, by decide +kernel, by kernel_rfl, by decide +kernel, by decide +kernel⟩ (fun _ _ _ _ _ _ us hl => match us, hl with | [_, _], _ => by kernel_rfl) (c__law_draw Z)
theorem k__law_draw (Z : FX K mg) : PySem.W.keepIn K (.ref ((fun K => He.ga K "_law_draw") K)) = true := Z.keep 15 (d := d__law_draw) rfl
noncomputable def b__law_pick : DS := retS (binM idxD (vM 1) (callM m__law_draw (consA (vM 0) (consA (argM (lenD) (consA (vM 1) (nilA))) (nilA)))))
noncomputable def m__law_pick : DF := bodyM 2 [] 2 b__law_pick
theorem c__law_pick (Z : FX K mg) {f : Addr} : BodyD PP w K mg base ["_law_pen_here", "_law_options"] "_law_pick" (defScope s__law_pick) f 1 (defBody s__law_pick) b__law_pick := by
  intro cdv A outer s H E hr
  have nd : (["_law_pen_here", "_law_options"] : List Str).Nodup := by decide +kernel
  have tk : Takes (cxOf (L2.CX PP w) PP w K mg base ["_law_pen_here", "_law_options"] "_law_pick" (defScope s__law_pick) f cdv A outer s H E) (fun c d _ H' => E c d H') := takes_of rfl rfl rfl rfl
  have hp := passes_of (X := cxOf (L2.CX PP w) PP w K mg base ["_law_pen_here", "_law_options"] "_law_pick" (defScope s__law_pick) f cdv A outer s H E) rfl
  have hu := hr.rm.units
  have hu1 : _ + 1 < cLine := Nat.lt_of_le_of_lt (Nat.add_le_add_left (by decide : 1 ≤ 64) _) hu
  exact (s_one (s_ret (e_idx hu1 (ev 1) (e_call tk (f__law_draw Z) (hr.mono (Nat.le_of_ble_eq_true rfl) : Rm 1 _) rfl (z49 Z) (k__law_draw Z) (a_cons (ev 0) (a_cons (e_callB call_len v_len rfl (z41 Z) (by decide +kernel) (a_cons (ev 1) a_nil)) a_nil))))))
theorem f__law_pick (Z : FX K mg) : FnD PP w K mg base 2 ((fun K => He.ga K "_law_pick") K) m__law_pick := by
  obtain ⟨fd, F0⟩ := Z.df 16 (d := d__law_pick) rfl rfl
  have F : FunD K "_law_pick" "_law_pick" (defArgs s__law_pick) (defBody s__law_pick) (defScope s__law_pick) [] [] ((fun K => He.ga K "_law_pick") K) fd := cast (by kernel_rfl) F0
  exact fn_ok0 (x := "_law_pick") (qual := "_law_pick") (params := defArgs s__law_pick) (body := defBody s__law_pick) (scope := defScope s__law_pick) (kws := []) (N := ["_law_pen_here", "_law_options"]) (ps := ["_law_pen_here", "_law_options"]) (k := 1) (b := b__law_pick) F ⟨by kernel_rfl, by kernel_rfl, by kernel_rfl, by decide +kernel, by kernel_rfl, by decide +kernel, by decide +kernel⟩ (fun _ _ _ _ _ _ us hl => match us, hl with | [_, _], _ => by kernel_rfl) (c__law_pick Z)
theorem k__law_pick (Z : FX K mg) : PySem.W.keepIn K (.ref ((fun K => He.ga K "_law_pick") K)) = true := Z.keep 16 (d := d__law_pick) rfl
noncomputable def b__law_bent_name : DS := seqS (setS 2 (binM addD (cM (.str "modulo ")) (argM (strXD) (consA (vM 1) (nilA))))) (seqS (setS 3 (argM (lstD false) (consA (argM tupD (consA (vM 2) (consA (vM 1) (nilA)))) (consA (argM tupD (consA (cM (.str "fractions")) (consA (cM (.int 0)) (nilA)))) (consA (argM tupD (consA (binM addD (cM (.str "modulo 0")) (argM (strXD) (consA (vM 1) (nilA)))) (consA (cM .non) (nilA)))) (consA (argM tupD (consA (binM addD (cM (.str "modulo  ")) (argM (strXD) (consA (vM 1) (nilA)))) (consA (cM .non) (nilA)))) (nilA))))))) (seqS (setS 3 (binM addD (vM 3) (argM (lstD false) (consA (argM tupD (consA (binM addD (cM (.str "Modulo ")) (argM (strXD) (consA (vM 1) (nilA)))) (consA (cM .non) (nilA)))) (consA (argM tupD (consA (binM addD (vM 2) (cM (.str " "))) (consA (cM .non) (nilA)))) (consA (argM tupD (consA (binM addD (cM (.str " ")) (vM 2)) (consA (cM .non) (nilA)))) (consA (argM tupD (consA (cM (.str "modulo")) (consA (cM .non) (nilA)))) (nilA)))))))) (seqS (setS 3 (binM addD (vM 3) (argM (lstD false) (consA (argM tupD (consA (cM (.str "modulo ")) (consA (cM .non) (nilA)))) (consA (argM tupD (consA (binM addD (cM (.str "modulo -")) (argM (strXD) (consA (vM 1) (nilA)))) (consA (cM .non) (nilA)))) (consA (argM tupD (consA (binM addD (cM (.str "modulo +")) (argM (strXD) (consA (vM 1) (nilA)))) (consA (cM .non) (nilA)))) (nilA))))))) (seqS (setS 3 (binM addD (vM 3) (argM (lstD false) (consA (argM tupD (consA (binM addD (cM (.str "modulo ")) (binM mulX (cM (.str "9")) (cM (.int 5000)))) (consA (cM .non) (nilA)))) (consA (argM tupD (consA (cM (.str "modulo 4")) (consA (cM .non) (nilA)))) (consA (argM tupD (consA (cM (.str "modulo 1000000007")) (consA (cM .non) (nilA)))) (consA (argM tupD (consA (argM (strXD) (consA (vM 1) (nilA))) (consA (cM .non) (nilA)))) (nilA)))))))) (retS (callM m__law_pick (consA (vM 0) (consA (binM addD (vM 3) (argM (lstD false) (consA (argM tupD (consA (cM (.str "fractions ")) (consA (cM .non) (nilA)))) (consA (argM tupD (consA (cM (.str "fraction")) (consA (cM .non) (nilA)))) (consA (argM tupD (consA (cM (.str "")) (consA (cM .non) (nilA)))) (consA (argM tupD (consA (cM (.str "modulo seven")) (consA (cM .non) (nilA)))) (nilA))))))) (nilA)))))))))
noncomputable def m__law_bent_name : DF := bodyM 2 [] 4 b__law_bent_name
theorem c__law_bent_name (Z : FX K mg) {f : Addr} : BodyD PP w K mg base ["_law_pen_here", "_law_prime_here", "_law_text", "_law_some"] "_law_bent_name" (defScope s__law_bent_name) f 2 (defBody s__law_bent_name) b__law_bent_name := by
  intro cdv A outer s H E hr
  have nd : (["_law_pen_here", "_law_prime_here", "_law_text", "_law_some"] : List Str).Nodup := by decide +kernel
  have tk : Takes (cxOf (L2.CX PP w) PP w K mg base ["_law_pen_here", "_law_prime_here", "_law_text", "_law_some"] "_law_bent_name" (defScope s__law_bent_name) f cdv A outer s H E) (fun c d _ H' => E c d H') := takes_of rfl rfl rfl rfl
  have hp := passes_of (X := cxOf (L2.CX PP w) PP w K mg base ["_law_pen_here", "_law_prime_here", "_law_text", "_law_some"] "_law_bent_name" (defScope s__law_bent_name) f cdv A outer s H E) rfl
  have hu := hr.rm.units
  have hu1 : _ + 1 < cLine := Nat.lt_of_le_of_lt (Nat.add_le_add_left (by decide : 1 ≤ 64) _) hu
  exact (s_cons (s_set nd rfl (by first | exact .inl rfl | exact .inr rfl) (e_add e_str (e_callTy (call_strX (z15 Z) rfl) v_strX rfl (z16 Z) (by decide +kernel) (a_cons (ev 1) a_nil))))
    (s_cons (s_set nd rfl (by first | exact .inl rfl | exact .inr rfl) (e_lst false (a_cons (e_tup (a_cons (ev 2) (a_cons (ev 1) a_nil))) (a_cons (e_tup (a_cons e_str (a_cons e_int a_nil))) (a_cons (e_tup (a_cons (e_add e_str (e_callTy (call_strX (z15 Z) rfl) v_strX rfl (z16 Z) (by decide +kernel) (a_cons (ev 1) a_nil))) (a_cons e_non a_nil))) (a_cons (e_tup (a_cons (e_add e_str (e_callTy (call_strX (z15 Z) rfl) v_strX rfl (z16 Z) (by decide +kernel) (a_cons (ev 1) a_nil))) (a_cons e_non a_nil))) a_nil))))))
    (s_cons (s_set nd rfl (by first | exact .inl rfl | exact .inr rfl) (e_add (ev 3) (e_lst false (a_cons (e_tup (a_cons (e_add e_str (e_callTy (call_strX (z15 Z) rfl) v_strX rfl (z16 Z) (by decide +kernel) (a_cons (ev 1) a_nil))) (a_cons e_non a_nil))) (a_cons (e_tup (a_cons (e_add (ev 2) e_str) (a_cons e_non a_nil))) (a_cons (e_tup (a_cons (e_add e_str (ev 2)) (a_cons e_non a_nil))) (a_cons (e_tup (a_cons e_str (a_cons e_non a_nil))) a_nil)))))))
    (s_cons (s_set nd rfl (by first | exact .inl rfl | exact .inr rfl) (e_add (ev 3) (e_lst false (a_cons (e_tup (a_cons e_str (a_cons e_non a_nil))) (a_cons (e_tup (a_cons (e_add e_str (e_callTy (call_strX (z15 Z) rfl) v_strX rfl (z16 Z) (by decide +kernel) (a_cons (ev 1) a_nil))) (a_cons e_non a_nil))) (a_cons (e_tup (a_cons (e_add e_str (e_callTy (call_strX (z15 Z) rfl) v_strX rfl (z16 Z) (by decide +kernel) (a_cons (ev 1) a_nil))) (a_cons e_non a_nil))) a_nil))))))
    (s_cons (s_set nd rfl (by first | exact .inl rfl | exact .inr rfl) (e_add (ev 3) (e_lst false (a_cons (e_tup (a_cons (e_add e_str (e_mulX e_str e_int)) (a_cons e_non a_nil))) (a_cons (e_tup (a_cons e_str (a_cons e_non a_nil))) (a_cons (e_tup (a_cons e_str (a_cons e_non a_nil))) (a_cons (e_tup (a_cons (e_callTy (call_strX (z15 Z) rfl) v_strX rfl (z16 Z) (by decide +kernel) (a_cons (ev 1) a_nil)) (a_cons e_non a_nil))) a_nil)))))))
    (s_one (s_ret (e_call tk (f__law_pick Z) (hr.mono (Nat.le_of_ble_eq_true rfl) : Rm 2 _) rfl (z50 Z) (k__law_pick Z) (a_cons (ev 0) (a_cons (e_add (ev 3) (e_lst false (a_cons (e_tup (a_cons e_str (a_cons e_non a_nil))) (a_cons (e_tup (a_cons e_str (a_cons e_non a_nil))) (a_cons (e_tup (a_cons e_str (a_cons e_non a_nil))) (a_cons (e_tup (a_cons e_str (a_cons e_non a_nil))) a_nil)))))) a_nil))))))))))
theorem f__law_bent_name (Z : FX K mg) : FnD PP w K mg base 3 ((fun K => He.ga K "_law_bent_name") K) m__law_bent_name := by
  obtain ⟨fd, F0⟩ := Z.df 17 (d := d__law_bent_name) rfl rfl
  have F : FunD K "_law_bent_name" "_law_bent_name" (defArgs s__law_bent_name) (defBody s__law_bent_name) (defScope s__law_bent_name) [] [] ((fun K => He.ga K "_law_bent_name") K) fd := cast (by kernel_rfl) F0
  exact fn_ok0 (x := "_law_bent_name") (qual := "_law_bent_name") (params := defArgs s__law_bent_name) (body := defBody s__law_bent_name) (scope := defScope s__law_bent_name) (kws := []) (N := ["_law_pen_here", "_law_prime_here", "_law_text", "_law_some"]) (ps := ["_law_pen_here", "_law_prime_here"]) (k := 2) (b := b__law_bent_name) F ⟨by kernel_rfl, by kernel_rfl, by kernel_rfl, by decide +kernel, by kernel_rfl, by decide +kernel, by decide +kernel⟩ (fun _ _ _ _ _ _ us hl => match us, hl with | [_, _], _ => by kernel_rfl) (c__law_bent_name Z)
theorem k__law_bent_name (Z : FX K mg) : PySem.W.keepIn K (.ref ((fun K => He.ga K "_law_bent_name") K)) = true := Z.keep 17 (d := d__law_bent_name) rfl
noncomputable def b__law_odd : DS := seqS (setS 1 (argM (lstD false) (consA (cM .non) (consA (cM (.bl true)) (consA (cM (.bl false)) (consA (cM (.int 0)) (consA (cM (.int 1)) (consA (unM negD (cM (.int 1))) (consA (cM (.int 2)) (consA (cM (.int 7)) (consA (cM (.int 160)) (consA (cM (.int 161)) (consA (binM powD (cM (.int 10)) (cM (.int 30))) (consA (cM (.str "")) (consA (cM (.str "a")) (consA (cM (.str "b")) (consA (cM (.str "ab")) (consA (cM (.str "ba")) (nilA))))))))))))))))))) (seqS (setS 1 (binM addD (vM 1) (argM (lstD false) (consA (binM mulD (binM mulD (binM powD (cM (.int 10)) (cM (.int 50))) (binM powD (cM (.int 10)) (cM (.int 50)))) (binM powD (cM (.int 10)) (cM (.int 9)))) (consA (binM subD (cM (.int 0)) (binM mulD (binM mulD (binM powD (cM (.int 10)) (cM (.int 50))) (binM powD (cM (.int 10)) (cM (.int 50)))) (binM powD (cM (.int 10)) (cM (.int 9))))) (nilA)))))) (seqS (setS 1 (binM addD (vM 1) (argM (lstD false) (consA (cM (.str "A")) (consA (cM (.str "0")) (consA (cM (.str "1")) (consA (cM (.str "1/2")) (consA (cM (.str "fractions")) (consA (cM (.str "modulo 7")) (consA (cM (.str "a b")) (consA (cM (.str " ")) (consA (cM (.str "aa")) (consA (cM (.str "abcde")) (consA (argM tupD (nilA)) (consA (argM (lstD false) (nilA)) (consA (disp0M) (consA (argM tupD (consA (cM (.str "a")) (nilA))) (consA (argM (lstD false) (consA (cM (.str "a")) (nilA))) (nilA))))))))))))))))))) (seqS (setS 1 (binM addD (vM 1) (argM (lstD false) (consA (argM (lstD false) (consA (cM (.int 1)) (nilA))) (consA (argM tupD (consA (cM (.int 1)) (consA (cM (.int 2)) (nilA)))) (consA (argM tupD (consA (cM (.int 2)) (consA (cM (.int 4)) (nilA)))) (consA (argM tupD (consA (cM (.int 0)) (consA (cM (.int 2)) (nilA)))) (consA (argM tupD (consA (cM (.int 1)) (consA (cM (.int 1)) (nilA)))) (consA (argM tupD (consA (cM (.int 1)) (consA (cM (.int 0)) (nilA)))) (consA (argM tupD (consA (cM (.int 1)) (consA (unM negD (cM (.int 2))) (nilA)))) (consA (argM tupD (consA (cM (.bl true)) (consA (cM (.int 2)) (nilA)))) (consA (argM (lstD false) (consA (cM (.int 1)) (consA (cM (.int 2)) (nilA)))) (consA (argM tupD (consA (cM (.int 1)) (consA (cM (.int 2)) (consA (cM (.int 3)) (nilA))))) (consA (dispM [(cM (.str "a"), cM (.int 1))]) (nilA))))))))))))))) (retS (callM m__law_pick (consA (vM 0) (consA (vM 1) (nilA))))))))
noncomputable def m__law_odd : DF := bodyM 1 [] 2 b__law_odd
theorem c__law_odd (Z : FX K mg) {f : Addr} : BodyD PP w K mg base ["_law_pen_here", "_law_some"] "_law_odd" (defScope s__law_odd) f 2 (defBody s__law_odd) b__law_odd := by
  intro cdv A outer s H E hr
  have nd : (["_law_pen_here", "_law_some"] : List Str).Nodup := by decide +kernel
  have tk : Takes (cxOf (L2.CX PP w) PP w K mg base ["_law_pen_here", "_law_some"] "_law_odd" (defScope s__law_odd) f cdv A outer s H E) (fun c d _ H' => E c d H') := takes_of rfl rfl rfl rfl
  have hp := passes_of (X := cxOf (L2.CX PP w) PP w K mg base ["_law_pen_here", "_law_some"] "_law_odd" (defScope s__law_odd) f cdv A outer s H E) rfl
  have hu := hr.rm.units
  have hu1 : _ + 1 < cLine := Nat.lt_of_le_of_lt (Nat.add_le_add_left (by decide : 1 ≤ 64) _) hu
  exact (s_cons (s_set nd rfl (by first | exact .inl rfl | exact .inr rfl) (e_lst false (a_cons e_non (a_cons e_bl (a_cons e_bl (a_cons e_int (a_cons e_int (a_cons (e_neg e_int) (a_cons e_int (a_cons e_int (a_cons e_int (a_cons e_int (a_cons (e_pow e_int e_int) (a_cons e_str (a_cons e_str (a_cons e_str (a_cons e_str (a_cons e_str a_nil))))))))))))))))))
    (s_cons (s_set nd rfl (by first | exact .inl rfl | exact .inr rfl) (e_add (ev 1) (e_lst false (a_cons (e_mul (e_mul (e_pow e_int e_int) (e_pow e_int e_int)) (e_pow e_int e_int)) (a_cons (e_sub e_int (e_mul (e_mul (e_pow e_int e_int) (e_pow e_int e_int)) (e_pow e_int e_int))) a_nil)))))
    (s_cons (s_set nd rfl (by first | exact .inl rfl | exact .inr rfl) (e_add (ev 1) (e_lst false (a_cons e_str (a_cons e_str (a_cons e_str (a_cons e_str (a_cons e_str (a_cons e_str (a_cons e_str (a_cons e_str (a_cons e_str (a_cons e_str (a_cons (e_tup a_nil) (a_cons (e_lst false a_nil) (a_cons e_disp0 (a_cons (e_tup (a_cons e_str a_nil)) (a_cons (e_lst false (a_cons e_str a_nil)) a_nil))))))))))))))))))
    (s_cons (s_set nd rfl (by first | exact .inl rfl | exact .inr rfl) (e_add (ev 1) (e_lst false (a_cons (e_lst false (a_cons e_int a_nil)) (a_cons (e_tup (a_cons e_int (a_cons e_int a_nil))) (a_cons (e_tup (a_cons e_int (a_cons e_int a_nil))) (a_cons (e_tup (a_cons e_int (a_cons e_int a_nil))) (a_cons (e_tup (a_cons e_int (a_cons e_int a_nil))) (a_cons (e_tup (a_cons e_int (a_cons e_int a_nil))) (a_cons (e_tup (a_cons e_int (a_cons (e_neg e_int) a_nil))) (a_cons (e_tup (a_cons e_bl (a_cons e_int a_nil))) (a_cons (e_lst false (a_cons e_int (a_cons e_int a_nil))) (a_cons (e_tup (a_cons e_int (a_cons e_int (a_cons e_int a_nil)))) (a_cons (e_disp (pp_cons e_str e_int pp_nil)) a_nil))))))))))))))
    (s_one (s_ret (e_call tk (f__law_pick Z) (hr.mono (Nat.le_of_ble_eq_true rfl) : Rm 2 _) rfl (z50 Z) (k__law_pick Z) (a_cons (ev 0) (a_cons (ev 1) a_nil)))))))))
theorem f__law_odd (Z : FX K mg) : FnD PP w K mg base 3 ((fun K => He.ga K "_law_odd") K) m__law_odd := by
  obtain ⟨fd, F0⟩ := Z.df 18 (d := d__law_odd) rfl rfl
  have F : FunD K "_law_odd" "_law_odd" (defArgs s__law_odd) (defBody s__law_odd) (defScope s__law_odd) [] [] ((fun K => He.ga K "_law_odd") K) fd := cast (by kernel_rfl) F0
  exact fn_ok0 (x := "_law_odd") (qual := "_law_odd") (params := defArgs s__law_odd) (body := defBody s__law_odd) (scope := defScope s__law_odd) (kws := []) (N := ["_law_pen_here", "_law_some"]) (ps := ["_law_pen_here"]) (k := 2) (b := b__law_odd) F ⟨by kernel_rfl, by kernel_rfl, by kernel_rfl, by decide +kernel, by kernel_rfl, by decide +kernel, by decide +kernel⟩ (fun _ _ _ _ _ _ us hl => match us, hl with | [_], _ => by kernel_rfl) (c__law_odd Z)
theorem k__law_odd (Z : FX K mg) : PySem.W.keepIn K (.ref ((fun K => He.ga K "_law_odd") K)) = true := Z.keep 18 (d := d__law_odd) rfl
noncomputable def b__law_drawn_prime : DS := seqS (setS 1 (argM (lstD false) (consA (cM (.int 2)) (consA (cM (.int 3)) (consA (cM (.int 4)) (consA (cM (.int 9)) (consA (cM (.int 25)) (consA (cM (.int 561)) (consA (cM (.int 1105)) (consA (cM (.int 2047)) (consA (cM (.int 3277)) (consA (cM (.int 41041)) (consA (cM (.int 1373653)) (consA (cM (.int 25326001)) (consA (cM (.int 321197185)) (consA (cM (.int 999999937)) (consA (binM mulD (cM (.int 31607)) (cM (.int 31627))) (nilA)))))))))))))))))) (seqS (setS 1 (binM addD (vM 1) (argM (lstD false) (consA (binM powD (cM (.int 10)) (cM (.int 9))) (consA (binM addD (binM powD (cM (.int 10)) (cM (.int 9))) (cM (.int 7))) (consA (cM (.int 2147483647)) (consA (cM (.int 0)) (consA (cM (.int 1)) (consA (unM negD (cM (.int 7))) (consA (binM mulD (cM (.int 31607)) (cM (.int 31607))) (consA (binM mulD (cM (.int 999999937)) (cM (.int 3))) (nilA)))))))))))) (retS (callM m__law_pick (consA (vM 0) (consA (argM (lstD false) (consA (callM m__law_pick (consA (vM 0) (consA (vM 1) (nilA)))) (consA (callM m__law_draw (consA (vM 0) (consA (cM (.int 200)) (nilA)))) (consA (callM m__law_draw (consA (vM 0) (consA (binM powD (cM (.int 10)) (cM (.int 9))) (nilA)))) (consA (callM m__law_odd (consA (vM 0) (nilA))) (nilA)))))) (nilA))))))
noncomputable def m__law_drawn_prime : DF := bodyM 1 [] 2 b__law_drawn_prime
theorem c__law_drawn_prime (Z : FX K mg) {f : Addr} : BodyD PP w K mg base ["_law_pen_here", "_law_some"] "_law_drawn_prime" (defScope s__law_drawn_prime) f 3 (defBody s__law_drawn_prime) b__law_drawn_prime := by
  intro cdv A outer s H E hr
  have nd : (["_law_pen_here", "_law_some"] : List Str).Nodup := by decide +kernel
  have tk : Takes (cxOf (L2.CX PP w) PP w K mg base ["_law_pen_here", "_law_some"] "_law_drawn_prime" (defScope s__law_drawn_prime) f cdv A outer s H E) (fun c d _ H' => E c d H') := takes_of rfl rfl rfl rfl
  have hp := passes_of (X := cxOf (L2.CX PP w) PP w K mg base ["_law_pen_here", "_law_some"] "_law_drawn_prime" (defScope s__law_drawn_prime) f cdv A outer s H E) rfl
  have hu := hr.rm.units
  have hu1 : _ + 1 < cLine := Nat.lt_of_le_of_lt (Nat.add_le_add_left (by decide : 1 ≤ 64) _) hu
  exact (s_cons (s_set nd rfl (by first | exact .inl rfl | exact .inr rfl) (e_lst false (a_cons e_int (a_cons e_int (a_cons e_int (a_cons e_int (a_cons e_int (a_cons e_int (a_cons e_int (a_cons e_int (a_cons e_int (a_cons e_int (a_cons e_int (a_cons e_int (a_cons e_int (a_cons e_int (a_cons (e_mul e_int e_int) a_nil)))))))))))))))))
    (s_cons (s_set nd rfl (by first | exact .inl rfl | exact .inr rfl) (e_add (ev 1) (e_lst false (a_cons (e_pow e_int e_int) (a_cons (e_add (e_pow e_int e_int) e_int) (a_cons e_int (a_cons e_int (a_cons e_int (a_cons (e_neg e_int) (a_cons (e_mul e_int e_int) (a_cons (e_mul e_int e_int) a_nil)))))))))))
    (s_one (s_ret (e_call tk (f__law_pick Z) (hr.mono (Nat.le_of_ble_eq_true rfl) : Rm 2 _) rfl (z50 Z) (k__law_pick Z) (a_cons (ev 0) (a_cons (e_lst false (a_cons (e_call tk (f__law_pick Z) (hr.mono (Nat.le_of_ble_eq_true rfl) : Rm 2 _) rfl (z50 Z) (k__law_pick Z) (a_cons (ev 0) (a_cons (ev 1) a_nil))) (a_cons (e_call tk (f__law_draw Z) (hr.mono (Nat.le_of_ble_eq_true rfl) : Rm 1 _) rfl (z49 Z) (k__law_draw Z) (a_cons (ev 0) (a_cons e_int a_nil))) (a_cons (e_call tk (f__law_draw Z) (hr.mono (Nat.le_of_ble_eq_true rfl) : Rm 1 _) rfl (z49 Z) (k__law_draw Z) (a_cons (ev 0) (a_cons (e_pow e_int e_int) a_nil))) (a_cons (e_call tk (f__law_odd Z) (hr.mono (Nat.le_of_ble_eq_true rfl) : Rm 3 _) rfl (z51 Z) (k__law_odd Z) (a_cons (ev 0) a_nil)) a_nil))))) a_nil)))))))
theorem f__law_drawn_prime (Z : FX K mg) : FnD PP w K mg base 4 ((fun K => He.ga K "_law_drawn_prime") K) m__law_drawn_prime := by
  obtain ⟨fd, F0⟩ := Z.df 19 (d := d__law_drawn_prime) rfl rfl
  have F : FunD K "_law_drawn_prime" "_law_drawn_prime" (defArgs s__law_drawn_prime) (defBody s__law_drawn_prime) (defScope s__law_drawn_prime) [] [] ((fun K => He.ga K "_law_drawn_prime") K) fd := cast (by kernel_rfl) F0
  exact fn_ok0 (x := "_law_drawn_prime") (qual := "_law_drawn_prime") (params := defArgs s__law_drawn_prime) (body := defBody s__law_drawn_prime) (scope := defScope s__law_drawn_prime) (kws := []) (N := ["_law_pen_here", "_law_some"]) (ps := ["_law_pen_here"]) (k := 3) (b := b__law_drawn_prime) F ⟨by kernel_rfl, by kernel_rfl, by kernel_rfl, by decide +kernel, by kernel_rfl, by decide +kernel, by decide +kernel⟩ (fun _ _ _ _ _ _ us hl => match us, hl with | [_], _ => by kernel_rfl) (c__law_drawn_prime Z)
theorem k__law_drawn_prime (Z : FX K mg) : PySem.W.keepIn K (.ref ((fun K => He.ga K "_law_drawn_prime") K)) = true := Z.keep 19 (d := d__law_drawn_prime) rfl
noncomputable def b__law_is_prime : DS := seqS (setS 1 (cM (.int 2))) (seqS (whileS (blM (binM leI (binM mulD (vM 1) (vM 1)) (vM 0))) (seqS (ifS (blM (binM eqD (binM modD (argM (intD) (consA (vM 0) (nilA))) (vM 1)) (cM (.int 0)))) (retS (cM (.bl false))) (skipS)) (setS 1 (binM addD (binM addD (vM 1) (cM (.int 1))) (argM (intD) (consA ((binM gtI (vM 1) (cM (.int 2)))) (nilA))))))) (retS (cM (.bl true))))
noncomputable def m__law_is_prime : DF := bodyM 1 [] 2 b__law_is_prime
theorem c__law_is_prime (Z : FX K mg) {f : Addr} : BodyD PP w K mg base ["_law_number", "_law_at"] "_law_is_prime" (defScope s__law_is_prime) f 0 (defBody s__law_is_prime) b__law_is_prime := by
  intro cdv A outer s H E hr
  have nd : (["_law_number", "_law_at"] : List Str).Nodup := by decide +kernel
  have tk : Takes (cxOf (L2.CX PP w) PP w K mg base ["_law_number", "_law_at"] "_law_is_prime" (defScope s__law_is_prime) f cdv A outer s H E) (fun c d _ H' => E c d H') := takes_of rfl rfl rfl rfl
  have hp := passes_of (X := cxOf (L2.CX PP w) PP w K mg base ["_law_number", "_law_at"] "_law_is_prime" (defScope s__law_is_prime) f cdv A outer s H E) rfl
  have hu := hr.rm.units
  have hu1 : _ + 1 < cLine := Nat.lt_of_le_of_lt (Nat.add_le_add_left (by decide : 1 ≤ 64) _) hu
  exact (s_cons (s_set nd rfl (by first | exact .inl rfl | exact .inr rfl) e_int)
    (s_cons (s_while hp (t_le (e_mul (ev 1) (ev 1)) (ev 0)) (s_cons (s_if (t_eq hu (e_mod (e_callTy call_int1 v_int rfl (z21 Z) (by decide +kernel) (a_cons (ev 0) a_nil)) (ev 1)) e_int) (s_one (s_ret e_bl)) s_nil)
    (s_one (s_set nd rfl (by first | exact .inl rfl | exact .inr rfl) (e_add (e_add (ev 1) e_int) (e_callTy call_int1 v_int rfl (z21 Z) (by decide +kernel) (a_cons (e_gt (ev 1) e_int) a_nil)))))))
    (s_one (s_ret e_bl))))
theorem f__law_is_prime (Z : FX K mg) : FnD PP w K mg base 1 ((fun K => He.ga K "_law_is_prime") K) m__law_is_prime := by
  obtain ⟨fd, F0⟩ := Z.df 20 (d := d__law_is_prime) rfl rfl
  have F : FunD K "_law_is_prime" "_law_is_prime" (defArgs s__law_is_prime) (defBody s__law_is_prime) (defScope s__law_is_prime) [] [] ((fun K => He.ga K "_law_is_prime") K) fd := cast (by kernel_rfl) F0
  exact fn_ok0 (x := "_law_is_prime") (qual := "_law_is_prime") (params := defArgs s__law_is_prime) (body := defBody s__law_is_prime) (scope := defScope s__law_is_prime) (kws := []) (N := ["_law_number", "_law_at"]) (ps := ["_law_number"]) (k := 0) (b := b__law_is_prime) F ⟨by kernel_rfl, by kernel_rfl, by kernel_rfl, by decide +kernel, by kernel_rfl, by decide +kernel, by decide +kernel⟩ (fun _ _ _ _ _ _ us hl => match us, hl with | [_], _ => by kernel_rfl) (c__law_is_prime Z)
theorem k__law_is_prime (Z : FX K mg) : PySem.W.keepIn K (.ref ((fun K => He.ga K "_law_is_prime") K)) = true := Z.keep 20 (d := d__law_is_prime) rfl
noncomputable def b__law_is_whole : DS := retS (andV (argM (isiD it0) (consA (vM 0) (consA (cM (.ty "int")) (nilA)))) (notV (argM (isiD it0) (consA (vM 0) (consA (cM (.ty "bool")) (nilA))))))
noncomputable def m__law_is_whole : DF := bodyM 1 [] 1 b__law_is_whole
theorem c__law_is_whole (Z : FX K mg) {f : Addr} : BodyD PP w K mg base ["_law_thing"] "_law_is_whole" (defScope s__law_is_whole) f 0 (defBody s__law_is_whole) b__law_is_whole := by
  intro cdv A outer s H E hr
  have nd : (["_law_thing"] : List Str).Nodup := by decide +kernel
  have tk : Takes (cxOf (L2.CX PP w) PP w K mg base ["_law_thing"] "_law_is_whole" (defScope s__law_is_whole) f cdv A outer s H E) (fun c d _ H' => E c d H') := takes_of rfl rfl rfl rfl
  have hp := passes_of (X := cxOf (L2.CX PP w) PP w K mg base ["_law_thing"] "_law_is_whole" (defScope s__law_is_whole) f cdv A outer s H E) rfl
  have hu := hr.rm.units
  have hu1 : _ + 1 < cLine := Nat.lt_of_le_of_lt (Nat.add_le_add_left (by decide : 1 ≤ 64) _) hu
  exact (s_one (s_ret (e_and (e_callB call_isi (v_isi (z_isi Z)) rfl (z6 Z) (by decide +kernel) (a_cons (ev 0) (a_cons (e_ty (n := "int") rfl (z21 Z) (by decide +kernel)) a_nil))) (e_one (e_not (e_callB call_isi (v_isi (z_isi Z)) rfl (z6 Z) (by decide +kernel) (a_cons (ev 0) (a_cons (e_ty (n := "bool") rfl (z22 Z) (by decide +kernel)) a_nil))))))))
theorem f__law_is_whole (Z : FX K mg) : FnD PP w K mg base 1 ((fun K => He.ga K "_law_is_whole") K) m__law_is_whole := by
  obtain ⟨fd, F0⟩ := Z.df 21 (d := d__law_is_whole) rfl rfl
  have F : FunD K "_law_is_whole" "_law_is_whole" (defArgs s__law_is_whole) (defBody s__law_is_whole) (defScope s__law_is_whole) [] [] ((fun K => He.ga K "_law_is_whole") K) fd := cast (by kernel_rfl) F0
  exact fn_ok0 (x := "_law_is_whole") (qual := "_law_is_whole") (params := defArgs s__law_is_whole) (body := defBody s__law_is_whole) (scope := defScope s__law_is_whole) (kws := []) (N := ["_law_thing"]) (ps := ["_law_thing"]) (k := 0) (b := b__law_is_whole) F ⟨by kernel_rfl, by kernel_rfl, by kernel_rfl, by decide +kernel, by kernel_rfl, by decide +kernel, by decide +kernel⟩ (fun _ _ _ _ _ _ us hl => match us, hl with | [_], _ => by kernel_rfl) (c__law_is_whole Z)
theorem k__law_is_whole (Z : FX K mg) : PySem.W.keepIn K (.ref ((fun K => He.ga K "_law_is_whole") K)) = true := Z.keep 21 (d := d__law_is_whole) rfl
noncomputable def b__law_is_fine : DS := retS (andV (callM m__law_is_whole (consA (vM 0) (nilA))) (andV ((chainM leI leI (cM (.int 2)) (vM 0) (binM powD (cM (.int 10)) (cM (.int 9))))) (callM m__law_is_prime (consA (vM 0) (nilA)))))
noncomputable def m__law_is_fine : DF := bodyM 1 [] 1 b__law_is_fine
theorem c__law_is_fine (Z : FX K mg) {f : Addr} : BodyD PP w K mg base ["_law_thing"] "_law_is_fine" (defScope s__law_is_fine) f 1 (defBody s__law_is_fine) b__law_is_fine := by
  intro cdv A outer s H E hr
  have nd : (["_law_thing"] : List Str).Nodup := by decide +kernel
  have tk : Takes (cxOf (L2.CX PP w) PP w K mg base ["_law_thing"] "_law_is_fine" (defScope s__law_is_fine) f cdv A outer s H E) (fun c d _ H' => E c d H') := takes_of rfl rfl rfl rfl
  have hp := passes_of (X := cxOf (L2.CX PP w) PP w K mg base ["_law_thing"] "_law_is_fine" (defScope s__law_is_fine) f cdv A outer s H E) rfl
  have hu := hr.rm.units
  have hu1 : _ + 1 < cLine := Nat.lt_of_le_of_lt (Nat.add_le_add_left (by decide : 1 ≤ 64) _) hu
  exact (s_one (s_ret (e_and (e_call tk (f__law_is_whole Z) (hr.mono (Nat.le_of_ble_eq_true rfl) : Rm 1 _) rfl (z52 Z) (k__law_is_whole Z) (a_cons (ev 0) a_nil)) (e_and (e_chain o_le o_le v_ord v_ord e_int (ev 0) (e_pow e_int e_int)) (e_one (e_call tk (f__law_is_prime Z) (hr.mono (Nat.le_of_ble_eq_true rfl) : Rm 1 _) rfl (z53 Z) (k__law_is_prime Z) (a_cons (ev 0) a_nil)))))))
theorem f__law_is_fine (Z : FX K mg) : FnD PP w K mg base 2 ((fun K => He.ga K "_law_is_fine") K) m__law_is_fine := by
  obtain ⟨fd, F0⟩ := Z.df 22 (d := d__law_is_fine) rfl rfl
  have F : FunD K "_law_is_fine" "_law_is_fine" (defArgs s__law_is_fine) (defBody s__law_is_fine) (defScope s__law_is_fine) [] [] ((fun K => He.ga K "_law_is_fine") K) fd := cast (by kernel_rfl) F0
  exact fn_ok0 (x := "_law_is_fine") (qual := "_law_is_fine") (params := defArgs s__law_is_fine) (body := defBody s__law_is_fine) (scope := defScope s__law_is_fine) (kws := []) (N := ["_law_thing"]) (ps := ["_law_thing"]) (k := 1) (b := b__law_is_fine) F ⟨by kernel_rfl, by kernel_rfl, by kernel_rfl, by decide +kernel, by kernel_rfl, by decide +kernel, by decide +kernel⟩ (fun _ _ _ _ _ _ us hl => match us, hl with | [_], _ => by kernel_rfl) (c__law_is_fine Z)
theorem k__law_is_fine (Z : FX K mg) : PySem.W.keepIn K (.ref ((fun K => He.ga K "_law_is_fine") K)) = true := Z.keep 22 (d := d__law_is_fine) rfl
noncomputable def b__law_made_field : DS := retS (ifM (blM (binM eqD (vM 0) (cM (.int 0)))) (makeM false "Fractions" m_Fractions___init__ (nilA)) (makeM false "Modulo" m_Modulo___init__ (consA (vM 0) (nilA))))
noncomputable def m__law_made_field : DF := bodyM 1 [] 1 b__law_made_field
theorem c__law_made_field (Z : FX K mg) {f : Addr} : BodyD PP w K mg base ["_law_prime_here"] "_law_made_field" (defScope s__law_made_field) f 5 (defBody s__law_made_field) b__law_made_field := by
  intro cdv A outer s H E hr
  have nd : (["_law_prime_here"] : List Str).Nodup := by decide +kernel
  have tk : Takes (cxOf (L2.CX PP w) PP w K mg base ["_law_prime_here"] "_law_made_field" (defScope s__law_made_field) f cdv A outer s H E) (fun c d _ H' => E c d H') := takes_of rfl rfl rfl rfl
  have hp := passes_of (X := cxOf (L2.CX PP w) PP w K mg base ["_law_prime_here"] "_law_made_field" (defScope s__law_made_field) f cdv A outer s H E) rfl
  have hu := hr.rm.units
  have hu1 : _ + 1 < cLine := Nat.lt_of_le_of_lt (Nat.add_le_add_left (by decide : 1 ≤ 64) _) hu
  exact (s_one (s_ret (e_if (t_eq hu (ev 0) e_int) (e_make0 false tk (z39 Z) (f_Fractions___init___at_Fractions Z) (hr.mono (Nat.le_of_ble_eq_true rfl) : Rm 3 _) rfl (z40 Z)) (e_make false tk (z44 Z) (f_Modulo___init___at_Modulo Z) (hr.mono (Nat.le_of_ble_eq_true rfl) : Rm 5 _) rfl (z45 Z) (a_cons (ev 0) a_nil)))))
theorem f__law_made_field (Z : FX K mg) : FnD PP w K mg base 6 ((fun K => He.ga K "_law_made_field") K) m__law_made_field := by
  obtain ⟨fd, F0⟩ := Z.df 23 (d := d__law_made_field) rfl rfl
  have F : FunD K "_law_made_field" "_law_made_field" (defArgs s__law_made_field) (defBody s__law_made_field) (defScope s__law_made_field) [] [] ((fun K => He.ga K "_law_made_field") K) fd := cast (by kernel_rfl) F0
  exact fn_ok0 (x := "_law_made_field") (qual := "_law_made_field") (params := defArgs s__law_made_field) (body := defBody s__law_made_field) (scope := defScope s__law_made_field) (kws := []) (N := ["_law_prime_here"]) (ps := ["_law_prime_here"]) (k := 5) (b := b__law_made_field) F ⟨by kernel_rfl, by kernel_rfl, by kernel_rfl, by decide +kernel, by kernel_rfl, by decide +kernel, by decide +kernel⟩ (fun _ _ _ _ _ _ us hl => match us, hl with | [_], _ => by kernel_rfl) (c__law_made_field Z)
theorem k__law_made_field (Z : FX K mg) : PySem.W.keepIn K (.ref ((fun K => He.ga K "_law_made_field") K)) = true := Z.keep 23 (d := d__law_made_field) rfl
noncomputable def b__law_pen : DS := retS (dispM [(cM (.str "cells"), argM (listD false) (consA (sliM false (vM 0) (pureM none) (optM (cM (.int 63)))) (nilA))), (cM (.str "begun"), cM (.int 0)), (cM (.str "left"), cM (.int 0))])
noncomputable def m__law_pen : DF := bodyM 1 [] 1 b__law_pen
theorem c__law_pen (Z : FX K mg) {f : Addr} : BodyD PP w K mg base ["_law_script"] "_law_pen" (defScope s__law_pen) f 0 (defBody s__law_pen) b__law_pen := by
  intro cdv A outer s H E hr
  have nd : (["_law_script"] : List Str).Nodup := by decide +kernel
  have tk : Takes (cxOf (L2.CX PP w) PP w K mg base ["_law_script"] "_law_pen" (defScope s__law_pen) f cdv A outer s H E) (fun c d _ H' => E c d H') := takes_of rfl rfl rfl rfl
  have hp := passes_of (X := cxOf (L2.CX PP w) PP w K mg base ["_law_script"] "_law_pen" (defScope s__law_pen) f cdv A outer s H E) rfl
  have hu := hr.rm.units
  have hu1 : _ + 1 < cLine := Nat.lt_of_le_of_lt (Nat.add_le_add_left (by decide : 1 ≤ 64) _) hu
  exact (s_one (s_ret (e_disp (pp_cons e_str (e_callTy call_list_of v_list rfl (z54 Z) (by decide +kernel) (a_cons (e_sli false (ev 0) o_none (o_some e_int)) a_nil)) (pp_cons e_str e_int (pp_cons e_str e_int pp_nil))))))
theorem f__law_pen (Z : FX K mg) : FnD PP w K mg base 1 ((fun K => He.ga K "_law_pen") K) m__law_pen := by
  obtain ⟨fd, F0⟩ := Z.df 24 (d := d__law_pen) rfl rfl
  have F : FunD K "_law_pen" "_law_pen" (defArgs s__law_pen) (defBody s__law_pen) (defScope s__law_pen) [] [] ((fun K => He.ga K "_law_pen") K) fd := cast (by kernel_rfl) F0
  exact fn_ok0 (x := "_law_pen") (qual := "_law_pen") (params := defArgs s__law_pen) (body := defBody s__law_pen) (scope := defScope s__law_pen) (kws := []) (N := ["_law_script"]) (ps := ["_law_script"]) (k := 0) (b := b__law_pen) F ⟨by kernel_rfl, by kernel_rfl, by kernel_rfl, by decide +kernel, by kernel_rfl, by decide +kernel, by decide +kernel⟩ (fun _ _ _ _ _ _ us hl => match us, hl with | [_], _ => by kernel_rfl) (c__law_pen Z)
theorem k__law_pen (Z : FX K mg) : PySem.W.keepIn K (.ref ((fun K => He.ga K "_law_pen") K)) = true := Z.keep 24 (d := d__law_pen) rfl
noncomputable def b__law_prime : DS := retS (callM m__law_pick (consA (vM 0) (consA (argM (lstD false) (consA (cM (.int 2)) (consA (cM (.int 2)) (consA (cM (.int 3)) (consA (cM (.int 3)) (consA (cM (.int 5)) (consA (cM (.int 7)) (consA (cM (.int 101)) (consA (cM (.int 1000003)) (nilA)))))))))) (nilA))))
noncomputable def m__law_prime : DF := bodyM 1 [] 1 b__law_prime
theorem c__law_prime (Z : FX K mg) {f : Addr} : BodyD PP w K mg base ["_law_pen_here"] "_law_prime" (defScope s__law_prime) f 2 (defBody s__law_prime) b__law_prime := by
  intro cdv A outer s H E hr
  have nd : (["_law_pen_here"] : List Str).Nodup := by decide +kernel
  have tk : Takes (cxOf (L2.CX PP w) PP w K mg base ["_law_pen_here"] "_law_prime" (defScope s__law_prime) f cdv A outer s H E) (fun c d _ H' => E c d H') := takes_of rfl rfl rfl rfl
  have hp := passes_of (X := cxOf (L2.CX PP w) PP w K mg base ["_law_pen_here"] "_law_prime" (defScope s__law_prime) f cdv A outer s H E) rfl
  have hu := hr.rm.units
  have hu1 : _ + 1 < cLine := Nat.lt_of_le_of_lt (Nat.add_le_add_left (by decide : 1 ≤ 64) _) hu
  exact (s_one (s_ret (e_call tk (f__law_pick Z) (hr.mono (Nat.le_of_ble_eq_true rfl) : Rm 2 _) rfl (z50 Z) (k__law_pick Z) (a_cons (ev 0) (a_cons (e_lst false (a_cons e_int (a_cons e_int (a_cons e_int (a_cons e_int (a_cons e_int (a_cons e_int (a_cons e_int (a_cons e_int a_nil))))))))) a_nil)))))
theorem f__law_prime (Z : FX K mg) : FnD PP w K mg base 3 ((fun K => He.ga K "_law_prime") K) m__law_prime := by
  obtain ⟨fd, F0⟩ := Z.df 25 (d := d__law_prime) rfl rfl
  have F : FunD K "_law_prime" "_law_prime" (defArgs s__law_prime) (defBody s__law_prime) (defScope s__law_prime) [] [] ((fun K => He.ga K "_law_prime") K) fd := cast (by kernel_rfl) F0
  exact fn_ok0 (x := "_law_prime") (qual := "_law_prime") (params := defArgs s__law_prime) (body := defBody s__law_prime) (scope := defScope s__law_prime) (kws := []) (N := ["_law_pen_here"]) (ps := ["_law_pen_here"]) (k := 2) (b := b__law_prime) F ⟨by kernel_rfl, by kernel_rfl, by kernel_rfl, by decide +kernel, by kernel_rfl, by decide +kernel, by decide +kernel⟩ (fun _ _ _ _ _ _ us hl => match us, hl with | [_], _ => by kernel_rfl) (c__law_prime Z)
theorem k__law_prime (Z : FX K mg) : PySem.W.keepIn K (.ref ((fun K => He.ga K "_law_prime") K)) = true := Z.keep 25 (d := d__law_prime) rfl
noncomputable def b__law_read : DS := tryAsS 1 "InvalidText" (retS (callM m_Field_named (consA (vM 0) (nilA)))) [("InvalidPrime", false), ("InvalidText", true)] (fun a d fs => retS (ifM (blM (binM eqD (argM (reprX) (consA (exnM a d "line" (vM 1)) (nilA))) (cM (.str "0")))) (cM (.str "none")) (cM (.str "odd"))))
noncomputable def m__law_read : DF := bodyM 1 [] 2 b__law_read
theorem c__law_read (Z : FX K mg) {f : Addr} : BodyD PP w K mg base ["_law_text", "e"] "_law_read" (defScope s__law_read) f 6 (defBody s__law_read) b__law_read := by
  intro cdv A outer s H E hr
  have nd : (["_law_text", "e"] : List Str).Nodup := by decide +kernel
  have tk : Takes (cxOf (L2.CX PP w) PP w K mg base ["_law_text", "e"] "_law_read" (defScope s__law_read) f cdv A outer s H E) (fun c d _ H' => E c d H') := takes_of rfl rfl rfl rfl
  have hp := passes_of (X := cxOf (L2.CX PP w) PP w K mg base ["_law_text", "e"] "_law_read" (defScope s__law_read) f cdv A outer s H E) rfl
  have hu := hr.rm.units
  have hu1 : _ + 1 < cLine := Nat.lt_of_le_of_lt (Nat.add_le_add_left (by decide : 1 ≤ 64) _) hu
  exact (s_one (s_tryAs rfl rfl nd rfl rfl ⟨rfl, by decide, .inl (z38 Z)⟩ tk (z57 Z) (fun W' pn xe tk' hp => (s_one (s_ret (e_smeth tk' (z55 Z) (z56 Z) (f_Field_named Z) (hr.mono (Nat.le_of_ble_eq_true rfl) : Rm 6 _) rfl (z5 Z) (a_cons (ev 0) a_nil))))) (fun a oe d pn fs hz hf => (s_one (s_ret (e_if (t_eq hu (e_callB (call_reprX (z59 Z) hr.gd hu) v_reprX rfl (z60 Z) (by decide +kernel) (a_cons (e_exn (xf_of (z58 Z)) (z4 Z) hz hf (ev 1)) a_nil)) e_str) e_str e_str))))))
theorem f__law_read (Z : FX K mg) : FnD PP w K mg base 7 ((fun K => He.ga K "_law_read") K) m__law_read := by
  obtain ⟨fd, F0⟩ := Z.df 26 (d := d__law_read) rfl rfl
  have F : FunD K "_law_read" "_law_read" (defArgs s__law_read) (defBody s__law_read) (defScope s__law_read) [] [] ((fun K => He.ga K "_law_read") K) fd := cast (by kernel_rfl) F0
  exact fn_ok0 (x := "_law_read") (qual := "_law_read") (params := defArgs s__law_read) (body := defBody s__law_read) (scope := defScope s__law_read) (kws := []) (N := ["_law_text", "e"]) (ps := ["_law_text"]) (k := 6) (b := b__law_read) F ⟨by kernel_rfl, by kernel_rfl, by kernel_rfl, by decide +kernel, by kernel_rfl, by decide +kernel, by decide +kernel⟩ (fun _ _ _ _ _ _ us hl => match us, hl with | [_], _ => by kernel_rfl) (c__law_read Z)
theorem k__law_read (Z : FX K mg) : PySem.W.keepIn K (.ref ((fun K => He.ga K "_law_read") K)) = true := Z.keep 26 (d := d__law_read) rfl
noncomputable def b__law_refused : DS := seqS (tryAsS 1 "InvalidPrime" (exprS (makeM false "Modulo" m_Modulo___init__ (consA (vM 0) (nilA)))) [("InvalidPrime", true), ("InvalidText", false)] (fun a d fs => retS (andV ((binM eqD (argM (reprX) (consA (exnM a d "value" (vM 1)) (nilA))) (argM (reprX) (consA (vM 0) (nilA))))) (argM (isxD a d [("ValueError", true), ("LookupError", false), ("ArithmeticError", false), ("OverflowError", false), ("RuntimeError", false)]) (consA (vM 1) (consA (cM (.ty "ValueError")) (nilA))))))) (retS (cM (.bl false)))
noncomputable def m__law_refused : DF := bodyM 1 [] 2 b__law_refused
theorem c__law_refused (Z : FX K mg) {f : Addr} : BodyD PP w K mg base ["_law_thing", "e"] "_law_refused" (defScope s__law_refused) f 5 (defBody s__law_refused) b__law_refused := by
  intro cdv A outer s H E hr
  have nd : (["_law_thing", "e"] : List Str).Nodup := by decide +kernel
  have tk : Takes (cxOf (L2.CX PP w) PP w K mg base ["_law_thing", "e"] "_law_refused" (defScope s__law_refused) f cdv A outer s H E) (fun c d _ H' => E c d H') := takes_of rfl rfl rfl rfl
  have hp := passes_of (X := cxOf (L2.CX PP w) PP w K mg base ["_law_thing", "e"] "_law_refused" (defScope s__law_refused) f cdv A outer s H E) rfl
  have hu := hr.rm.units
  have hu1 : _ + 1 < cLine := Nat.lt_of_le_of_lt (Nat.add_le_add_left (by decide : 1 ≤ 64) _) hu
  exact (s_cons (s_tryAs rfl rfl nd rfl rfl ⟨rfl, by decide, .inl (z35 Z)⟩ tk (z61 Z) (fun W' pn xe tk' hp => (s_one (s_expr (e_make false tk' (z44 Z) (f_Modulo___init___at_Modulo Z) (hr.mono (Nat.le_of_ble_eq_true rfl) : Rm 5 _) rfl (z45 Z) (a_cons (ev 0) a_nil))))) (fun a oe d pn fs hz hf => (s_one (s_ret (e_and (e_eq hu (e_callB (call_reprX (z59 Z) hr.gd hu) v_reprX rfl (z60 Z) (by decide +kernel) (a_cons (e_exn (xf_of (z62 Z)) (z2 Z) hz hf (ev 1)) a_nil)) (e_callB (call_reprX (z59 Z) hr.gd hu) v_reprX rfl (z60 Z) (by decide +kernel) (a_cons (ev 0) a_nil))) (e_one (e_callB (call_isX (z62 Z) hz hf) (v_isx (z63 Z)) rfl (z6 Z) (by decide +kernel) (a_cons (ev 1) (a_cons (e_ty (n := "ValueError") rfl (z0 Z) (by decide +kernel)) a_nil)))))))))
    (s_one (s_ret e_bl)))
theorem f__law_refused (Z : FX K mg) : FnD PP w K mg base 6 ((fun K => He.ga K "_law_refused") K) m__law_refused := by
  obtain ⟨fd, F0⟩ := Z.df 27 (d := d__law_refused) rfl rfl
  have F : FunD K "_law_refused" "_law_refused" (defArgs s__law_refused) (defBody s__law_refused) (defScope s__law_refused) [] [] ((fun K => He.ga K "_law_refused") K) fd := cast (by kernel_rfl) F0
  exact fn_ok0 (x := "_law_refused") (qual := "_law_refused") (params := defArgs s__law_refused) (body := defBody s__law_refused) (scope := defScope s__law_refused) (kws := []) (N := ["_law_thing", "e"]) (ps := ["_law_thing"]) (k := 5) (b := b__law_refused) F ⟨by kernel_rfl, by kernel_rfl, by kernel_rfl, by decide +kernel, by kernel_rfl, by decide +kernel, by decide +kernel⟩ (fun _ _ _ _ _ _ us hl => match us, hl with | [_], _ => by kernel_rfl) (c__law_refused Z)
theorem k__law_refused (Z : FX K mg) : PySem.W.keepIn K (.ref ((fun K => He.ga K "_law_refused") K)) = true := Z.keep 27 (d := d__law_refused) rfl
noncomputable def b_law : DS := seqS (setS 1 (callM m__law_pen (consA (vM 0) (nilA)))) (seqS (setS 2 (makeM false "Fractions" m_Fractions___init__ (nilA))) (seqS (ifS (orT (blM (binM isNotNoneD (attrM [("Fractions", .prop (noxF m_Field_prime)), ("Modulo", .prop (noxF m_Field_prime))] "prime" (vM 2)) (cM .non))) (orT (blM (binM (eqP true [(("Fractions", "int"), m_Field___eq__), (("Fractions", "str"), m_Field___eq__), (("Fractions", "list"), m_Field___eq__), (("Modulo", "int"), m_Field___eq__), (("Modulo", "str"), m_Field___eq__), (("Modulo", "list"), m_Field___eq__)] (eqO true [(("Fractions", "Fractions"), m_Field___eq__), (("Fractions", "Modulo"), m_Field___eq__), (("Modulo", "Fractions"), m_Field___eq__), (("Modulo", "Modulo"), m_Field___eq__)])) (attrM [("Fractions", .prop (noxF m_Field_name)), ("Modulo", .prop (noxF m_Field_name))] "name" (vM 2)) (cM (.str "fractions")))) (orT (blM (binM (eqP true [(("Fractions", "int"), m_Field___eq__), (("Fractions", "str"), m_Field___eq__), (("Fractions", "list"), m_Field___eq__), (("Modulo", "int"), m_Field___eq__), (("Modulo", "str"), m_Field___eq__), (("Modulo", "list"), m_Field___eq__)] (eqO true [(("Fractions", "Fractions"), m_Field___eq__), (("Fractions", "Modulo"), m_Field___eq__), (("Modulo", "Fractions"), m_Field___eq__), (("Modulo", "Modulo"), m_Field___eq__)])) (vM 2) (makeM false "Fractions" m_Fractions___init__ (nilA)))) (notT (truM (argM (isiD it0) (consA (vM 2) (consA (cM (.glo "Field")) (nilA))))))))) (retS (cM (.bl false))) (skipS)) (seqS (ifS (blM (binM (eqP true [(("Fractions", "int"), m_Field___eq__), (("Fractions", "str"), m_Field___eq__), (("Fractions", "list"), m_Field___eq__), (("Modulo", "int"), m_Field___eq__), (("Modulo", "str"), m_Field___eq__), (("Modulo", "list"), m_Field___eq__)] (eqO true [(("Fractions", "Fractions"), m_Field___eq__), (("Fractions", "Modulo"), m_Field___eq__), (("Modulo", "Fractions"), m_Field___eq__), (("Modulo", "Modulo"), m_Field___eq__)])) (argM (reprX) (consA (argM (lstD false) (consA (cM (.int 100)) (consA (attrM [("Fractions", .con (.int 100)), ("Modulo", .con (.int 100))] "DIGITS" (vM 2)) (consA (attrM [("Fractions", .con (.int 100)), ("Modulo", .con (.int 100))] "DIGITS" (makeM false "Modulo" m_Modulo___init__ (consA (cM (.int 7)) (nilA)))) (nilA))))) (nilA))) (cM (.str "[100, 100, 100]")))) (retS (cM (.bl false))) (skipS)) (seqS (forS (argI rangeD1 (consA (binM addD (cM (.int 6)) (argM (min2D) (consA (cM (.int 6)) (consA (argM (lenD) (consA (vM 0) (nilA))) (nilA))))) (nilA))) (nameG 3) (seqS (setS 4 (callM m__law_drawn_prime (consA (vM 1) (nilA)))) (seqS (ifS (notT (truM (callM m__law_is_fine (consA (vM 4) (nilA))))) (ifS (notT (truM (callM m__law_refused (consA (vM 4) (nilA))))) (retS (cM (.bl false))) (skipS)) (ifS (blM (binM (eqP true [(("Fractions", "int"), m_Field___eq__), (("Fractions", "str"), m_Field___eq__), (("Fractions", "list"), m_Field___eq__), (("Modulo", "int"), m_Field___eq__), (("Modulo", "str"), m_Field___eq__), (("Modulo", "list"), m_Field___eq__)] (eqO true [(("Fractions", "Fractions"), m_Field___eq__), (("Fractions", "Modulo"), m_Field___eq__), (("Modulo", "Fractions"), m_Field___eq__), (("Modulo", "Modulo"), m_Field___eq__)])) (argM (reprX) (consA (argM (lstD false) (consA (attrM [("Fractions", .prop (noxF m_Field_prime)), ("Modulo", .prop (noxF m_Field_prime))] "prime" (makeM false "Modulo" m_Modulo___init__ (consA (vM 4) (nilA)))) (consA (attrM [("Fractions", .prop (noxF m_Field_name)), ("Modulo", .prop (noxF m_Field_name))] "name" (makeM false "Modulo" m_Modulo___init__ (consA (vM 4) (nilA)))) (nilA)))) (nilA))) (argM (reprX) (consA (argM (lstD false) (consA (vM 4) (consA (binM addD (cM (.str "modulo ")) (argM (strXD) (consA (vM 4) (nilA)))) (nilA)))) (nilA))))) (retS (cM (.bl false))) (skipS))) (seqS (par2S 8 9 (consA (callM m__law_prime (consA (vM 1) (nilA))) (consA (callM m__law_prime (consA (vM 1) (nilA))) (nilA)))) (seqS (setS 5 (makeM false "Modulo" m_Modulo___init__ (consA (vM 8) (nilA)))) (seqS (ifS (orT (blM (binM (eqP true [(("Fractions", "int"), m_Field___eq__), (("Fractions", "str"), m_Field___eq__), (("Fractions", "list"), m_Field___eq__), (("Modulo", "int"), m_Field___eq__), (("Modulo", "str"), m_Field___eq__), (("Modulo", "list"), m_Field___eq__)] (eqO true [(("Fractions", "Fractions"), m_Field___eq__), (("Fractions", "Modulo"), m_Field___eq__), (("Modulo", "Fractions"), m_Field___eq__), (("Modulo", "Modulo"), m_Field___eq__)])) ((binM (eqP false [(("Fractions", "int"), m_Field___eq__), (("Fractions", "str"), m_Field___eq__), (("Fractions", "list"), m_Field___eq__), (("Modulo", "int"), m_Field___eq__), (("Modulo", "str"), m_Field___eq__), (("Modulo", "list"), m_Field___eq__)] (eqO false [(("Fractions", "Fractions"), m_Field___eq__), (("Fractions", "Modulo"), m_Field___eq__), (("Modulo", "Fractions"), m_Field___eq__), (("Modulo", "Modulo"), m_Field___eq__)])) (vM 5) (makeM false "Modulo" m_Modulo___init__ (consA (vM 9) (nilA))))) ((binM (eqP false [(("Fractions", "int"), m_Field___eq__), (("Fractions", "str"), m_Field___eq__), (("Fractions", "list"), m_Field___eq__), (("Modulo", "int"), m_Field___eq__), (("Modulo", "str"), m_Field___eq__), (("Modulo", "list"), m_Field___eq__)] (eqO false [(("Fractions", "Fractions"), m_Field___eq__), (("Fractions", "Modulo"), m_Field___eq__), (("Modulo", "Fractions"), m_Field___eq__), (("Modulo", "Modulo"), m_Field___eq__)])) (vM 8) (vM 9))))) (blM (binM (eqP true [(("Fractions", "int"), m_Field___eq__), (("Fractions", "str"), m_Field___eq__), (("Fractions", "list"), m_Field___eq__), (("Modulo", "int"), m_Field___eq__), (("Modulo", "str"), m_Field___eq__), (("Modulo", "list"), m_Field___eq__)] (eqO true [(("Fractions", "Fractions"), m_Field___eq__), (("Fractions", "Modulo"), m_Field___eq__), (("Modulo", "Fractions"), m_Field___eq__), (("Modulo", "Modulo"), m_Field___eq__)])) ((binM (eqP true [(("Fractions", "int"), m_Field___eq__), (("Fractions", "str"), m_Field___eq__), (("Fractions", "list"), m_Field___eq__), (("Modulo", "int"), m_Field___eq__), (("Modulo", "str"), m_Field___eq__), (("Modulo", "list"), m_Field___eq__)] (eqO true [(("Fractions", "Fractions"), m_Field___eq__), (("Fractions", "Modulo"), m_Field___eq__), (("Modulo", "Fractions"), m_Field___eq__), (("Modulo", "Modulo"), m_Field___eq__)])) (vM 5) (makeM false "Modulo" m_Modulo___init__ (consA (vM 9) (nilA))))) ((binM (eqP true [(("Fractions", "int"), m_Field___eq__), (("Fractions", "str"), m_Field___eq__), (("Fractions", "list"), m_Field___eq__), (("Modulo", "int"), m_Field___eq__), (("Modulo", "str"), m_Field___eq__), (("Modulo", "list"), m_Field___eq__)] (eqO true [(("Fractions", "Fractions"), m_Field___eq__), (("Fractions", "Modulo"), m_Field___eq__), (("Modulo", "Fractions"), m_Field___eq__), (("Modulo", "Modulo"), m_Field___eq__)])) (vM 8) (vM 9)))))) (retS (cM (.bl false))) (skipS)) (seqS (ifS (blM (binM (eqP false [(("Fractions", "int"), m_Field___eq__), (("Fractions", "str"), m_Field___eq__), (("Fractions", "list"), m_Field___eq__), (("Modulo", "int"), m_Field___eq__), (("Modulo", "str"), m_Field___eq__), (("Modulo", "list"), m_Field___eq__)] (eqO false [(("Fractions", "Fractions"), m_Field___eq__), (("Fractions", "Modulo"), m_Field___eq__), (("Modulo", "Fractions"), m_Field___eq__), (("Modulo", "Modulo"), m_Field___eq__)])) (vM 5) (vM 2))) (retS (cM (.bl false))) (skipS)) (seqS (ifS (orT (notT (truM (argM (isiD it0) (consA (vM 5) (consA (cM (.glo "Field")) (nilA)))))) (orT (blM (binM (eqP false [(("Fractions", "int"), m_Field___eq__), (("Fractions", "str"), m_Field___eq__), (("Fractions", "list"), m_Field___eq__), (("Modulo", "int"), m_Field___eq__), (("Modulo", "str"), m_Field___eq__), (("Modulo", "list"), m_Field___eq__)] (eqO false [(("Fractions", "Fractions"), m_Field___eq__), (("Fractions", "Modulo"), m_Field___eq__), (("Modulo", "Fractions"), m_Field___eq__), (("Modulo", "Modulo"), m_Field___eq__)])) (vM 5) (vM 8))) (orT (blM (binM (eqP false [(("Fractions", "int"), m_Field___eq__), (("Fractions", "str"), m_Field___eq__), (("Fractions", "list"), m_Field___eq__), (("Modulo", "int"), m_Field___eq__), (("Modulo", "str"), m_Field___eq__), (("Modulo", "list"), m_Field___eq__)] (eqO false [(("Fractions", "Fractions"), m_Field___eq__), (("Fractions", "Modulo"), m_Field___eq__), (("Modulo", "Fractions"), m_Field___eq__), (("Modulo", "Modulo"), m_Field___eq__)])) (vM 5) (attrM [("Fractions", .prop (noxF m_Field_name)), ("Modulo", .prop (noxF m_Field_name))] "name" (vM 5)))) (blM (binM (eqP false [(("Fractions", "int"), m_Field___eq__), (("Fractions", "str"), m_Field___eq__), (("Fractions", "list"), m_Field___eq__), (("Modulo", "int"), m_Field___eq__), (("Modulo", "str"), m_Field___eq__), (("Modulo", "list"), m_Field___eq__)] (eqO false [(("Fractions", "Fractions"), m_Field___eq__), (("Fractions", "Modulo"), m_Field___eq__), (("Modulo", "Fractions"), m_Field___eq__), (("Modulo", "Modulo"), m_Field___eq__)])) (vM 2) (argM (lstD false) (consA (cM (.int 0)) (nilA)))))))) (retS (cM (.bl false))) (skipS)) (seqS (asgS (callM m__law_bent_name (consA (vM 1) (consA (vM 8) (nilA)))) (tupG 2 (consG (nameG 10) (consG (nameG 11) (nilG))))) (seqS (setS 6 (callM m__law_read (consA (vM 10) (nilA)))) (seqS (ifS (blM (binM (eqP true [(("Fractions", "int"), m_Field___eq__), (("Fractions", "str"), m_Field___eq__), (("Fractions", "list"), m_Field___eq__), (("Modulo", "int"), m_Field___eq__), (("Modulo", "str"), m_Field___eq__), (("Modulo", "list"), m_Field___eq__)] (eqO true [(("Fractions", "Fractions"), m_Field___eq__), (("Fractions", "Modulo"), m_Field___eq__), (("Modulo", "Fractions"), m_Field___eq__), (("Modulo", "Modulo"), m_Field___eq__)])) (vM 6) (ifM (blM (binM isNoneD (vM 11) (cM .non))) (cM (.str "none")) (callM m__law_made_field (consA (vM 11) (nilA)))))) (retS (cM (.bl false))) (skipS)) (seqS (setS 7 (callM m__law_odd (consA (vM 1) (nilA)))) (ifS (andT (blM (binM (inTx true) (vM 7) (argM (lstD false) (consA (cM (.str "fractions")) (consA (cM (.str "modulo 7")) (nilA)))))) (blM (binM (eqP true [(("Fractions", "int"), m_Field___eq__), (("Fractions", "str"), m_Field___eq__), (("Fractions", "list"), m_Field___eq__), (("Modulo", "int"), m_Field___eq__), (("Modulo", "str"), m_Field___eq__), (("Modulo", "list"), m_Field___eq__)] (eqO true [(("Fractions", "Fractions"), m_Field___eq__), (("Fractions", "Modulo"), m_Field___eq__), (("Modulo", "Fractions"), m_Field___eq__), (("Modulo", "Modulo"), m_Field___eq__)])) (callM m__law_read (consA (vM 7) (nilA))) (cM (.str "none"))))) (retS (cM (.bl false))) (skipS)))))))))))))) (retS (cM (.bl true)))))))
noncomputable def m_law : DF := bodyM 1 [] 12 b_law
theorem c_law (Z : FX K mg) {f : Addr} : BodyD PP w K mg base ["_law_script", "_law_pen_here", "_law_whole", "_law_turn", "_law_thing", "_law_field", "_law_told", "_law_odd_here", "_law_prime_here", "_law_other", "_law_text", "_law_due"] "law" (defScope s_law) f 7 (defBody s_law) b_law := by
  intro cdv A outer s H E hr
  have nd : (["_law_script", "_law_pen_here", "_law_whole", "_law_turn", "_law_thing", "_law_field", "_law_told", "_law_odd_here", "_law_prime_here", "_law_other", "_law_text", "_law_due"] : List Str).Nodup := by decide +kernel
  have tk : Takes (cxOf (L2.CX PP w) PP w K mg base ["_law_script", "_law_pen_here", "_law_whole", "_law_turn", "_law_thing", "_law_field", "_law_told", "_law_odd_here", "_law_prime_here", "_law_other", "_law_text", "_law_due"] "law" (defScope s_law) f cdv A outer s H E) (fun c d _ H' => E c d H') := takes_of rfl rfl rfl rfl
  have hp := passes_of (X := cxOf (L2.CX PP w) PP w K mg base ["_law_script", "_law_pen_here", "_law_whole", "_law_turn", "_law_thing", "_law_field", "_law_told", "_law_odd_here", "_law_prime_here", "_law_other", "_law_text", "_law_due"] "law" (defScope s_law) f cdv A outer s H E) rfl
  have hu := hr.rm.units
  have hu1 : _ + 1 < cLine := Nat.lt_of_le_of_lt (Nat.add_le_add_left (by decide : 1 ≤ 64) _) hu
  exact (s_cons (s_set nd rfl (by first | exact .inl rfl | exact .inr rfl) (e_call tk (f__law_pen Z) (hr.mono (Nat.le_of_ble_eq_true rfl) : Rm 1 _) rfl (z64 Z) (k__law_pen Z) (a_cons (ev 0) a_nil)))
    (s_cons (s_set nd rfl (by first | exact .inl rfl | exact .inr rfl) (e_make0 false tk (z39 Z) (f_Fractions___init___at_Fractions Z) (hr.mono (Nat.le_of_ble_eq_true rfl) : Rm 3 _) rfl (z40 Z)))
    (s_cons (s_if (PW.pt (w_or (t_notN (e_attr (.prop ⟨(z9 Z), _, _, 1, (z66 Z), FnD.nox (f_Field_prime_at_Fractions Z), (hr.mono (Nat.le_of_ble_eq_true rfl) : Rm 2 _)⟩ noxF_ne (.prop ⟨(z7 Z), _, _, 1, (z65 Z), FnD.nox (f_Field_prime_at_Modulo Z), (hr.mono (Nat.le_of_ble_eq_true rfl) : Rm 2 _)⟩ noxF_ne .nil)) (ev 2)) e_non) (w_or (t_nePO tk hu (.cons ⟨(z9 Z), _, 1, (z73 Z), f_Field___eq___at_Fractions Z, (hr.mono (Nat.le_of_ble_eq_true rfl) : Rm 1 _)⟩ ⟨1, fun _ => ⟨⟨_, (z73 Z), f_Field___eq___at_Fractions Z, (hr.mono (Nat.le_of_ble_eq_true rfl) : Rm 2 _)⟩, (z74 Z)⟩⟩ (z76 Z) (.cons ⟨(z9 Z), _, 1, (z73 Z), f_Field___eq___at_Fractions Z, (hr.mono (Nat.le_of_ble_eq_true rfl) : Rm 1 _)⟩ ⟨1, fun _ => ⟨⟨_, (z73 Z), f_Field___eq___at_Fractions Z, (hr.mono (Nat.le_of_ble_eq_true rfl) : Rm 2 _)⟩, (z74 Z)⟩⟩ (z75 Z) (.cons ⟨(z7 Z), _, 1, (z69 Z), f_Field___eq___at_Modulo Z, (hr.mono (Nat.le_of_ble_eq_true rfl) : Rm 1 _)⟩ ⟨1, fun _ => ⟨⟨_, (z69 Z), f_Field___eq___at_Modulo Z, (hr.mono (Nat.le_of_ble_eq_true rfl) : Rm 2 _)⟩, (z70 Z)⟩⟩ (z72 Z) (.cons ⟨(z7 Z), _, 1, (z69 Z), f_Field___eq___at_Modulo Z, (hr.mono (Nat.le_of_ble_eq_true rfl) : Rm 1 _)⟩ ⟨1, fun _ => ⟨⟨_, (z69 Z), f_Field___eq___at_Modulo Z, (hr.mono (Nat.le_of_ble_eq_true rfl) : Rm 2 _)⟩, (z70 Z)⟩⟩ (z71 Z) .nil)))) (.cons ⟨(z9 Z), _, 1, (z73 Z), f_Field___eq___at_Fractions Z, (hr.mono (Nat.le_of_ble_eq_true rfl) : Rm 1 _)⟩ ⟨1, fun _ => ⟨⟨_, (z73 Z), f_Field___eq___at_Fractions Z, (hr.mono (Nat.le_of_ble_eq_true rfl) : Rm 2 _)⟩, (z74 Z)⟩⟩ (z82 Z) (.cons ⟨(z9 Z), _, 1, (z73 Z), f_Field___eq___at_Fractions Z, (hr.mono (Nat.le_of_ble_eq_true rfl) : Rm 1 _)⟩ ⟨1, fun _ => ⟨⟨_, (z73 Z), f_Field___eq___at_Fractions Z, (hr.mono (Nat.le_of_ble_eq_true rfl) : Rm 2 _)⟩, (z74 Z)⟩⟩ (z81 Z) (.cons ⟨(z9 Z), _, 1, (z73 Z), f_Field___eq___at_Fractions Z, (hr.mono (Nat.le_of_ble_eq_true rfl) : Rm 1 _)⟩ ⟨1, fun _ => ⟨⟨_, (z73 Z), f_Field___eq___at_Fractions Z, (hr.mono (Nat.le_of_ble_eq_true rfl) : Rm 2 _)⟩, (z74 Z)⟩⟩ (z80 Z) (.cons ⟨(z7 Z), _, 1, (z69 Z), f_Field___eq___at_Modulo Z, (hr.mono (Nat.le_of_ble_eq_true rfl) : Rm 1 _)⟩ ⟨1, fun _ => ⟨⟨_, (z69 Z), f_Field___eq___at_Modulo Z, (hr.mono (Nat.le_of_ble_eq_true rfl) : Rm 2 _)⟩, (z70 Z)⟩⟩ (z79 Z) (.cons ⟨(z7 Z), _, 1, (z69 Z), f_Field___eq___at_Modulo Z, (hr.mono (Nat.le_of_ble_eq_true rfl) : Rm 1 _)⟩ ⟨1, fun _ => ⟨⟨_, (z69 Z), f_Field___eq___at_Modulo Z, (hr.mono (Nat.le_of_ble_eq_true rfl) : Rm 2 _)⟩, (z70 Z)⟩⟩ (z78 Z) (.cons ⟨(z7 Z), _, 1, (z69 Z), f_Field___eq___at_Modulo Z, (hr.mono (Nat.le_of_ble_eq_true rfl) : Rm 1 _)⟩ ⟨1, fun _ => ⟨⟨_, (z69 Z), f_Field___eq___at_Modulo Z, (hr.mono (Nat.le_of_ble_eq_true rfl) : Rm 2 _)⟩, (z70 Z)⟩⟩ (z77 Z) .nil)))))) (e_attr (.prop ⟨(z9 Z), _, _, 1, (z68 Z), FnD.nox (f_Field_name_at_Fractions Z), (hr.mono (Nat.le_of_ble_eq_true rfl) : Rm 2 _)⟩ noxF_ne (.prop ⟨(z7 Z), _, _, 1, (z67 Z), FnD.nox (f_Field_name_at_Modulo Z), (hr.mono (Nat.le_of_ble_eq_true rfl) : Rm 2 _)⟩ noxF_ne .nil)) (ev 2)) e_str) (w_or (t_nePO tk hu (.cons ⟨(z9 Z), _, 1, (z73 Z), f_Field___eq___at_Fractions Z, (hr.mono (Nat.le_of_ble_eq_true rfl) : Rm 1 _)⟩ ⟨1, fun _ => ⟨⟨_, (z73 Z), f_Field___eq___at_Fractions Z, (hr.mono (Nat.le_of_ble_eq_true rfl) : Rm 2 _)⟩, (z74 Z)⟩⟩ (z76 Z) (.cons ⟨(z9 Z), _, 1, (z73 Z), f_Field___eq___at_Fractions Z, (hr.mono (Nat.le_of_ble_eq_true rfl) : Rm 1 _)⟩ ⟨1, fun _ => ⟨⟨_, (z73 Z), f_Field___eq___at_Fractions Z, (hr.mono (Nat.le_of_ble_eq_true rfl) : Rm 2 _)⟩, (z74 Z)⟩⟩ (z75 Z) (.cons ⟨(z7 Z), _, 1, (z69 Z), f_Field___eq___at_Modulo Z, (hr.mono (Nat.le_of_ble_eq_true rfl) : Rm 1 _)⟩ ⟨1, fun _ => ⟨⟨_, (z69 Z), f_Field___eq___at_Modulo Z, (hr.mono (Nat.le_of_ble_eq_true rfl) : Rm 2 _)⟩, (z70 Z)⟩⟩ (z72 Z) (.cons ⟨(z7 Z), _, 1, (z69 Z), f_Field___eq___at_Modulo Z, (hr.mono (Nat.le_of_ble_eq_true rfl) : Rm 1 _)⟩ ⟨1, fun _ => ⟨⟨_, (z69 Z), f_Field___eq___at_Modulo Z, (hr.mono (Nat.le_of_ble_eq_true rfl) : Rm 2 _)⟩, (z70 Z)⟩⟩ (z71 Z) .nil)))) (.cons ⟨(z9 Z), _, 1, (z73 Z), f_Field___eq___at_Fractions Z, (hr.mono (Nat.le_of_ble_eq_true rfl) : Rm 1 _)⟩ ⟨1, fun _ => ⟨⟨_, (z73 Z), f_Field___eq___at_Fractions Z, (hr.mono (Nat.le_of_ble_eq_true rfl) : Rm 2 _)⟩, (z74 Z)⟩⟩ (z82 Z) (.cons ⟨(z9 Z), _, 1, (z73 Z), f_Field___eq___at_Fractions Z, (hr.mono (Nat.le_of_ble_eq_true rfl) : Rm 1 _)⟩ ⟨1, fun _ => ⟨⟨_, (z73 Z), f_Field___eq___at_Fractions Z, (hr.mono (Nat.le_of_ble_eq_true rfl) : Rm 2 _)⟩, (z74 Z)⟩⟩ (z81 Z) (.cons ⟨(z9 Z), _, 1, (z73 Z), f_Field___eq___at_Fractions Z, (hr.mono (Nat.le_of_ble_eq_true rfl) : Rm 1 _)⟩ ⟨1, fun _ => ⟨⟨_, (z73 Z), f_Field___eq___at_Fractions Z, (hr.mono (Nat.le_of_ble_eq_true rfl) : Rm 2 _)⟩, (z74 Z)⟩⟩ (z80 Z) (.cons ⟨(z7 Z), _, 1, (z69 Z), f_Field___eq___at_Modulo Z, (hr.mono (Nat.le_of_ble_eq_true rfl) : Rm 1 _)⟩ ⟨1, fun _ => ⟨⟨_, (z69 Z), f_Field___eq___at_Modulo Z, (hr.mono (Nat.le_of_ble_eq_true rfl) : Rm 2 _)⟩, (z70 Z)⟩⟩ (z79 Z) (.cons ⟨(z7 Z), _, 1, (z69 Z), f_Field___eq___at_Modulo Z, (hr.mono (Nat.le_of_ble_eq_true rfl) : Rm 1 _)⟩ ⟨1, fun _ => ⟨⟨_, (z69 Z), f_Field___eq___at_Modulo Z, (hr.mono (Nat.le_of_ble_eq_true rfl) : Rm 2 _)⟩, (z70 Z)⟩⟩ (z78 Z) (.cons ⟨(z7 Z), _, 1, (z69 Z), f_Field___eq___at_Modulo Z, (hr.mono (Nat.le_of_ble_eq_true rfl) : Rm 1 _)⟩ ⟨1, fun _ => ⟨⟨_, (z69 Z), f_Field___eq___at_Modulo Z, (hr.mono (Nat.le_of_ble_eq_true rfl) : Rm 2 _)⟩, (z70 Z)⟩⟩ (z77 Z) .nil)))))) (ev 2) (e_make0 false tk (z39 Z) (f_Fractions___init___at_Fractions Z) (hr.mono (Nat.le_of_ble_eq_true rfl) : Rm 3 _) rfl (z40 Z))) (w_or1 (t_not (t_truth (e_callB call_isi (v_isi (z_isi Z)) rfl (z6 Z) (by decide +kernel) (a_cons (ev 2) (a_cons (e_glo rfl (z5 Z)) a_nil)))))))))) (s_one (s_ret e_bl)) s_nil)
    (s_cons (s_if (t_nePO tk hu (.cons ⟨(z9 Z), _, 1, (z73 Z), f_Field___eq___at_Fractions Z, (hr.mono (Nat.le_of_ble_eq_true rfl) : Rm 1 _)⟩ ⟨1, fun _ => ⟨⟨_, (z73 Z), f_Field___eq___at_Fractions Z, (hr.mono (Nat.le_of_ble_eq_true rfl) : Rm 2 _)⟩, (z74 Z)⟩⟩ (z76 Z) (.cons ⟨(z9 Z), _, 1, (z73 Z), f_Field___eq___at_Fractions Z, (hr.mono (Nat.le_of_ble_eq_true rfl) : Rm 1 _)⟩ ⟨1, fun _ => ⟨⟨_, (z73 Z), f_Field___eq___at_Fractions Z, (hr.mono (Nat.le_of_ble_eq_true rfl) : Rm 2 _)⟩, (z74 Z)⟩⟩ (z75 Z) (.cons ⟨(z7 Z), _, 1, (z69 Z), f_Field___eq___at_Modulo Z, (hr.mono (Nat.le_of_ble_eq_true rfl) : Rm 1 _)⟩ ⟨1, fun _ => ⟨⟨_, (z69 Z), f_Field___eq___at_Modulo Z, (hr.mono (Nat.le_of_ble_eq_true rfl) : Rm 2 _)⟩, (z70 Z)⟩⟩ (z72 Z) (.cons ⟨(z7 Z), _, 1, (z69 Z), f_Field___eq___at_Modulo Z, (hr.mono (Nat.le_of_ble_eq_true rfl) : Rm 1 _)⟩ ⟨1, fun _ => ⟨⟨_, (z69 Z), f_Field___eq___at_Modulo Z, (hr.mono (Nat.le_of_ble_eq_true rfl) : Rm 2 _)⟩, (z70 Z)⟩⟩ (z71 Z) .nil)))) (.cons ⟨(z9 Z), _, 1, (z73 Z), f_Field___eq___at_Fractions Z, (hr.mono (Nat.le_of_ble_eq_true rfl) : Rm 1 _)⟩ ⟨1, fun _ => ⟨⟨_, (z73 Z), f_Field___eq___at_Fractions Z, (hr.mono (Nat.le_of_ble_eq_true rfl) : Rm 2 _)⟩, (z74 Z)⟩⟩ (z82 Z) (.cons ⟨(z9 Z), _, 1, (z73 Z), f_Field___eq___at_Fractions Z, (hr.mono (Nat.le_of_ble_eq_true rfl) : Rm 1 _)⟩ ⟨1, fun _ => ⟨⟨_, (z73 Z), f_Field___eq___at_Fractions Z, (hr.mono (Nat.le_of_ble_eq_true rfl) : Rm 2 _)⟩, (z74 Z)⟩⟩ (z81 Z) (.cons ⟨(z9 Z), _, 1, (z73 Z), f_Field___eq___at_Fractions Z, (hr.mono (Nat.le_of_ble_eq_true rfl) : Rm 1 _)⟩ ⟨1, fun _ => ⟨⟨_, (z73 Z), f_Field___eq___at_Fractions Z, (hr.mono (Nat.le_of_ble_eq_true rfl) : Rm 2 _)⟩, (z74 Z)⟩⟩ (z80 Z) (.cons ⟨(z7 Z), _, 1, (z69 Z), f_Field___eq___at_Modulo Z, (hr.mono (Nat.le_of_ble_eq_true rfl) : Rm 1 _)⟩ ⟨1, fun _ => ⟨⟨_, (z69 Z), f_Field___eq___at_Modulo Z, (hr.mono (Nat.le_of_ble_eq_true rfl) : Rm 2 _)⟩, (z70 Z)⟩⟩ (z79 Z) (.cons ⟨(z7 Z), _, 1, (z69 Z), f_Field___eq___at_Modulo Z, (hr.mono (Nat.le_of_ble_eq_true rfl) : Rm 1 _)⟩ ⟨1, fun _ => ⟨⟨_, (z69 Z), f_Field___eq___at_Modulo Z, (hr.mono (Nat.le_of_ble_eq_true rfl) : Rm 2 _)⟩, (z70 Z)⟩⟩ (z78 Z) (.cons ⟨(z7 Z), _, 1, (z69 Z), f_Field___eq___at_Modulo Z, (hr.mono (Nat.le_of_ble_eq_true rfl) : Rm 1 _)⟩ ⟨1, fun _ => ⟨⟨_, (z69 Z), f_Field___eq___at_Modulo Z, (hr.mono (Nat.le_of_ble_eq_true rfl) : Rm 2 _)⟩, (z70 Z)⟩⟩ (z77 Z) .nil)))))) (e_callB (call_reprX (z59 Z) hr.gd hu) v_reprX rfl (z60 Z) (by decide +kernel) (a_cons (e_lst false (a_cons (by obtain ⟨u0, c0⟩ := (z85 Z); exact e_clsCon (z55 Z) c0 (fun _ => .int 100) rfl (z5 Z)) (a_cons (e_attr (con_row (z9 Z) (z84 Z) (fun _ => .int 100) (con_row (z7 Z) (z83 Z) (fun _ => .int 100) .nil)) (ev 2)) (a_cons (e_attr (con_row (z9 Z) (z84 Z) (fun _ => .int 100) (con_row (z7 Z) (z83 Z) (fun _ => .int 100) .nil)) (e_make false tk (z44 Z) (f_Modulo___init___at_Modulo Z) (hr.mono (Nat.le_of_ble_eq_true rfl) : Rm 5 _) rfl (z45 Z) (a_cons e_int a_nil))) a_nil)))) a_nil)) e_str) (s_one (s_ret e_bl)) s_nil)
    (s_cons (s_for hp rfl (i_range1 rfl (z25 Z) (a_cons (e_add e_int (e_callB (call_min2 rfl) v_min2 rfl (z86 Z) (by decide +kernel) (a_cons e_int (a_cons (e_callB call_len v_len rfl (z41 Z) (by decide +kernel) (a_cons (ev 0) a_nil)) a_nil)))) a_nil)) (g_name nd rfl (by first | exact .inl rfl | exact .inr rfl)) (s_cons (s_set nd rfl (by first | exact .inl rfl | exact .inr rfl) (e_call tk (f__law_drawn_prime Z) (hr.mono (Nat.le_of_ble_eq_true rfl) : Rm 4 _) rfl (z87 Z) (k__law_drawn_prime Z) (a_cons (ev 1) a_nil)))
    (s_cons (s_if (t_not (t_truth (e_call tk (f__law_is_fine Z) (hr.mono (Nat.le_of_ble_eq_true rfl) : Rm 2 _) rfl (z88 Z) (k__law_is_fine Z) (a_cons (ev 4) a_nil)))) (s_one (s_if (t_not (t_truth (e_call tk (f__law_refused Z) (hr.mono (Nat.le_of_ble_eq_true rfl) : Rm 6 _) rfl (z89 Z) (k__law_refused Z) (a_cons (ev 4) a_nil)))) (s_one (s_ret e_bl)) s_nil)) (s_one (s_if (t_nePO tk hu (.cons ⟨(z9 Z), _, 1, (z73 Z), f_Field___eq___at_Fractions Z, (hr.mono (Nat.le_of_ble_eq_true rfl) : Rm 1 _)⟩ ⟨1, fun _ => ⟨⟨_, (z73 Z), f_Field___eq___at_Fractions Z, (hr.mono (Nat.le_of_ble_eq_true rfl) : Rm 2 _)⟩, (z74 Z)⟩⟩ (z76 Z) (.cons ⟨(z9 Z), _, 1, (z73 Z), f_Field___eq___at_Fractions Z, (hr.mono (Nat.le_of_ble_eq_true rfl) : Rm 1 _)⟩ ⟨1, fun _ => ⟨⟨_, (z73 Z), f_Field___eq___at_Fractions Z, (hr.mono (Nat.le_of_ble_eq_true rfl) : Rm 2 _)⟩, (z74 Z)⟩⟩ (z75 Z) (.cons ⟨(z7 Z), _, 1, (z69 Z), f_Field___eq___at_Modulo Z, (hr.mono (Nat.le_of_ble_eq_true rfl) : Rm 1 _)⟩ ⟨1, fun _ => ⟨⟨_, (z69 Z), f_Field___eq___at_Modulo Z, (hr.mono (Nat.le_of_ble_eq_true rfl) : Rm 2 _)⟩, (z70 Z)⟩⟩ (z72 Z) (.cons ⟨(z7 Z), _, 1, (z69 Z), f_Field___eq___at_Modulo Z, (hr.mono (Nat.le_of_ble_eq_true rfl) : Rm 1 _)⟩ ⟨1, fun _ => ⟨⟨_, (z69 Z), f_Field___eq___at_Modulo Z, (hr.mono (Nat.le_of_ble_eq_true rfl) : Rm 2 _)⟩, (z70 Z)⟩⟩ (z71 Z) .nil)))) (.cons ⟨(z9 Z), _, 1, (z73 Z), f_Field___eq___at_Fractions Z, (hr.mono (Nat.le_of_ble_eq_true rfl) : Rm 1 _)⟩ ⟨1, fun _ => ⟨⟨_, (z73 Z), f_Field___eq___at_Fractions Z, (hr.mono (Nat.le_of_ble_eq_true rfl) : Rm 2 _)⟩, (z74 Z)⟩⟩ (z82 Z) (.cons ⟨(z9 Z), _, 1, (z73 Z), f_Field___eq___at_Fractions Z, (hr.mono (Nat.le_of_ble_eq_true rfl) : Rm 1 _)⟩ ⟨1, fun _ => ⟨⟨_, (z73 Z), f_Field___eq___at_Fractions Z, (hr.mono (Nat.le_of_ble_eq_true rfl) : Rm 2 _)⟩, (z74 Z)⟩⟩ (z81 Z) (.cons ⟨(z9 Z), _, 1, (z73 Z), f_Field___eq___at_Fractions Z, (hr.mono (Nat.le_of_ble_eq_true rfl) : Rm 1 _)⟩ ⟨1, fun _ => ⟨⟨_, (z73 Z), f_Field___eq___at_Fractions Z, (hr.mono (Nat.le_of_ble_eq_true rfl) : Rm 2 _)⟩, (z74 Z)⟩⟩ (z80 Z) (.cons ⟨(z7 Z), _, 1, (z69 Z), f_Field___eq___at_Modulo Z, (hr.mono (Nat.le_of_ble_eq_true rfl) : Rm 1 _)⟩ ⟨1, fun _ => ⟨⟨_, (z69 Z), f_Field___eq___at_Modulo Z, (hr.mono (Nat.le_of_ble_eq_true rfl) : Rm 2 _)⟩, (z70 Z)⟩⟩ (z79 Z) (.cons ⟨(z7 Z), _, 1, (z69 Z), f_Field___eq___at_Modulo Z, (hr.mono (Nat.le_of_ble_eq_true rfl) : Rm 1 _)⟩ ⟨1, fun _ => ⟨⟨_, (z69 Z), f_Field___eq___at_Modulo Z, (hr.mono (Nat.le_of_ble_eq_true rfl) : Rm 2 _)⟩, (z70 Z)⟩⟩ (z78 Z) (.cons ⟨(z7 Z), _, 1, (z69 Z), f_Field___eq___at_Modulo Z, (hr.mono (Nat.le_of_ble_eq_true rfl) : Rm 1 _)⟩ ⟨1, fun _ => ⟨⟨_, (z69 Z), f_Field___eq___at_Modulo Z, (hr.mono (Nat.le_of_ble_eq_true rfl) : Rm 2 _)⟩, (z70 Z)⟩⟩ (z77 Z) .nil)))))) (e_callB (call_reprX (z59 Z) hr.gd hu) v_reprX rfl (z60 Z) (by decide +kernel) (a_cons (e_lst false (a_cons (e_attr (.prop ⟨(z9 Z), _, _, 1, (z66 Z), FnD.nox (f_Field_prime_at_Fractions Z), (hr.mono (Nat.le_of_ble_eq_true rfl) : Rm 2 _)⟩ noxF_ne (.prop ⟨(z7 Z), _, _, 1, (z65 Z), FnD.nox (f_Field_prime_at_Modulo Z), (hr.mono (Nat.le_of_ble_eq_true rfl) : Rm 2 _)⟩ noxF_ne .nil)) (e_make false tk (z44 Z) (f_Modulo___init___at_Modulo Z) (hr.mono (Nat.le_of_ble_eq_true rfl) : Rm 5 _) rfl (z45 Z) (a_cons (ev 4) a_nil))) (a_cons (e_attr (.prop ⟨(z9 Z), _, _, 1, (z68 Z), FnD.nox (f_Field_name_at_Fractions Z), (hr.mono (Nat.le_of_ble_eq_true rfl) : Rm 2 _)⟩ noxF_ne (.prop ⟨(z7 Z), _, _, 1, (z67 Z), FnD.nox (f_Field_name_at_Modulo Z), (hr.mono (Nat.le_of_ble_eq_true rfl) : Rm 2 _)⟩ noxF_ne .nil)) (e_make false tk (z44 Z) (f_Modulo___init___at_Modulo Z) (hr.mono (Nat.le_of_ble_eq_true rfl) : Rm 5 _) rfl (z45 Z) (a_cons (ev 4) a_nil))) a_nil))) a_nil)) (e_callB (call_reprX (z59 Z) hr.gd hu) v_reprX rfl (z60 Z) (by decide +kernel) (a_cons (e_lst false (a_cons (ev 4) (a_cons (e_add e_str (e_callTy (call_strX (z15 Z) rfl) v_strX rfl (z16 Z) (by decide +kernel) (a_cons (ev 4) a_nil))) a_nil))) a_nil))) (s_one (s_ret e_bl)) s_nil)))
    (s_cons (s_par2 rfl nd rfl rfl (by decide) rfl rfl (a_cons (e_call tk (f__law_prime Z) (hr.mono (Nat.le_of_ble_eq_true rfl) : Rm 3 _) rfl (z90 Z) (k__law_prime Z) (a_cons (ev 1) a_nil)) (a_cons (e_call tk (f__law_prime Z) (hr.mono (Nat.le_of_ble_eq_true rfl) : Rm 3 _) rfl (z90 Z) (k__law_prime Z) (a_cons (ev 1) a_nil)) a_nil)))
    (s_cons (s_set nd rfl (by first | exact .inl rfl | exact .inr rfl) (e_make false tk (z44 Z) (f_Modulo___init___at_Modulo Z) (hr.mono (Nat.le_of_ble_eq_true rfl) : Rm 5 _) rfl (z45 Z) (a_cons (ev 8) a_nil)))
    (s_cons (s_if (PW.pt (w_or (t_nePO tk hu (.cons ⟨(z9 Z), _, 1, (z73 Z), f_Field___eq___at_Fractions Z, (hr.mono (Nat.le_of_ble_eq_true rfl) : Rm 1 _)⟩ ⟨1, fun _ => ⟨⟨_, (z73 Z), f_Field___eq___at_Fractions Z, (hr.mono (Nat.le_of_ble_eq_true rfl) : Rm 2 _)⟩, (z74 Z)⟩⟩ (z76 Z) (.cons ⟨(z9 Z), _, 1, (z73 Z), f_Field___eq___at_Fractions Z, (hr.mono (Nat.le_of_ble_eq_true rfl) : Rm 1 _)⟩ ⟨1, fun _ => ⟨⟨_, (z73 Z), f_Field___eq___at_Fractions Z, (hr.mono (Nat.le_of_ble_eq_true rfl) : Rm 2 _)⟩, (z74 Z)⟩⟩ (z75 Z) (.cons ⟨(z7 Z), _, 1, (z69 Z), f_Field___eq___at_Modulo Z, (hr.mono (Nat.le_of_ble_eq_true rfl) : Rm 1 _)⟩ ⟨1, fun _ => ⟨⟨_, (z69 Z), f_Field___eq___at_Modulo Z, (hr.mono (Nat.le_of_ble_eq_true rfl) : Rm 2 _)⟩, (z70 Z)⟩⟩ (z72 Z) (.cons ⟨(z7 Z), _, 1, (z69 Z), f_Field___eq___at_Modulo Z, (hr.mono (Nat.le_of_ble_eq_true rfl) : Rm 1 _)⟩ ⟨1, fun _ => ⟨⟨_, (z69 Z), f_Field___eq___at_Modulo Z, (hr.mono (Nat.le_of_ble_eq_true rfl) : Rm 2 _)⟩, (z70 Z)⟩⟩ (z71 Z) .nil)))) (.cons ⟨(z9 Z), _, 1, (z73 Z), f_Field___eq___at_Fractions Z, (hr.mono (Nat.le_of_ble_eq_true rfl) : Rm 1 _)⟩ ⟨1, fun _ => ⟨⟨_, (z73 Z), f_Field___eq___at_Fractions Z, (hr.mono (Nat.le_of_ble_eq_true rfl) : Rm 2 _)⟩, (z74 Z)⟩⟩ (z82 Z) (.cons ⟨(z9 Z), _, 1, (z73 Z), f_Field___eq___at_Fractions Z, (hr.mono (Nat.le_of_ble_eq_true rfl) : Rm 1 _)⟩ ⟨1, fun _ => ⟨⟨_, (z73 Z), f_Field___eq___at_Fractions Z, (hr.mono (Nat.le_of_ble_eq_true rfl) : Rm 2 _)⟩, (z74 Z)⟩⟩ (z81 Z) (.cons ⟨(z9 Z), _, 1, (z73 Z), f_Field___eq___at_Fractions Z, (hr.mono (Nat.le_of_ble_eq_true rfl) : Rm 1 _)⟩ ⟨1, fun _ => ⟨⟨_, (z73 Z), f_Field___eq___at_Fractions Z, (hr.mono (Nat.le_of_ble_eq_true rfl) : Rm 2 _)⟩, (z74 Z)⟩⟩ (z80 Z) (.cons ⟨(z7 Z), _, 1, (z69 Z), f_Field___eq___at_Modulo Z, (hr.mono (Nat.le_of_ble_eq_true rfl) : Rm 1 _)⟩ ⟨1, fun _ => ⟨⟨_, (z69 Z), f_Field___eq___at_Modulo Z, (hr.mono (Nat.le_of_ble_eq_true rfl) : Rm 2 _)⟩, (z70 Z)⟩⟩ (z79 Z) (.cons ⟨(z7 Z), _, 1, (z69 Z), f_Field___eq___at_Modulo Z, (hr.mono (Nat.le_of_ble_eq_true rfl) : Rm 1 _)⟩ ⟨1, fun _ => ⟨⟨_, (z69 Z), f_Field___eq___at_Modulo Z, (hr.mono (Nat.le_of_ble_eq_true rfl) : Rm 2 _)⟩, (z70 Z)⟩⟩ (z78 Z) (.cons ⟨(z7 Z), _, 1, (z69 Z), f_Field___eq___at_Modulo Z, (hr.mono (Nat.le_of_ble_eq_true rfl) : Rm 1 _)⟩ ⟨1, fun _ => ⟨⟨_, (z69 Z), f_Field___eq___at_Modulo Z, (hr.mono (Nat.le_of_ble_eq_true rfl) : Rm 2 _)⟩, (z70 Z)⟩⟩ (z77 Z) .nil)))))) (e_eqPO tk hu (.cons ⟨(z9 Z), _, 1, (z73 Z), f_Field___eq___at_Fractions Z, (hr.mono (Nat.le_of_ble_eq_true rfl) : Rm 1 _)⟩ ⟨0, fun z => nomatch z⟩ (z76 Z) (.cons ⟨(z9 Z), _, 1, (z73 Z), f_Field___eq___at_Fractions Z, (hr.mono (Nat.le_of_ble_eq_true rfl) : Rm 1 _)⟩ ⟨0, fun z => nomatch z⟩ (z75 Z) (.cons ⟨(z7 Z), _, 1, (z69 Z), f_Field___eq___at_Modulo Z, (hr.mono (Nat.le_of_ble_eq_true rfl) : Rm 1 _)⟩ ⟨0, fun z => nomatch z⟩ (z72 Z) (.cons ⟨(z7 Z), _, 1, (z69 Z), f_Field___eq___at_Modulo Z, (hr.mono (Nat.le_of_ble_eq_true rfl) : Rm 1 _)⟩ ⟨0, fun z => nomatch z⟩ (z71 Z) .nil)))) (.cons ⟨(z9 Z), _, 1, (z73 Z), f_Field___eq___at_Fractions Z, (hr.mono (Nat.le_of_ble_eq_true rfl) : Rm 1 _)⟩ ⟨0, fun z => nomatch z⟩ (z82 Z) (.cons ⟨(z9 Z), _, 1, (z73 Z), f_Field___eq___at_Fractions Z, (hr.mono (Nat.le_of_ble_eq_true rfl) : Rm 1 _)⟩ ⟨0, fun z => nomatch z⟩ (z81 Z) (.cons ⟨(z9 Z), _, 1, (z73 Z), f_Field___eq___at_Fractions Z, (hr.mono (Nat.le_of_ble_eq_true rfl) : Rm 1 _)⟩ ⟨0, fun z => nomatch z⟩ (z80 Z) (.cons ⟨(z7 Z), _, 1, (z69 Z), f_Field___eq___at_Modulo Z, (hr.mono (Nat.le_of_ble_eq_true rfl) : Rm 1 _)⟩ ⟨0, fun z => nomatch z⟩ (z79 Z) (.cons ⟨(z7 Z), _, 1, (z69 Z), f_Field___eq___at_Modulo Z, (hr.mono (Nat.le_of_ble_eq_true rfl) : Rm 1 _)⟩ ⟨0, fun z => nomatch z⟩ (z78 Z) (.cons ⟨(z7 Z), _, 1, (z69 Z), f_Field___eq___at_Modulo Z, (hr.mono (Nat.le_of_ble_eq_true rfl) : Rm 1 _)⟩ ⟨0, fun z => nomatch z⟩ (z77 Z) .nil)))))) (ev 5) (e_make false tk (z44 Z) (f_Modulo___init___at_Modulo Z) (hr.mono (Nat.le_of_ble_eq_true rfl) : Rm 5 _) rfl (z45 Z) (a_cons (ev 9) a_nil))) (e_eqPO tk hu (.cons ⟨(z9 Z), _, 1, (z73 Z), f_Field___eq___at_Fractions Z, (hr.mono (Nat.le_of_ble_eq_true rfl) : Rm 1 _)⟩ ⟨0, fun z => nomatch z⟩ (z76 Z) (.cons ⟨(z9 Z), _, 1, (z73 Z), f_Field___eq___at_Fractions Z, (hr.mono (Nat.le_of_ble_eq_true rfl) : Rm 1 _)⟩ ⟨0, fun z => nomatch z⟩ (z75 Z) (.cons ⟨(z7 Z), _, 1, (z69 Z), f_Field___eq___at_Modulo Z, (hr.mono (Nat.le_of_ble_eq_true rfl) : Rm 1 _)⟩ ⟨0, fun z => nomatch z⟩ (z72 Z) (.cons ⟨(z7 Z), _, 1, (z69 Z), f_Field___eq___at_Modulo Z, (hr.mono (Nat.le_of_ble_eq_true rfl) : Rm 1 _)⟩ ⟨0, fun z => nomatch z⟩ (z71 Z) .nil)))) (.cons ⟨(z9 Z), _, 1, (z73 Z), f_Field___eq___at_Fractions Z, (hr.mono (Nat.le_of_ble_eq_true rfl) : Rm 1 _)⟩ ⟨0, fun z => nomatch z⟩ (z82 Z) (.cons ⟨(z9 Z), _, 1, (z73 Z), f_Field___eq___at_Fractions Z, (hr.mono (Nat.le_of_ble_eq_true rfl) : Rm 1 _)⟩ ⟨0, fun z => nomatch z⟩ (z81 Z) (.cons ⟨(z9 Z), _, 1, (z73 Z), f_Field___eq___at_Fractions Z, (hr.mono (Nat.le_of_ble_eq_true rfl) : Rm 1 _)⟩ ⟨0, fun z => nomatch z⟩ (z80 Z) (.cons ⟨(z7 Z), _, 1, (z69 Z), f_Field___eq___at_Modulo Z, (hr.mono (Nat.le_of_ble_eq_true rfl) : Rm 1 _)⟩ ⟨0, fun z => nomatch z⟩ (z79 Z) (.cons ⟨(z7 Z), _, 1, (z69 Z), f_Field___eq___at_Modulo Z, (hr.mono (Nat.le_of_ble_eq_true rfl) : Rm 1 _)⟩ ⟨0, fun z => nomatch z⟩ (z78 Z) (.cons ⟨(z7 Z), _, 1, (z69 Z), f_Field___eq___at_Modulo Z, (hr.mono (Nat.le_of_ble_eq_true rfl) : Rm 1 _)⟩ ⟨0, fun z => nomatch z⟩ (z77 Z) .nil)))))) (ev 8) (ev 9))) (w_or1 (t_nePO tk hu (.cons ⟨(z9 Z), _, 1, (z73 Z), f_Field___eq___at_Fractions Z, (hr.mono (Nat.le_of_ble_eq_true rfl) : Rm 1 _)⟩ ⟨1, fun _ => ⟨⟨_, (z73 Z), f_Field___eq___at_Fractions Z, (hr.mono (Nat.le_of_ble_eq_true rfl) : Rm 2 _)⟩, (z74 Z)⟩⟩ (z76 Z) (.cons ⟨(z9 Z), _, 1, (z73 Z), f_Field___eq___at_Fractions Z, (hr.mono (Nat.le_of_ble_eq_true rfl) : Rm 1 _)⟩ ⟨1, fun _ => ⟨⟨_, (z73 Z), f_Field___eq___at_Fractions Z, (hr.mono (Nat.le_of_ble_eq_true rfl) : Rm 2 _)⟩, (z74 Z)⟩⟩ (z75 Z) (.cons ⟨(z7 Z), _, 1, (z69 Z), f_Field___eq___at_Modulo Z, (hr.mono (Nat.le_of_ble_eq_true rfl) : Rm 1 _)⟩ ⟨1, fun _ => ⟨⟨_, (z69 Z), f_Field___eq___at_Modulo Z, (hr.mono (Nat.le_of_ble_eq_true rfl) : Rm 2 _)⟩, (z70 Z)⟩⟩ (z72 Z) (.cons ⟨(z7 Z), _, 1, (z69 Z), f_Field___eq___at_Modulo Z, (hr.mono (Nat.le_of_ble_eq_true rfl) : Rm 1 _)⟩ ⟨1, fun _ => ⟨⟨_, (z69 Z), f_Field___eq___at_Modulo Z, (hr.mono (Nat.le_of_ble_eq_true rfl) : Rm 2 _)⟩, (z70 Z)⟩⟩ (z71 Z) .nil)))) (.cons ⟨(z9 Z), _, 1, (z73 Z), f_Field___eq___at_Fractions Z, (hr.mono (Nat.le_of_ble_eq_true rfl) : Rm 1 _)⟩ ⟨1, fun _ => ⟨⟨_, (z73 Z), f_Field___eq___at_Fractions Z, (hr.mono (Nat.le_of_ble_eq_true rfl) : Rm 2 _)⟩, (z74 Z)⟩⟩ (z82 Z) (.cons ⟨(z9 Z), _, 1, (z73 Z), f_Field___eq___at_Fractions Z, (hr.mono (Nat.le_of_ble_eq_true rfl) : Rm 1 _)⟩ ⟨1, fun _ => ⟨⟨_, (z73 Z), f_Field___eq___at_Fractions Z, (hr.mono (Nat.le_of_ble_eq_true rfl) : Rm 2 _)⟩, (z74 Z)⟩⟩ (z81 Z) (.cons ⟨(z9 Z), _, 1, (z73 Z), f_Field___eq___at_Fractions Z, (hr.mono (Nat.le_of_ble_eq_true rfl) : Rm 1 _)⟩ ⟨1, fun _ => ⟨⟨_, (z73 Z), f_Field___eq___at_Fractions Z, (hr.mono (Nat.le_of_ble_eq_true rfl) : Rm 2 _)⟩, (z74 Z)⟩⟩ (z80 Z) (.cons ⟨(z7 Z), _, 1, (z69 Z), f_Field___eq___at_Modulo Z, (hr.mono (Nat.le_of_ble_eq_true rfl) : Rm 1 _)⟩ ⟨1, fun _ => ⟨⟨_, (z69 Z), f_Field___eq___at_Modulo Z, (hr.mono (Nat.le_of_ble_eq_true rfl) : Rm 2 _)⟩, (z70 Z)⟩⟩ (z79 Z) (.cons ⟨(z7 Z), _, 1, (z69 Z), f_Field___eq___at_Modulo Z, (hr.mono (Nat.le_of_ble_eq_true rfl) : Rm 1 _)⟩ ⟨1, fun _ => ⟨⟨_, (z69 Z), f_Field___eq___at_Modulo Z, (hr.mono (Nat.le_of_ble_eq_true rfl) : Rm 2 _)⟩, (z70 Z)⟩⟩ (z78 Z) (.cons ⟨(z7 Z), _, 1, (z69 Z), f_Field___eq___at_Modulo Z, (hr.mono (Nat.le_of_ble_eq_true rfl) : Rm 1 _)⟩ ⟨1, fun _ => ⟨⟨_, (z69 Z), f_Field___eq___at_Modulo Z, (hr.mono (Nat.le_of_ble_eq_true rfl) : Rm 2 _)⟩, (z70 Z)⟩⟩ (z77 Z) .nil)))))) (e_nePO tk hu (.cons ⟨(z9 Z), _, 1, (z73 Z), f_Field___eq___at_Fractions Z, (hr.mono (Nat.le_of_ble_eq_true rfl) : Rm 1 _)⟩ ⟨1, fun _ => ⟨⟨_, (z73 Z), f_Field___eq___at_Fractions Z, (hr.mono (Nat.le_of_ble_eq_true rfl) : Rm 2 _)⟩, (z74 Z)⟩⟩ (z76 Z) (.cons ⟨(z9 Z), _, 1, (z73 Z), f_Field___eq___at_Fractions Z, (hr.mono (Nat.le_of_ble_eq_true rfl) : Rm 1 _)⟩ ⟨1, fun _ => ⟨⟨_, (z73 Z), f_Field___eq___at_Fractions Z, (hr.mono (Nat.le_of_ble_eq_true rfl) : Rm 2 _)⟩, (z74 Z)⟩⟩ (z75 Z) (.cons ⟨(z7 Z), _, 1, (z69 Z), f_Field___eq___at_Modulo Z, (hr.mono (Nat.le_of_ble_eq_true rfl) : Rm 1 _)⟩ ⟨1, fun _ => ⟨⟨_, (z69 Z), f_Field___eq___at_Modulo Z, (hr.mono (Nat.le_of_ble_eq_true rfl) : Rm 2 _)⟩, (z70 Z)⟩⟩ (z72 Z) (.cons ⟨(z7 Z), _, 1, (z69 Z), f_Field___eq___at_Modulo Z, (hr.mono (Nat.le_of_ble_eq_true rfl) : Rm 1 _)⟩ ⟨1, fun _ => ⟨⟨_, (z69 Z), f_Field___eq___at_Modulo Z, (hr.mono (Nat.le_of_ble_eq_true rfl) : Rm 2 _)⟩, (z70 Z)⟩⟩ (z71 Z) .nil)))) (.cons ⟨(z9 Z), _, 1, (z73 Z), f_Field___eq___at_Fractions Z, (hr.mono (Nat.le_of_ble_eq_true rfl) : Rm 1 _)⟩ ⟨1, fun _ => ⟨⟨_, (z73 Z), f_Field___eq___at_Fractions Z, (hr.mono (Nat.le_of_ble_eq_true rfl) : Rm 2 _)⟩, (z74 Z)⟩⟩ (z82 Z) (.cons ⟨(z9 Z), _, 1, (z73 Z), f_Field___eq___at_Fractions Z, (hr.mono (Nat.le_of_ble_eq_true rfl) : Rm 1 _)⟩ ⟨1, fun _ => ⟨⟨_, (z73 Z), f_Field___eq___at_Fractions Z, (hr.mono (Nat.le_of_ble_eq_true rfl) : Rm 2 _)⟩, (z74 Z)⟩⟩ (z81 Z) (.cons ⟨(z9 Z), _, 1, (z73 Z), f_Field___eq___at_Fractions Z, (hr.mono (Nat.le_of_ble_eq_true rfl) : Rm 1 _)⟩ ⟨1, fun _ => ⟨⟨_, (z73 Z), f_Field___eq___at_Fractions Z, (hr.mono (Nat.le_of_ble_eq_true rfl) : Rm 2 _)⟩, (z74 Z)⟩⟩ (z80 Z) (.cons ⟨(z7 Z), _, 1, (z69 Z), f_Field___eq___at_Modulo Z, (hr.mono (Nat.le_of_ble_eq_true rfl) : Rm 1 _)⟩ ⟨1, fun _ => ⟨⟨_, (z69 Z), f_Field___eq___at_Modulo Z, (hr.mono (Nat.le_of_ble_eq_true rfl) : Rm 2 _)⟩, (z70 Z)⟩⟩ (z79 Z) (.cons ⟨(z7 Z), _, 1, (z69 Z), f_Field___eq___at_Modulo Z, (hr.mono (Nat.le_of_ble_eq_true rfl) : Rm 1 _)⟩ ⟨1, fun _ => ⟨⟨_, (z69 Z), f_Field___eq___at_Modulo Z, (hr.mono (Nat.le_of_ble_eq_true rfl) : Rm 2 _)⟩, (z70 Z)⟩⟩ (z78 Z) (.cons ⟨(z7 Z), _, 1, (z69 Z), f_Field___eq___at_Modulo Z, (hr.mono (Nat.le_of_ble_eq_true rfl) : Rm 1 _)⟩ ⟨1, fun _ => ⟨⟨_, (z69 Z), f_Field___eq___at_Modulo Z, (hr.mono (Nat.le_of_ble_eq_true rfl) : Rm 2 _)⟩, (z70 Z)⟩⟩ (z77 Z) .nil)))))) (ev 5) (e_make false tk (z44 Z) (f_Modulo___init___at_Modulo Z) (hr.mono (Nat.le_of_ble_eq_true rfl) : Rm 5 _) rfl (z45 Z) (a_cons (ev 9) a_nil))) (e_nePO tk hu (.cons ⟨(z9 Z), _, 1, (z73 Z), f_Field___eq___at_Fractions Z, (hr.mono (Nat.le_of_ble_eq_true rfl) : Rm 1 _)⟩ ⟨1, fun _ => ⟨⟨_, (z73 Z), f_Field___eq___at_Fractions Z, (hr.mono (Nat.le_of_ble_eq_true rfl) : Rm 2 _)⟩, (z74 Z)⟩⟩ (z76 Z) (.cons ⟨(z9 Z), _, 1, (z73 Z), f_Field___eq___at_Fractions Z, (hr.mono (Nat.le_of_ble_eq_true rfl) : Rm 1 _)⟩ ⟨1, fun _ => ⟨⟨_, (z73 Z), f_Field___eq___at_Fractions Z, (hr.mono (Nat.le_of_ble_eq_true rfl) : Rm 2 _)⟩, (z74 Z)⟩⟩ (z75 Z) (.cons ⟨(z7 Z), _, 1, (z69 Z), f_Field___eq___at_Modulo Z, (hr.mono (Nat.le_of_ble_eq_true rfl) : Rm 1 _)⟩ ⟨1, fun _ => ⟨⟨_, (z69 Z), f_Field___eq___at_Modulo Z, (hr.mono (Nat.le_of_ble_eq_true rfl) : Rm 2 _)⟩, (z70 Z)⟩⟩ (z72 Z) (.cons ⟨(z7 Z), _, 1, (z69 Z), f_Field___eq___at_Modulo Z, (hr.mono (Nat.le_of_ble_eq_true rfl) : Rm 1 _)⟩ ⟨1, fun _ => ⟨⟨_, (z69 Z), f_Field___eq___at_Modulo Z, (hr.mono (Nat.le_of_ble_eq_true rfl) : Rm 2 _)⟩, (z70 Z)⟩⟩ (z71 Z) .nil)))) (.cons ⟨(z9 Z), _, 1, (z73 Z), f_Field___eq___at_Fractions Z, (hr.mono (Nat.le_of_ble_eq_true rfl) : Rm 1 _)⟩ ⟨1, fun _ => ⟨⟨_, (z73 Z), f_Field___eq___at_Fractions Z, (hr.mono (Nat.le_of_ble_eq_true rfl) : Rm 2 _)⟩, (z74 Z)⟩⟩ (z82 Z) (.cons ⟨(z9 Z), _, 1, (z73 Z), f_Field___eq___at_Fractions Z, (hr.mono (Nat.le_of_ble_eq_true rfl) : Rm 1 _)⟩ ⟨1, fun _ => ⟨⟨_, (z73 Z), f_Field___eq___at_Fractions Z, (hr.mono (Nat.le_of_ble_eq_true rfl) : Rm 2 _)⟩, (z74 Z)⟩⟩ (z81 Z) (.cons ⟨(z9 Z), _, 1, (z73 Z), f_Field___eq___at_Fractions Z, (hr.mono (Nat.le_of_ble_eq_true rfl) : Rm 1 _)⟩ ⟨1, fun _ => ⟨⟨_, (z73 Z), f_Field___eq___at_Fractions Z, (hr.mono (Nat.le_of_ble_eq_true rfl) : Rm 2 _)⟩, (z74 Z)⟩⟩ (z80 Z) (.cons ⟨(z7 Z), _, 1, (z69 Z), f_Field___eq___at_Modulo Z, (hr.mono (Nat.le_of_ble_eq_true rfl) : Rm 1 _)⟩ ⟨1, fun _ => ⟨⟨_, (z69 Z), f_Field___eq___at_Modulo Z, (hr.mono (Nat.le_of_ble_eq_true rfl) : Rm 2 _)⟩, (z70 Z)⟩⟩ (z79 Z) (.cons ⟨(z7 Z), _, 1, (z69 Z), f_Field___eq___at_Modulo Z, (hr.mono (Nat.le_of_ble_eq_true rfl) : Rm 1 _)⟩ ⟨1, fun _ => ⟨⟨_, (z69 Z), f_Field___eq___at_Modulo Z, (hr.mono (Nat.le_of_ble_eq_true rfl) : Rm 2 _)⟩, (z70 Z)⟩⟩ (z78 Z) (.cons ⟨(z7 Z), _, 1, (z69 Z), f_Field___eq___at_Modulo Z, (hr.mono (Nat.le_of_ble_eq_true rfl) : Rm 1 _)⟩ ⟨1, fun _ => ⟨⟨_, (z69 Z), f_Field___eq___at_Modulo Z, (hr.mono (Nat.le_of_ble_eq_true rfl) : Rm 2 _)⟩, (z70 Z)⟩⟩ (z77 Z) .nil)))))) (ev 8) (ev 9)))))) (s_one (s_ret e_bl)) s_nil)
    (s_cons (s_if (t_eqPO tk hu (.cons ⟨(z9 Z), _, 1, (z73 Z), f_Field___eq___at_Fractions Z, (hr.mono (Nat.le_of_ble_eq_true rfl) : Rm 1 _)⟩ ⟨0, fun z => nomatch z⟩ (z76 Z) (.cons ⟨(z9 Z), _, 1, (z73 Z), f_Field___eq___at_Fractions Z, (hr.mono (Nat.le_of_ble_eq_true rfl) : Rm 1 _)⟩ ⟨0, fun z => nomatch z⟩ (z75 Z) (.cons ⟨(z7 Z), _, 1, (z69 Z), f_Field___eq___at_Modulo Z, (hr.mono (Nat.le_of_ble_eq_true rfl) : Rm 1 _)⟩ ⟨0, fun z => nomatch z⟩ (z72 Z) (.cons ⟨(z7 Z), _, 1, (z69 Z), f_Field___eq___at_Modulo Z, (hr.mono (Nat.le_of_ble_eq_true rfl) : Rm 1 _)⟩ ⟨0, fun z => nomatch z⟩ (z71 Z) .nil)))) (.cons ⟨(z9 Z), _, 1, (z73 Z), f_Field___eq___at_Fractions Z, (hr.mono (Nat.le_of_ble_eq_true rfl) : Rm 1 _)⟩ ⟨0, fun z => nomatch z⟩ (z82 Z) (.cons ⟨(z9 Z), _, 1, (z73 Z), f_Field___eq___at_Fractions Z, (hr.mono (Nat.le_of_ble_eq_true rfl) : Rm 1 _)⟩ ⟨0, fun z => nomatch z⟩ (z81 Z) (.cons ⟨(z9 Z), _, 1, (z73 Z), f_Field___eq___at_Fractions Z, (hr.mono (Nat.le_of_ble_eq_true rfl) : Rm 1 _)⟩ ⟨0, fun z => nomatch z⟩ (z80 Z) (.cons ⟨(z7 Z), _, 1, (z69 Z), f_Field___eq___at_Modulo Z, (hr.mono (Nat.le_of_ble_eq_true rfl) : Rm 1 _)⟩ ⟨0, fun z => nomatch z⟩ (z79 Z) (.cons ⟨(z7 Z), _, 1, (z69 Z), f_Field___eq___at_Modulo Z, (hr.mono (Nat.le_of_ble_eq_true rfl) : Rm 1 _)⟩ ⟨0, fun z => nomatch z⟩ (z78 Z) (.cons ⟨(z7 Z), _, 1, (z69 Z), f_Field___eq___at_Modulo Z, (hr.mono (Nat.le_of_ble_eq_true rfl) : Rm 1 _)⟩ ⟨0, fun z => nomatch z⟩ (z77 Z) .nil)))))) (ev 5) (ev 2)) (s_one (s_ret e_bl)) s_nil)
    (s_cons (s_if (PW.pt (w_or (t_not (t_truth (e_callB call_isi (v_isi (z_isi Z)) rfl (z6 Z) (by decide +kernel) (a_cons (ev 5) (a_cons (e_glo rfl (z5 Z)) a_nil))))) (w_or (t_eqPO tk hu (.cons ⟨(z9 Z), _, 1, (z73 Z), f_Field___eq___at_Fractions Z, (hr.mono (Nat.le_of_ble_eq_true rfl) : Rm 1 _)⟩ ⟨0, fun z => nomatch z⟩ (z76 Z) (.cons ⟨(z9 Z), _, 1, (z73 Z), f_Field___eq___at_Fractions Z, (hr.mono (Nat.le_of_ble_eq_true rfl) : Rm 1 _)⟩ ⟨0, fun z => nomatch z⟩ (z75 Z) (.cons ⟨(z7 Z), _, 1, (z69 Z), f_Field___eq___at_Modulo Z, (hr.mono (Nat.le_of_ble_eq_true rfl) : Rm 1 _)⟩ ⟨0, fun z => nomatch z⟩ (z72 Z) (.cons ⟨(z7 Z), _, 1, (z69 Z), f_Field___eq___at_Modulo Z, (hr.mono (Nat.le_of_ble_eq_true rfl) : Rm 1 _)⟩ ⟨0, fun z => nomatch z⟩ (z71 Z) .nil)))) (.cons ⟨(z9 Z), _, 1, (z73 Z), f_Field___eq___at_Fractions Z, (hr.mono (Nat.le_of_ble_eq_true rfl) : Rm 1 _)⟩ ⟨0, fun z => nomatch z⟩ (z82 Z) (.cons ⟨(z9 Z), _, 1, (z73 Z), f_Field___eq___at_Fractions Z, (hr.mono (Nat.le_of_ble_eq_true rfl) : Rm 1 _)⟩ ⟨0, fun z => nomatch z⟩ (z81 Z) (.cons ⟨(z9 Z), _, 1, (z73 Z), f_Field___eq___at_Fractions Z, (hr.mono (Nat.le_of_ble_eq_true rfl) : Rm 1 _)⟩ ⟨0, fun z => nomatch z⟩ (z80 Z) (.cons ⟨(z7 Z), _, 1, (z69 Z), f_Field___eq___at_Modulo Z, (hr.mono (Nat.le_of_ble_eq_true rfl) : Rm 1 _)⟩ ⟨0, fun z => nomatch z⟩ (z79 Z) (.cons ⟨(z7 Z), _, 1, (z69 Z), f_Field___eq___at_Modulo Z, (hr.mono (Nat.le_of_ble_eq_true rfl) : Rm 1 _)⟩ ⟨0, fun z => nomatch z⟩ (z78 Z) (.cons ⟨(z7 Z), _, 1, (z69 Z), f_Field___eq___at_Modulo Z, (hr.mono (Nat.le_of_ble_eq_true rfl) : Rm 1 _)⟩ ⟨0, fun z => nomatch z⟩ (z77 Z) .nil)))))) (ev 5) (ev 8)) (w_or (t_eqPO tk hu (.cons ⟨(z9 Z), _, 1, (z73 Z), f_Field___eq___at_Fractions Z, (hr.mono (Nat.le_of_ble_eq_true rfl) : Rm 1 _)⟩ ⟨0, fun z => nomatch z⟩ (z76 Z) (.cons ⟨(z9 Z), _, 1, (z73 Z), f_Field___eq___at_Fractions Z, (hr.mono (Nat.le_of_ble_eq_true rfl) : Rm 1 _)⟩ ⟨0, fun z => nomatch z⟩ (z75 Z) (.cons ⟨(z7 Z), _, 1, (z69 Z), f_Field___eq___at_Modulo Z, (hr.mono (Nat.le_of_ble_eq_true rfl) : Rm 1 _)⟩ ⟨0, fun z => nomatch z⟩ (z72 Z) (.cons ⟨(z7 Z), _, 1, (z69 Z), f_Field___eq___at_Modulo Z, (hr.mono (Nat.le_of_ble_eq_true rfl) : Rm 1 _)⟩ ⟨0, fun z => nomatch z⟩ (z71 Z) .nil)))) (.cons ⟨(z9 Z), _, 1, (z73 Z), f_Field___eq___at_Fractions Z, (hr.mono (Nat.le_of_ble_eq_true rfl) : Rm 1 _)⟩ ⟨0, fun z => nomatch z⟩ (z82 Z) (.cons ⟨(z9 Z), _, 1, (z73 Z), f_Field___eq___at_Fractions Z, (hr.mono (Nat.le_of_ble_eq_true rfl) : Rm 1 _)⟩ ⟨0, fun z => nomatch z⟩ (z81 Z) (.cons ⟨(z9 Z), _, 1, (z73 Z), f_Field___eq___at_Fractions Z, (hr.mono (Nat.le_of_ble_eq_true rfl) : Rm 1 _)⟩ ⟨0, fun z => nomatch z⟩ (z80 Z) (.cons ⟨(z7 Z), _, 1, (z69 Z), f_Field___eq___at_Modulo Z, (hr.mono (Nat.le_of_ble_eq_true rfl) : Rm 1 _)⟩ ⟨0, fun z => nomatch z⟩ (z79 Z) (.cons ⟨(z7 Z), _, 1, (z69 Z), f_Field___eq___at_Modulo Z, (hr.mono (Nat.le_of_ble_eq_true rfl) : Rm 1 _)⟩ ⟨0, fun z => nomatch z⟩ (z78 Z) (.cons ⟨(z7 Z), _, 1, (z69 Z), f_Field___eq___at_Modulo Z, (hr.mono (Nat.le_of_ble_eq_true rfl) : Rm 1 _)⟩ ⟨0, fun z => nomatch z⟩ (z77 Z) .nil)))))) (ev 5) (e_attr (.prop ⟨(z9 Z), _, _, 1, (z68 Z), FnD.nox (f_Field_name_at_Fractions Z), (hr.mono (Nat.le_of_ble_eq_true rfl) : Rm 2 _)⟩ noxF_ne (.prop ⟨(z7 Z), _, _, 1, (z67 Z), FnD.nox (f_Field_name_at_Modulo Z), (hr.mono (Nat.le_of_ble_eq_true rfl) : Rm 2 _)⟩ noxF_ne .nil)) (ev 5))) (w_or1 (t_eqPO tk hu (.cons ⟨(z9 Z), _, 1, (z73 Z), f_Field___eq___at_Fractions Z, (hr.mono (Nat.le_of_ble_eq_true rfl) : Rm 1 _)⟩ ⟨0, fun z => nomatch z⟩ (z76 Z) (.cons ⟨(z9 Z), _, 1, (z73 Z), f_Field___eq___at_Fractions Z, (hr.mono (Nat.le_of_ble_eq_true rfl) : Rm 1 _)⟩ ⟨0, fun z => nomatch z⟩ (z75 Z) (.cons ⟨(z7 Z), _, 1, (z69 Z), f_Field___eq___at_Modulo Z, (hr.mono (Nat.le_of_ble_eq_true rfl) : Rm 1 _)⟩ ⟨0, fun z => nomatch z⟩ (z72 Z) (.cons ⟨(z7 Z), _, 1, (z69 Z), f_Field___eq___at_Modulo Z, (hr.mono (Nat.le_of_ble_eq_true rfl) : Rm 1 _)⟩ ⟨0, fun z => nomatch z⟩ (z71 Z) .nil)))) (.cons ⟨(z9 Z), _, 1, (z73 Z), f_Field___eq___at_Fractions Z, (hr.mono (Nat.le_of_ble_eq_true rfl) : Rm 1 _)⟩ ⟨0, fun z => nomatch z⟩ (z82 Z) (.cons ⟨(z9 Z), _, 1, (z73 Z), f_Field___eq___at_Fractions Z, (hr.mono (Nat.le_of_ble_eq_true rfl) : Rm 1 _)⟩ ⟨0, fun z => nomatch z⟩ (z81 Z) (.cons ⟨(z9 Z), _, 1, (z73 Z), f_Field___eq___at_Fractions Z, (hr.mono (Nat.le_of_ble_eq_true rfl) : Rm 1 _)⟩ ⟨0, fun z => nomatch z⟩ (z80 Z) (.cons ⟨(z7 Z), _, 1, (z69 Z), f_Field___eq___at_Modulo Z, (hr.mono (Nat.le_of_ble_eq_true rfl) : Rm 1 _)⟩ ⟨0, fun z => nomatch z⟩ (z79 Z) (.cons ⟨(z7 Z), _, 1, (z69 Z), f_Field___eq___at_Modulo Z, (hr.mono (Nat.le_of_ble_eq_true rfl) : Rm 1 _)⟩ ⟨0, fun z => nomatch z⟩ (z78 Z) (.cons ⟨(z7 Z), _, 1, (z69 Z), f_Field___eq___at_Modulo Z, (hr.mono (Nat.le_of_ble_eq_true rfl) : Rm 1 _)⟩ ⟨0, fun z => nomatch z⟩ (z77 Z) .nil)))))) (ev 2) (e_lst false (a_cons e_int a_nil)))))))) (s_one (s_ret e_bl)) s_nil)
    (s_cons (s_asg (e_call tk (f__law_bent_name Z) (hr.mono (Nat.le_of_ble_eq_true rfl) : Rm 3 _) rfl (z91 Z) (k__law_bent_name Z) (a_cons (ev 1) (a_cons (ev 8) a_nil))) (g_tup rfl (gs_cons (g_name nd rfl (by first | exact .inl rfl | exact .inr rfl)) (gs_cons (g_name nd rfl (by first | exact .inl rfl | exact .inr rfl)) gs_nil))))
    (s_cons (s_set nd rfl (by first | exact .inl rfl | exact .inr rfl) (e_call tk (f__law_read Z) (hr.mono (Nat.le_of_ble_eq_true rfl) : Rm 7 _) rfl (z92 Z) (k__law_read Z) (a_cons (ev 10) a_nil)))
    (s_cons (s_if (t_nePO tk hu (.cons ⟨(z9 Z), _, 1, (z73 Z), f_Field___eq___at_Fractions Z, (hr.mono (Nat.le_of_ble_eq_true rfl) : Rm 1 _)⟩ ⟨1, fun _ => ⟨⟨_, (z73 Z), f_Field___eq___at_Fractions Z, (hr.mono (Nat.le_of_ble_eq_true rfl) : Rm 2 _)⟩, (z74 Z)⟩⟩ (z76 Z) (.cons ⟨(z9 Z), _, 1, (z73 Z), f_Field___eq___at_Fractions Z, (hr.mono (Nat.le_of_ble_eq_true rfl) : Rm 1 _)⟩ ⟨1, fun _ => ⟨⟨_, (z73 Z), f_Field___eq___at_Fractions Z, (hr.mono (Nat.le_of_ble_eq_true rfl) : Rm 2 _)⟩, (z74 Z)⟩⟩ (z75 Z) (.cons ⟨(z7 Z), _, 1, (z69 Z), f_Field___eq___at_Modulo Z, (hr.mono (Nat.le_of_ble_eq_true rfl) : Rm 1 _)⟩ ⟨1, fun _ => ⟨⟨_, (z69 Z), f_Field___eq___at_Modulo Z, (hr.mono (Nat.le_of_ble_eq_true rfl) : Rm 2 _)⟩, (z70 Z)⟩⟩ (z72 Z) (.cons ⟨(z7 Z), _, 1, (z69 Z), f_Field___eq___at_Modulo Z, (hr.mono (Nat.le_of_ble_eq_true rfl) : Rm 1 _)⟩ ⟨1, fun _ => ⟨⟨_, (z69 Z), f_Field___eq___at_Modulo Z, (hr.mono (Nat.le_of_ble_eq_true rfl) : Rm 2 _)⟩, (z70 Z)⟩⟩ (z71 Z) .nil)))) (.cons ⟨(z9 Z), _, 1, (z73 Z), f_Field___eq___at_Fractions Z, (hr.mono (Nat.le_of_ble_eq_true rfl) : Rm 1 _)⟩ ⟨1, fun _ => ⟨⟨_, (z73 Z), f_Field___eq___at_Fractions Z, (hr.mono (Nat.le_of_ble_eq_true rfl) : Rm 2 _)⟩, (z74 Z)⟩⟩ (z82 Z) (.cons ⟨(z9 Z), _, 1, (z73 Z), f_Field___eq___at_Fractions Z, (hr.mono (Nat.le_of_ble_eq_true rfl) : Rm 1 _)⟩ ⟨1, fun _ => ⟨⟨_, (z73 Z), f_Field___eq___at_Fractions Z, (hr.mono (Nat.le_of_ble_eq_true rfl) : Rm 2 _)⟩, (z74 Z)⟩⟩ (z81 Z) (.cons ⟨(z9 Z), _, 1, (z73 Z), f_Field___eq___at_Fractions Z, (hr.mono (Nat.le_of_ble_eq_true rfl) : Rm 1 _)⟩ ⟨1, fun _ => ⟨⟨_, (z73 Z), f_Field___eq___at_Fractions Z, (hr.mono (Nat.le_of_ble_eq_true rfl) : Rm 2 _)⟩, (z74 Z)⟩⟩ (z80 Z) (.cons ⟨(z7 Z), _, 1, (z69 Z), f_Field___eq___at_Modulo Z, (hr.mono (Nat.le_of_ble_eq_true rfl) : Rm 1 _)⟩ ⟨1, fun _ => ⟨⟨_, (z69 Z), f_Field___eq___at_Modulo Z, (hr.mono (Nat.le_of_ble_eq_true rfl) : Rm 2 _)⟩, (z70 Z)⟩⟩ (z79 Z) (.cons ⟨(z7 Z), _, 1, (z69 Z), f_Field___eq___at_Modulo Z, (hr.mono (Nat.le_of_ble_eq_true rfl) : Rm 1 _)⟩ ⟨1, fun _ => ⟨⟨_, (z69 Z), f_Field___eq___at_Modulo Z, (hr.mono (Nat.le_of_ble_eq_true rfl) : Rm 2 _)⟩, (z70 Z)⟩⟩ (z78 Z) (.cons ⟨(z7 Z), _, 1, (z69 Z), f_Field___eq___at_Modulo Z, (hr.mono (Nat.le_of_ble_eq_true rfl) : Rm 1 _)⟩ ⟨1, fun _ => ⟨⟨_, (z69 Z), f_Field___eq___at_Modulo Z, (hr.mono (Nat.le_of_ble_eq_true rfl) : Rm 2 _)⟩, (z70 Z)⟩⟩ (z77 Z) .nil)))))) (ev 6) (e_if (t_isN (ev 11) e_non) e_str (e_call tk (f__law_made_field Z) (hr.mono (Nat.le_of_ble_eq_true rfl) : Rm 6 _) rfl (z93 Z) (k__law_made_field Z) (a_cons (ev 11) a_nil)))) (s_one (s_ret e_bl)) s_nil)
    (s_cons (s_set nd rfl (by first | exact .inl rfl | exact .inr rfl) (e_call tk (f__law_odd Z) (hr.mono (Nat.le_of_ble_eq_true rfl) : Rm 3 _) rfl (z51 Z) (k__law_odd Z) (a_cons (ev 1) a_nil)))
    (s_one (s_if (PW.pt (w_and (t_notInTx hu (ev 7) (e_lst false (a_cons e_str (a_cons e_str a_nil)))) (w_and1 (t_nePO tk hu (.cons ⟨(z9 Z), _, 1, (z73 Z), f_Field___eq___at_Fractions Z, (hr.mono (Nat.le_of_ble_eq_true rfl) : Rm 1 _)⟩ ⟨1, fun _ => ⟨⟨_, (z73 Z), f_Field___eq___at_Fractions Z, (hr.mono (Nat.le_of_ble_eq_true rfl) : Rm 2 _)⟩, (z74 Z)⟩⟩ (z76 Z) (.cons ⟨(z9 Z), _, 1, (z73 Z), f_Field___eq___at_Fractions Z, (hr.mono (Nat.le_of_ble_eq_true rfl) : Rm 1 _)⟩ ⟨1, fun _ => ⟨⟨_, (z73 Z), f_Field___eq___at_Fractions Z, (hr.mono (Nat.le_of_ble_eq_true rfl) : Rm 2 _)⟩, (z74 Z)⟩⟩ (z75 Z) (.cons ⟨(z7 Z), _, 1, (z69 Z), f_Field___eq___at_Modulo Z, (hr.mono (Nat.le_of_ble_eq_true rfl) : Rm 1 _)⟩ ⟨1, fun _ => ⟨⟨_, (z69 Z), f_Field___eq___at_Modulo Z, (hr.mono (Nat.le_of_ble_eq_true rfl) : Rm 2 _)⟩, (z70 Z)⟩⟩ (z72 Z) (.cons ⟨(z7 Z), _, 1, (z69 Z), f_Field___eq___at_Modulo Z, (hr.mono (Nat.le_of_ble_eq_true rfl) : Rm 1 _)⟩ ⟨1, fun _ => ⟨⟨_, (z69 Z), f_Field___eq___at_Modulo Z, (hr.mono (Nat.le_of_ble_eq_true rfl) : Rm 2 _)⟩, (z70 Z)⟩⟩ (z71 Z) .nil)))) (.cons ⟨(z9 Z), _, 1, (z73 Z), f_Field___eq___at_Fractions Z, (hr.mono (Nat.le_of_ble_eq_true rfl) : Rm 1 _)⟩ ⟨1, fun _ => ⟨⟨_, (z73 Z), f_Field___eq___at_Fractions Z, (hr.mono (Nat.le_of_ble_eq_true rfl) : Rm 2 _)⟩, (z74 Z)⟩⟩ (z82 Z) (.cons ⟨(z9 Z), _, 1, (z73 Z), f_Field___eq___at_Fractions Z, (hr.mono (Nat.le_of_ble_eq_true rfl) : Rm 1 _)⟩ ⟨1, fun _ => ⟨⟨_, (z73 Z), f_Field___eq___at_Fractions Z, (hr.mono (Nat.le_of_ble_eq_true rfl) : Rm 2 _)⟩, (z74 Z)⟩⟩ (z81 Z) (.cons ⟨(z9 Z), _, 1, (z73 Z), f_Field___eq___at_Fractions Z, (hr.mono (Nat.le_of_ble_eq_true rfl) : Rm 1 _)⟩ ⟨1, fun _ => ⟨⟨_, (z73 Z), f_Field___eq___at_Fractions Z, (hr.mono (Nat.le_of_ble_eq_true rfl) : Rm 2 _)⟩, (z74 Z)⟩⟩ (z80 Z) (.cons ⟨(z7 Z), _, 1, (z69 Z), f_Field___eq___at_Modulo Z, (hr.mono (Nat.le_of_ble_eq_true rfl) : Rm 1 _)⟩ ⟨1, fun _ => ⟨⟨_, (z69 Z), f_Field___eq___at_Modulo Z, (hr.mono (Nat.le_of_ble_eq_true rfl) : Rm 2 _)⟩, (z70 Z)⟩⟩ (z79 Z) (.cons ⟨(z7 Z), _, 1, (z69 Z), f_Field___eq___at_Modulo Z, (hr.mono (Nat.le_of_ble_eq_true rfl) : Rm 1 _)⟩ ⟨1, fun _ => ⟨⟨_, (z69 Z), f_Field___eq___at_Modulo Z, (hr.mono (Nat.le_of_ble_eq_true rfl) : Rm 2 _)⟩, (z70 Z)⟩⟩ (z78 Z) (.cons ⟨(z7 Z), _, 1, (z69 Z), f_Field___eq___at_Modulo Z, (hr.mono (Nat.le_of_ble_eq_true rfl) : Rm 1 _)⟩ ⟨1, fun _ => ⟨⟨_, (z69 Z), f_Field___eq___at_Modulo Z, (hr.mono (Nat.le_of_ble_eq_true rfl) : Rm 2 _)⟩, (z70 Z)⟩⟩ (z77 Z) .nil)))))) (e_call tk (f__law_read Z) (hr.mono (Nat.le_of_ble_eq_true rfl) : Rm 7 _) rfl (z92 Z) (k__law_read Z) (a_cons (ev 7) a_nil)) e_str)))) (s_one (s_ret e_bl)) s_nil))))))))))))))
    (s_one (s_ret e_bl)))))))
theorem f_law (Z : FX K mg) : FnD PP w K mg base 8 ((fun K => He.ga K "law") K) m_law := by
  obtain ⟨fd, F0⟩ := Z.df 28 (d := d_law) rfl rfl
  have F : FunD K "law" "law" (defArgs s_law) (defBody s_law) (defScope s_law) [] [] ((fun K => He.ga K "law") K) fd := cast (by kernel_rfl) F0
  exact fn_ok0 (x := "law") (qual := "law") (params := defArgs s_law) (body := defBody s_law) (scope := defScope s_law) (kws := []) (N := ["_law_script", "_law_pen_here", "_law_whole", "_law_turn", "_law_thing", "_law_field", "_law_told", "_law_odd_here", "_law_prime_here", "_law_other", "_law_text", "_law_due"]) (ps := ["_law_script"]) (k := 7) (b := b_law) F ⟨by kernel_rfl, by kernel_rfl, by kernel_rfl, by decide +kernel, by kernel_rfl, by decide +kernel, by decide +kernel⟩ (fun _ _ _ _ _ _ us hl => match us, hl with | [_], _ => by kernel_rfl) (c_law Z)
end
end G
set_option Elab.async false
set_option linter.all false
set_option maxRecDepth 100000
set_option maxHeartbeats 4000000
namespace G
open Mp Pl
open PySem (Str sizeLine)
local macro_rules | `(tactic| wtm_at "e") => `(tactic| first
  | with_reducible refine w_set ?_
  | with_reducible refine w_bin ?_
  | ((with_reducible refine w_v (d := ?dv) ?hv ?_); (case hv => exact rfl))
  | with_reducible refine w_c ?_
  | with_reducible refine w_cons ?_
  | with_reducible refine w_nil ?_
  | with_reducible refine w_arg ?_
  | with_reducible refine w_call ?_
  | with_reducible refine w_if ?_
  | with_reducible refine w_ret ?_
  | with_reducible refine w_skip ?_
  | with_reducible refine w_bl ?_
  | with_reducible refine w_tru ?_
  | with_reducible refine w_attr ?_
  | with_reducible refine w_meth ?_
  | with_reducible refine w_chain ?_
  | with_reducible refine w_and ?_
  | with_reducible refine w_or ?_
  | with_reducible refine w_not ?_
  | with_reducible refine w_notT ?_
  | with_reducible refine w_andT ?_
  | with_reducible refine w_orT ?_
  | with_reducible refine w_ifM ?_
  | with_reducible refine w_expr ?_
  | with_reducible refine w_un ?_
  | with_reducible refine w_par2 ?_
  | with_reducible refine w_par3 ?_
  | with_reducible refine w_asg ?_
  | with_reducible refine w_aug ?_
  | with_reducible refine w_sub ?_
  | with_reducible refine w_fld ?_
  | with_reducible refine w_raise ?_
  | with_reducible refine w_raise0 ?_
  | with_reducible refine w_try ?_
  | with_reducible refine w_make ?_
  | with_reducible refine w_tryAs ?_
  | with_reducible refine w_exn ?_
  | ((with_reducible refine o_isx (b := ?bv) ?h1 ?_); (case h1 => exact rfl))
  | with_reducible refine w_superS ?_
  | with_reducible refine w_super ?_
  | with_reducible refine w_star ?_
  | with_reducible refine w_for0 ?_
  | with_reducible refine w_lc0 ?_
  | with_reducible refine w_lc20 ?_
  | with_reducible refine w_seqJ ?_
  | with_reducible refine w_starC ?_
  | with_reducible refine w_spr ?_
  | with_reducible refine w_kwA ?_
  | with_reducible refine w_kwM ?_
  | with_reducible refine w_sprK ?_
  | with_reducible refine w_get ?_
  | with_reducible refine w_makeL ?_
  | with_reducible refine w_tryN ?_
  | ((with_reducible refine o_own0 ?hv ?_); (case hv => exact rfl))
  | ((with_reducible refine o_eqO0 ?hv ?_); (case hv => exact rfl))
  | with_reducible refine w_seqI ?_
  | with_reducible refine w_argI ?_
  | with_reducible refine w_opt ?_
  | with_reducible refine w_sli ?_
  | with_reducible refine w_pure ?_
  | with_reducible refine w_disp ?_
  | with_reducible refine w_pairs1 ?_
  | with_reducible refine w_pairs0 ?_
  | with_reducible refine w_retN ?_
  | with_reducible refine w_cnt ?_
  | with_reducible refine w_brk ?_
  | with_reducible refine o_addI ?_
  | with_reducible refine o_addI' ?_
  | with_reducible refine o_sub ?_
  | with_reducible refine o_lt ?_
  | with_reducible refine o_le ?_
  | with_reducible refine o_gt ?_
  | with_reducible refine o_ge ?_
  | with_reducible refine o_eqI ?_
  | with_reducible refine o_neI ?_
  | with_reducible refine o_eqS ?_
  | with_reducible refine o_neS ?_
  | with_reducible refine o_int ?_
  | with_reducible refine o_intB ?_
  | with_reducible refine o_neg ?_
  | with_reducible refine o_abs ?_
  | with_reducible refine o_newL ?_
  | with_reducible refine o_max2 ?_
  | with_reducible refine o_min2 ?_
  | with_reducible refine o_lenL ?_
  | with_reducible refine o_lenT ?_
  | ((with_reducible refine o_tup ?hv ?_); (case hv => first | exact Nat.le_of_ble_eq_true rfl | assumption))
  | ((with_reducible refine o_lst ?hv ?_); (case hv => first | exact Nat.le_of_ble_eq_true rfl | assumption))
  | ((with_reducible refine o_isi (t := ?tv) (b := ?bv) ?h1 ?h2 ?_); (case h1 => exact rfl); (case h2 => exact rfl))
  | ((with_reducible refine o_fld (C := ?cv) (fs := ?fv) (d := ?dv) ?h1 ?h2 ?h3 ?_); (case h1 => exact rfl); (case h2 => exact rfl); (case h3 => exact rfl))
  | ((with_reducible refine Exists.intro ?kv (And.intro ?ha ?_)); (case ha => exact rfl)))
local macro_rules | `(tactic| wtm_at "body") => `(tactic| (refine w_body rfl rfl ?_; dsimp only [List.length_cons, List.length_nil, List.drop, List.append_nil, List.map_cons, List.map_nil, List.map, List.cons_append, List.nil_append, Nat.reduceAdd, Nat.reduceSub, List.replicate]))
local macro_rules | `(tactic| wtm_at "meth") => `(tactic| refine ⟨_, _, _, rfl, rfl, rfl, ?_⟩)
local macro_rules | `(tactic| wtm_at "w") => `(tactic| first | with_reducible refine w_seq ?_ | wtm_at "e")
local macro_rules | `(tactic| wtm_at "s") => `(tactic| ((repeat wtm_at "e"); (with_reducible refine w_seq ?_)))
local macro_rules | `(tactic| wtm_at "f") => `(tactic| ((repeat wtm_at "e"); (with_reducible show FP _ _)))
/-! checks -/
theorem q_is_integer_int {i : Int} {s : Sto} {Q : D → Sto → Prop} {E : XT} (h : Q (.bl true) s) : RP Q E (m_is_integer [.int i] s) := h
/-! digits -/
theorem q_is_between_int {v a b : Int} {s : Sto} {Q : D → Sto → Prop} {E : XT} (h : Q (.bl (decide (a ≤ v) && decide (v ≤ b))) s) : RP Q E (m_is_between [.int v, .int a, .int b] s) := by
  wtm_at "body"
  unfold b_is_between
  repeat wtm_at "w"
  refine q_is_integer_int ?_
  repeat wtm_at "w"
  refine ⟨fun _ => ?_, fun hk => by cases hk⟩
  repeat wtm_at "w"
  refine ⟨fun hk => ?_, fun hk => ?_⟩
  · repeat wtm_at "w"
    rw [hk] at h
    exact h
  · rw [hk] at h
    exact h
/-! Modulo -/
abbrev fM (p : Int) : D := .ins "Modulo" [("own_prime", .int p)]
section
variable {p v w : Int} {s : Sto} {Q : D → Sto → Prop} {E : XT}
theorem q_power {m t : Int} (hm : 2 ≤ m) (hm2 : m ≤ 1000000000) (hv : 0 ≤ v) (hv2 : v < 18446744073709551616) (ht : 0 ≤ t) (h : Q (.int (v ^ t.toNat % m)) s) : RP Q E (m_power [.int v, .int t, .int m] s) := by
  wtm_at "body"
  unfold b_power
  repeat wtm_at "w"
  refine w_while (fun n r s' => s' = s ∧ ∃ x u f, r = [some (.int x), some (.int u), some (.int m), some (.int f)] ∧ u.toNat = n ∧ 0 ≤ u ∧ 0 ≤ x ∧ x < 18446744073709551616 ∧ 0 ≤ f ∧ f < m ∧ (f * x ^ u.toNat) % m = v ^ t.toNat % m) ?_ t.toNat _ _ ⟨rfl, v, t, 1, rfl, rfl, ht, hv, hv2, by decide, by omega, by rw [Int.one_mul]⟩
  rintro n r s' ⟨rfl, x, u, f, rfl, hn, hu, hx, hx2, hf, hfm, he⟩
  repeat wtm_at "w"
  refine ⟨fun hk => ?_, fun hk => ?_⟩
  · have hk := of_decide_eq_true hk
    have b1 : ∀ a b : Int, 0 ≤ a * b % m ∧ a * b % m < m := fun a b => ⟨Int.emod_nonneg _ (by omega), Int.emod_lt_of_pos _ (by omega)⟩
    repeat wtm_at "w"
    refine o_mod (by decide) ?_
    repeat wtm_at "w"
    refine ⟨fun ho => ?_, fun ho => ?_⟩
    · have ho := of_decide_eq_true ho
      repeat wtm_at "w"
      refine o_mul64 (by omega) (by omega) ?_
      repeat wtm_at "w"
      refine o_mod (by omega) ?_
      repeat wtm_at "w"
      refine o_mul64 (by omega) (by omega) ?_
      repeat wtm_at "w"
      refine o_mod (by omega) ?_
      repeat wtm_at "w"
      refine o_div64 (by decide) (by decide) ?_
      have h1 := b1 f x
      have h2 := b1 x x
      refine ⟨(u / 2).toNat, by omega, rfl, _, _, _, rfl, rfl, by omega, h2.1, by omega, h1.1, h1.2, ?_⟩
      rw [show (u / 2).toNat = u.toNat / 2 by omega, pw_odd (by omega)]
      exact he
    · have ho := of_decide_eq_false ho
      repeat wtm_at "w"
      refine o_mul64 (by omega) (by omega) ?_
      repeat wtm_at "w"
      refine o_mod (by omega) ?_
      repeat wtm_at "w"
      refine o_div64 (by decide) (by decide) ?_
      have h2 := b1 x x
      refine ⟨(u / 2).toNat, by omega, rfl, _, _, _, rfl, rfl, by omega, h2.1, by omega, hf, hfm, ?_⟩
      rw [show (u / 2).toNat = u.toNat / 2 by omega, pw_even (by omega)]
      exact he
  · have hk := of_decide_eq_false hk
    repeat wtm_at "w"
    have e : u.toNat = 0 := by omega
    rw [e, Int.pow_zero, Int.mul_one, Int.emod_eq_of_lt hf hfm] at he
    rw [he]
    exact h
end
/-! Fractions -/
def Sz (n : Nat) (q : Rat) : Prop := q.num.natAbs < 2 ^ n ∧ q.den < 2 ^ n
theorem Sz.mono {n m : Nat} {q : Rat} (h : Sz n q) (hm : n ≤ m) : Sz m q := ⟨Nat.lt_of_lt_of_le h.1 (Nat.pow_le_pow_right (by decide) hm), Nat.lt_of_lt_of_le h.2 (Nat.pow_le_pow_right (by decide) hm)⟩
theorem divInt_sz {t b : Int} (h : b ≠ 0) : (Rat.divInt t b).num.natAbs ≤ t.natAbs ∧ (Rat.divInt t b).den ≤ b.natAbs := by
  obtain ⟨h1, h2⟩ := rat_nf (t := t) h
  constructor
  · rw [h1]
    exact Int.natAbs_ediv_le_natAbs _ _
  · have h3 := Int.natAbs_ediv_le_natAbs b (dv t b)
    rw [← h2] at h3
    exact h3
theorem pow_mul_lt {a b x y : Nat} (hx : x < 2 ^ a) (hy : y < 2 ^ b) : x * y < 2 ^ (a + b) := by
  rw [Nat.pow_add]
  exact Nat.mul_lt_mul'' hx hy
theorem den_ne (q : Rat) : ((q.den : Nat) : Int) ≠ 0 := by
  have := q.den_nz
  omega
theorem add_dv (p q : Rat) : p + q = Rat.divInt (p.num * q.den + q.num * p.den) (p.den * q.den) := by
  rw [← Rat.divInt_add_divInt _ _ (den_ne p) (den_ne q), Rat.num_divInt_den, Rat.num_divInt_den]
theorem mul_dv (p q : Rat) : p * q = Rat.divInt (p.num * q.num) (p.den * q.den) := by
  rw [← Rat.divInt_mul_divInt, Rat.num_divInt_den, Rat.num_divInt_den]
theorem div_dv (p q : Rat) : p / q = Rat.divInt (p.num * q.den) (p.den * q.num) := by
  rw [← Rat.divInt_mul_divInt, Rat.num_divInt_den, ← Rat.inv_divInt, Rat.num_divInt_den, Rat.div_def]
theorem Sz.add {n : Nat} {p q : Rat} (hp : Sz n p) (hq : Sz n q) : Sz (2 * n + 1) (p + q) := by
  have hd : ((p.den : Nat) : Int) * (q.den : Nat) ≠ 0 := Int.mul_ne_zero (den_ne p) (den_ne q)
  have h := divInt_sz (t := p.num * q.den + q.num * p.den) hd
  rw [← add_dv] at h
  have h1 : (p.num * q.den).natAbs < 2 ^ (n + n) := by
    rw [Int.natAbs_mul]
    exact pow_mul_lt hp.1 hq.2
  have h2 : (q.num * p.den).natAbs < 2 ^ (n + n) := by
    rw [Int.natAbs_mul]
    exact pow_mul_lt hq.1 hp.2
  have h3 : (((p.den : Nat) : Int) * (q.den : Nat)).natAbs < 2 ^ (n + n) := by
    rw [Int.natAbs_mul]
    exact pow_mul_lt hp.2 hq.2
  have e : 2 ^ (2 * n + 1) = 2 ^ (n + n) + 2 ^ (n + n) := by rw [Nat.pow_succ, show 2 * n = n + n by omega]; omega
  constructor
  · rw [e]
    omega
  · rw [e]
    omega
theorem Sz.mul {n : Nat} {p q : Rat} (hp : Sz n p) (hq : Sz n q) : Sz (2 * n) (p * q) := by
  have hd : ((p.den : Nat) : Int) * (q.den : Nat) ≠ 0 := Int.mul_ne_zero (den_ne p) (den_ne q)
  have h := divInt_sz (t := p.num * q.num) hd
  rw [← mul_dv] at h
  rw [Nat.two_mul]
  constructor
  · refine Nat.lt_of_le_of_lt h.1 ?_
    rw [Int.natAbs_mul]
    exact pow_mul_lt hp.1 hq.1
  · refine Nat.lt_of_le_of_lt h.2 ?_
    rw [Int.natAbs_mul]
    exact pow_mul_lt hp.2 hq.2
theorem num_ne {q : Rat} (h : q ≠ 0) : q.num ≠ 0 := fun z => h (Rat.num_eq_zero.mp z)
theorem Sz.div {n : Nat} {p q : Rat} (hp : Sz n p) (hq : Sz n q) (h0 : q ≠ 0) : Sz (2 * n) (p / q) := by
  have hd : ((p.den : Nat) : Int) * q.num ≠ 0 := Int.mul_ne_zero (den_ne p) (num_ne h0)
  have h := divInt_sz (t := p.num * q.den) hd
  rw [← div_dv] at h
  rw [Nat.two_mul]
  constructor
  · refine Nat.lt_of_le_of_lt h.1 ?_
    rw [Int.natAbs_mul]
    exact pow_mul_lt hp.1 hq.2
  · refine Nat.lt_of_le_of_lt h.2 ?_
    rw [Int.natAbs_mul]
    exact pow_mul_lt hp.2 hq.1
abbrev fF : D := .ins "Fractions" [("own_prime", .non)]
section
end
end G
set_option Elab.async false
set_option linter.all false
set_option maxRecDepth 100000
set_option maxHeartbeats 4000000
namespace G
open Mp Pl
open PySem (Str sizeLine)
local macro_rules | `(tactic| wtm_at "e") => `(tactic| first
  | with_reducible refine w_set ?_
  | with_reducible refine w_bin ?_
  | ((with_reducible refine w_v (d := ?dv) ?hv ?_); (case hv => exact rfl))
  | with_reducible refine w_c ?_
  | with_reducible refine w_cons ?_
  | with_reducible refine w_nil ?_
  | with_reducible refine w_arg ?_
  | with_reducible refine w_call ?_
  | with_reducible refine w_if ?_
  | with_reducible refine w_ret ?_
  | with_reducible refine w_skip ?_
  | with_reducible refine w_bl ?_
  | with_reducible refine w_tru ?_
  | with_reducible refine w_attr ?_
  | with_reducible refine w_meth ?_
  | with_reducible refine w_chain ?_
  | with_reducible refine w_and ?_
  | with_reducible refine w_or ?_
  | with_reducible refine w_not ?_
  | with_reducible refine w_notT ?_
  | with_reducible refine w_andT ?_
  | with_reducible refine w_orT ?_
  | with_reducible refine w_ifM ?_
  | with_reducible refine w_expr ?_
  | with_reducible refine w_un ?_
  | with_reducible refine w_par2 ?_
  | with_reducible refine w_par3 ?_
  | with_reducible refine w_asg ?_
  | with_reducible refine w_aug ?_
  | with_reducible refine w_sub ?_
  | with_reducible refine w_fld ?_
  | with_reducible refine w_raise ?_
  | with_reducible refine w_raise0 ?_
  | with_reducible refine w_try ?_
  | with_reducible refine w_make ?_
  | with_reducible refine w_tryAs ?_
  | with_reducible refine w_exn ?_
  | ((with_reducible refine o_isx (b := ?bv) ?h1 ?_); (case h1 => exact rfl))
  | with_reducible refine w_superS ?_
  | with_reducible refine w_super ?_
  | with_reducible refine w_star ?_
  | with_reducible refine w_for0 ?_
  | with_reducible refine w_lc0 ?_
  | with_reducible refine w_lc20 ?_
  | with_reducible refine w_seqJ ?_
  | with_reducible refine w_starC ?_
  | with_reducible refine w_spr ?_
  | with_reducible refine w_kwA ?_
  | with_reducible refine w_kwM ?_
  | with_reducible refine w_sprK ?_
  | with_reducible refine w_get ?_
  | with_reducible refine w_makeL ?_
  | with_reducible refine w_tryN ?_
  | ((with_reducible refine o_own0 ?hv ?_); (case hv => exact rfl))
  | ((with_reducible refine o_eqO0 ?hv ?_); (case hv => exact rfl))
  | with_reducible refine w_seqI ?_
  | with_reducible refine w_argI ?_
  | with_reducible refine w_opt ?_
  | with_reducible refine w_sli ?_
  | with_reducible refine w_pure ?_
  | with_reducible refine w_disp ?_
  | with_reducible refine w_pairs1 ?_
  | with_reducible refine w_pairs0 ?_
  | with_reducible refine w_retN ?_
  | with_reducible refine w_cnt ?_
  | with_reducible refine w_brk ?_
  | with_reducible refine o_addI ?_
  | with_reducible refine o_addI' ?_
  | with_reducible refine o_sub ?_
  | with_reducible refine o_lt ?_
  | with_reducible refine o_le ?_
  | with_reducible refine o_gt ?_
  | with_reducible refine o_ge ?_
  | with_reducible refine o_eqI ?_
  | with_reducible refine o_neI ?_
  | with_reducible refine o_eqS ?_
  | with_reducible refine o_neS ?_
  | with_reducible refine o_int ?_
  | with_reducible refine o_intB ?_
  | with_reducible refine o_neg ?_
  | with_reducible refine o_abs ?_
  | with_reducible refine o_newL ?_
  | with_reducible refine o_max2 ?_
  | with_reducible refine o_min2 ?_
  | with_reducible refine o_lenL ?_
  | with_reducible refine o_lenT ?_
  | ((with_reducible refine o_tup ?hv ?_); (case hv => first | exact Nat.le_of_ble_eq_true rfl | assumption))
  | ((with_reducible refine o_lst ?hv ?_); (case hv => first | exact Nat.le_of_ble_eq_true rfl | assumption))
  | ((with_reducible refine o_isi (t := ?tv) (b := ?bv) ?h1 ?h2 ?_); (case h1 => exact rfl); (case h2 => exact rfl))
  | ((with_reducible refine o_fld (C := ?cv) (fs := ?fv) (d := ?dv) ?h1 ?h2 ?h3 ?_); (case h1 => exact rfl); (case h2 => exact rfl); (case h3 => exact rfl))
  | ((with_reducible refine Exists.intro ?kv (And.intro ?ha ?_)); (case ha => exact rfl)))
local macro_rules | `(tactic| wtm_at "body") => `(tactic| (refine w_body rfl rfl ?_; dsimp only [List.length_cons, List.length_nil, List.drop, List.append_nil, List.map_cons, List.map_nil, List.map, List.cons_append, List.nil_append, Nat.reduceAdd, Nat.reduceSub, List.replicate]))
local macro_rules | `(tactic| wtm_at "meth") => `(tactic| refine ⟨_, _, _, rfl, rfl, rfl, ?_⟩)
local macro_rules | `(tactic| wtm_at "w") => `(tactic| first | with_reducible refine w_seq ?_ | wtm_at "e")
local macro_rules | `(tactic| wtm_at "s") => `(tactic| ((repeat wtm_at "e"); (with_reducible refine w_seq ?_)))
local macro_rules | `(tactic| wtm_at "f") => `(tactic| ((repeat wtm_at "e"); (with_reducible show FP _ _)))
/-! primes -/
def hit (v : Int) : Int → Nat → Bool
  | _, 0 => false
  | f, n + 1 => decide (f * f % v = v - 1) || hit v (f * f % v) n
def witF (v : Int) (o h : Nat) (a : Int) : Bool := if a ^ o % v = 1 ∨ a ^ o % v = v - 1 then false else !hit v (a ^ o % v) (h - 1)
def smalls : List Int := [2, 3, 5, 7, 11, 13, 17, 19, 23, 29, 31, 37]
def primeF (v : Int) (o h : Nat) : Bool := match smalls.find? fun p => decide (v % p = 0) with
  | some p => decide (v = p)
  | none => !([2, 3, 5, 7].map (witF v o h)).any id
section
variable {v a : Int} {o h : Nat} {s : Sto} {Q : D → Sto → Prop} {E : XT}
theorem q_is_witness (ha : 0 ≤ a) (ha2 : a < 18446744073709551616) (hv : 3 ≤ v) (hv2 : v ≤ 1000000000) (ho : v - 1 = o * 2 ^ h) (hod : o % 2 = 1) (hh : h ≤ 60) (hq : Q (.bl (witF v o h a)) s) : RP Q E (m_is_witness [.int a, .int v] s) := by
  wtm_at "body"
  unfold b_is_witness
  repeat wtm_at "w"
  refine ⟨_, _, rfl, ?_⟩
  repeat wtm_at "w"
  refine w_while (fun n r s' => s' = s ∧ ∃ k, k ≤ h ∧ r = [some (.int a), some (.int v), none, none, some (.int ((o * 2 ^ (h - k) : Nat) : Int)), some (.int (k : Nat))] ∧ h - k = n) ?_ h _ _ ⟨rfl, 0, Nat.zero_le _, by rw [ho]; simp, rfl⟩
  rintro n r s' ⟨rfl, k, hk, rfl, hn⟩
  repeat wtm_at "w"
  refine o_mod (by decide) ?_
  repeat wtm_at "w"
  refine ⟨fun hz => ?_, fun hz => ?_⟩
  · have hz := of_decide_eq_true hz
    have hlt : k < h := by
      refine Nat.lt_of_le_of_ne hk fun e => ?_
      subst e
      rw [Nat.sub_self, Nat.pow_zero, Nat.mul_one] at hz
      omega
    repeat wtm_at "w"
    refine o_div64 (by decide) (by decide) ?_
    repeat wtm_at "w"
    refine ⟨_, _, rfl, ?_⟩
    refine ⟨h - (k + 1), by omega, rfl, k + 1, hlt, ?_, rfl⟩
    have e : ((o * 2 ^ (h - k) : Nat) : Int) / 2 = ((o * 2 ^ (h - (k + 1)) : Nat) : Int) := by
      rw [show h - k = h - (k + 1) + 1 by omega, Nat.pow_succ, ← Nat.mul_assoc]
      omega
    show [some (D.int a), some (.int v), none, none, some (.int (((o * 2 ^ (h - k) : Nat) : Int) / 2)), some (.int ((k : Int) + 1))] = _
    rw [e]
    rfl
  · have hz := of_decide_eq_false hz
    have hkh : h - k = 0 := by
      refine Nat.eq_zero_of_not_pos fun hp => hz ?_
      rw [show h - k = h - k - 1 + 1 by omega, Nat.pow_succ, ← Nat.mul_assoc]
      omega
    obtain rfl : k = h := by omega
    repeat wtm_at "w"
    rw [Nat.sub_self, Nat.pow_zero, Nat.mul_one]
    refine q_power (by omega) hv2 ha ha2 (by omega) ?_
    repeat wtm_at "w"
    have e : ((o : Nat) : Int).toNat = o := by omega
    rw [e]
    unfold witF at hq
    refine ⟨fun h1 => ?_, fun h1 => ?_⟩
    · have h1 := of_decide_eq_false h1
      repeat wtm_at "w"
      refine ⟨fun h2 => ?_, fun h2 => ?_⟩
      · rw [if_pos (.inr (of_decide_eq_true h2))] at hq
        repeat wtm_at "w"
        exact hq
      · have h2 := of_decide_eq_false h2
        rw [if_neg (by rintro (z | z); exact h1 z; exact h2 z)] at hq
        repeat wtm_at "w"
        refine w_range1 (by omega) (by omega) ?_
        have hb : ∀ f : Int, 0 ≤ f * f % v ∧ f * f % v < v := fun f => ⟨Int.emod_nonneg _ (by omega), Int.emod_lt_of_pos _ (by omega)⟩
        rw [show ((k : Nat) : Int) - 1 = ((k : Nat) : Int) - 1 from rfl, show (((k : Nat) : Int) - 1).toNat = k - 1 by omega]
        refine w_for (c := ⟨intL 0 (k - 1), none⟩) (fun i r s2 => s2 = s' ∧ i ≤ k - 1 ∧ ∃ f x, r = [some (.int a), some (.int v), some (.int f), x, some (.int (o : Nat)), some (.int (k : Nat))] ∧ 0 ≤ f ∧ f < v ∧ hit v (a ^ o % v) (k - 1) = hit v f (k - 1 - i)) rfl ⟨rfl, Nat.zero_le _, _, _, rfl, Int.emod_nonneg _ (by omega), Int.emod_lt_of_pos _ (by omega), rfl⟩ ?_ ?_
        · rintro i d r s' hd ⟨rfl, hi, f, x, rfl, hf0, hf1, hf⟩
          obtain ⟨hi, rfl⟩ := intL_get hd
          refine ⟨_, rfl, ?_⟩
          repeat wtm_at "w"
          refine o_mul64 (by omega) (by omega) ?_
          repeat wtm_at "w"
          refine o_mod (by omega) ?_
          repeat wtm_at "w"
          have hu : hit v f (k - 1 - i) = (decide (f * f % v = v - 1) || hit v (f * f % v) (k - 1 - (i + 1))) := by
            rw [show k - 1 - i = k - 1 - (i + 1) + 1 by omega]
            rfl
          refine ⟨fun h3 => ?_, fun h3 => ?_⟩
          · repeat wtm_at "w"
            rw [hf, hu, h3, Bool.true_or] at hq
            exact hq
          · repeat wtm_at "w"
            have hff := hb f
            refine ⟨rfl, hi, f * f % v, some (.int (0 + i)), rfl, hff.1, hff.2, ?_⟩
            rw [hf, hu, h3, Bool.false_or]
        · rintro r s' ⟨rfl, hi, f, x, rfl, hf0, hf1, hf⟩
          repeat wtm_at "w"
          rw [intL_len, Nat.sub_self] at hf
          rw [hf] at hq
          exact hq
    · rw [if_pos (.inl (of_decide_eq_true h1))] at hq
      refine ⟨fun _ => ?_, fun hk => by cases hk⟩
      repeat wtm_at "w"
      exact hq
theorem q_is_prime (hv : 2 ≤ v) (hv2 : v ≤ 1000000000) (ho : v - 1 = o * 2 ^ h) (hod : o % 2 = 1) (hh : h ≤ 60) (hq : Q (.bl (primeF v o h)) s) : RP Q E (m_is_prime [.int v] s) := by
  wtm_at "body"
  unfold b_is_prime
  repeat wtm_at "w"
  refine q_is_between_int ?_
  rw [decide_eq_true hv, decide_eq_true hv2]
  repeat wtm_at "w"
  refine ⟨fun hk => (by simp at hk), fun _ => ?_⟩
  repeat wtm_at "w"
  refine w_for (c := ⟨smalls.map .int, none⟩) (fun i r s' => s' = s ∧ (∃ x, r = [some (.int v), x, none]) ∧ (smalls.find? fun p => decide (v % p = 0)) = ((smalls.drop i).find? fun p => decide (v % p = 0)) ) rfl ⟨rfl, ⟨_, rfl⟩, rfl⟩ ?_ ?_
  · rintro i d r s' hd ⟨rfl, ⟨x, rfl⟩, hf⟩
    rw [List.getElem?_map] at hd
    cases hg : smalls[i]? with
    | none => rw [hg] at hd; cases hd
    | some p =>
      rw [hg] at hd
      cases hd
      have hp : 0 < p := by
        have : ∀ q ∈ smalls, (0 : Int) < q := by decide
        exact this p (List.mem_of_getElem? hg)
      have hdr : smalls.drop i = p :: smalls.drop (i + 1) := by
        rw [List.drop_eq_getElem_cons (List.getElem?_eq_some_iff.mp hg).1, (List.getElem?_eq_some_iff.mp hg).2]
      rw [hdr] at hf
      refine ⟨_, rfl, ?_⟩
      repeat wtm_at "w"
      refine o_mod hp ?_
      repeat wtm_at "w"
      refine ⟨fun hz => ?_, fun hz => ?_⟩
      · repeat wtm_at "w"
        unfold primeF at hq
        rw [hf, List.find?_cons_of_pos (p := fun p => decide (v % p = 0)) hz] at hq
        exact hq
      · repeat wtm_at "w"
        refine ⟨rfl, ⟨_, rfl⟩, ?_⟩
        rw [hf, List.find?_cons_of_neg (p := fun p => decide (v % p = 0)) (by rw [hz]; decide)]
  · rintro r s' ⟨rfl, ⟨x, rfl⟩, hf⟩
    have hf : (smalls.find? fun p => decide (v % p = 0)) = none := hf
    have h3 : 3 ≤ v := by
      have := List.find?_eq_none.mp hf 2 (by decide)
      simp only [decide_eq_true_eq] at this
      omega
    repeat wtm_at "w"
    refine w_lcP (c := ⟨[.int 2, .int 3, .int 5, .int 7], none⟩) (fun d => match d with
      | .int i => .bl (witF v o h i)
      | d => d) rfl (by show 4 ≤ sizeLine; decide) (fun d hd => ?_) ?_
    · have key : ∀ b : Int, 0 ≤ b → b < 100 → ∃ p, nameG 2 (.int b) (wipeE [some (.int v), x, none] [2]) s' = some (p, s') ∧ callM m_is_witness (consA (vM 2) (consA (vM 0) nilA)) p s' = .ok (.bl (witF v o h b)) s' := fun b hb hb2 => by
        refine ⟨[some (.int v), x, some (.int b)], rfl, ?_⟩
        have := (q_is_witness (s := s') (Q := fun d s2 => d = .bl (witF v o h b) ∧ s2 = s') hb (by omega) h3 hv2 ho hod hh ⟨rfl, rfl⟩).ex
        obtain ⟨d, s2, e, rfl, rfl⟩ := this
        exact e
      have hd : d = .int 2 ∨ d = .int 3 ∨ d = .int 5 ∨ d = .int 7 := by simpa using hd
      rcases hd with rfl | rfl | rfl | rfl
      · exact key 2 (by decide) (by decide)
      · exact key 3 (by decide) (by decide)
      · exact key 5 (by decide) (by decide)
      · exact key 7 (by decide) (by decide)
    · repeat wtm_at "w"
      refine o_any (l := [_, _, _, _]) rfl ?_
      repeat wtm_at "w"
      unfold primeF at hq
      rw [hf] at hq
      exact hq
def PrimeOk (v : Int) : Prop := 2 ≤ v ∧ v ≤ 1000000000 ∧ ∃ o h, v - 1 = (o : Nat) * 2 ^ (h : Nat) ∧ o % 2 = 1 ∧ h ≤ 60 ∧ primeF v o h = true
theorem pk2 : PrimeOk 2 := ⟨by decide, by decide, 1, 0, by decide, by decide, by decide, by decide +kernel⟩
theorem pk3 : PrimeOk 3 := ⟨by decide, by decide, 1, 1, by decide, by decide, by decide, by decide +kernel⟩
theorem pk5 : PrimeOk 5 := ⟨by decide, by decide, 1, 2, by decide, by decide, by decide, by decide +kernel⟩
theorem pk7 : PrimeOk 7 := ⟨by decide, by decide, 3, 1, by decide, by decide, by decide, by decide +kernel⟩
theorem pk101 : PrimeOk 101 := ⟨by decide, by decide, 25, 2, by decide, by decide, by decide, by decide +kernel⟩
theorem pkBig : PrimeOk 1000003 := ⟨by decide, by decide, 500001, 1, by decide, by decide, by decide, by decide +kernel⟩
end
theorem q_newM {p : Int} {s : Sto} {Q : D → Sto → Prop} {E : XT} (hp : PrimeOk p) (h : Q (fM p) (s ++ [none])) : RP (fun v s2 => v = .non ∧ RP Q E (freezeI false s.length s2)) E (m_Modulo___init__ [.cel s.length, .int p] (s ++ [some (.ins "Modulo" [])])) := by
  obtain ⟨h1, h2, o, hh, h3, h4, h5, h6⟩ := hp
  have hs : (s ++ [some (Ct.ins "Modulo" [])])[s.length]? = some (some (.ins "Modulo" [])) := by simp
  have hi : insOf (s ++ [some (Ct.ins "Modulo" [])]) (.cel s.length) = some (("Modulo" : Str), []) := by
    unfold insOf
    dsimp only
    rw [hs]
  wtm_at "body"
  unfold b_Modulo___init__
  repeat wtm_at "w"
  refine q_is_prime h1 h2 h3 h4 h5 ?_
  rw [h6]
  repeat wtm_at "w"
  refine ⟨fun hk => (by cases hk), fun _ => ?_⟩
  repeat wtm_at "w"
  refine ⟨_, _, _, hi, rfl, ?_⟩
  repeat wtm_at "w"
  refine w_body rfl rfl ?_
  unfold b_Field___init__
  repeat wtm_at "w"
  refine ⟨_, _, _, rfl, hs, by decide, by decide, ?_⟩
  repeat wtm_at "w"
  refine ⟨rfl, w_freeze (C := "Modulo") (fs := [("own_prime", .int p)]) ?_ ?_⟩
  · rw [List.getElem?_set_self (by simp)]
    rfl
  · rw [List.set_set]
    have e : (s ++ [some (Ct.ins "Modulo" [])]).set s.length none = s ++ [none] := by simp
    rw [e]
    exact h
end G
set_option Elab.async false
set_option linter.all false
set_option maxRecDepth 100000
set_option maxHeartbeats 4000000
namespace G
open Mp Pl
open PySem (Str sizeLine)
local macro_rules | `(tactic| wtm_at "e") => `(tactic| first
  | with_reducible refine w_set ?_
  | with_reducible refine w_bin ?_
  | ((with_reducible refine w_v (d := ?dv) ?hv ?_); (case hv => exact rfl))
  | with_reducible refine w_c ?_
  | with_reducible refine w_cons ?_
  | with_reducible refine w_nil ?_
  | with_reducible refine w_arg ?_
  | with_reducible refine w_call ?_
  | with_reducible refine w_if ?_
  | with_reducible refine w_ret ?_
  | with_reducible refine w_skip ?_
  | with_reducible refine w_bl ?_
  | with_reducible refine w_tru ?_
  | with_reducible refine w_attr ?_
  | with_reducible refine w_meth ?_
  | with_reducible refine w_chain ?_
  | with_reducible refine w_and ?_
  | with_reducible refine w_or ?_
  | with_reducible refine w_not ?_
  | with_reducible refine w_notT ?_
  | with_reducible refine w_andT ?_
  | with_reducible refine w_orT ?_
  | with_reducible refine w_ifM ?_
  | with_reducible refine w_expr ?_
  | with_reducible refine w_un ?_
  | with_reducible refine w_par2 ?_
  | with_reducible refine w_par3 ?_
  | with_reducible refine w_asg ?_
  | with_reducible refine w_aug ?_
  | with_reducible refine w_sub ?_
  | with_reducible refine w_fld ?_
  | with_reducible refine w_raise ?_
  | with_reducible refine w_raise0 ?_
  | with_reducible refine w_try ?_
  | with_reducible refine w_make ?_
  | with_reducible refine w_tryAs ?_
  | with_reducible refine w_exn ?_
  | ((with_reducible refine o_isx (b := ?bv) ?h1 ?_); (case h1 => exact rfl))
  | with_reducible refine w_superS ?_
  | with_reducible refine w_super ?_
  | with_reducible refine w_star ?_
  | with_reducible refine w_for0 ?_
  | with_reducible refine w_lc0 ?_
  | with_reducible refine w_lc20 ?_
  | with_reducible refine w_seqJ ?_
  | with_reducible refine w_starC ?_
  | with_reducible refine w_spr ?_
  | with_reducible refine w_kwA ?_
  | with_reducible refine w_kwM ?_
  | with_reducible refine w_sprK ?_
  | with_reducible refine w_get ?_
  | with_reducible refine w_makeL ?_
  | with_reducible refine w_tryN ?_
  | ((with_reducible refine o_own0 ?hv ?_); (case hv => exact rfl))
  | ((with_reducible refine o_eqO0 ?hv ?_); (case hv => exact rfl))
  | with_reducible refine w_seqI ?_
  | with_reducible refine w_argI ?_
  | with_reducible refine w_opt ?_
  | with_reducible refine w_sli ?_
  | with_reducible refine w_pure ?_
  | with_reducible refine w_disp ?_
  | with_reducible refine w_pairs1 ?_
  | with_reducible refine w_pairs0 ?_
  | with_reducible refine w_retN ?_
  | with_reducible refine w_cnt ?_
  | with_reducible refine w_brk ?_
  | with_reducible refine o_addI ?_
  | with_reducible refine o_addI' ?_
  | with_reducible refine o_sub ?_
  | with_reducible refine o_lt ?_
  | with_reducible refine o_le ?_
  | with_reducible refine o_gt ?_
  | with_reducible refine o_ge ?_
  | with_reducible refine o_eqI ?_
  | with_reducible refine o_neI ?_
  | with_reducible refine o_eqS ?_
  | with_reducible refine o_neS ?_
  | with_reducible refine o_int ?_
  | with_reducible refine o_intB ?_
  | with_reducible refine o_neg ?_
  | with_reducible refine o_abs ?_
  | with_reducible refine o_newL ?_
  | with_reducible refine o_max2 ?_
  | with_reducible refine o_min2 ?_
  | with_reducible refine o_lenL ?_
  | with_reducible refine o_lenT ?_
  | ((with_reducible refine o_tup ?hv ?_); (case hv => first | exact Nat.le_of_ble_eq_true rfl | assumption))
  | ((with_reducible refine o_lst ?hv ?_); (case hv => first | exact Nat.le_of_ble_eq_true rfl | assumption))
  | ((with_reducible refine o_isi (t := ?tv) (b := ?bv) ?h1 ?h2 ?_); (case h1 => exact rfl); (case h2 => exact rfl))
  | ((with_reducible refine o_fld (C := ?cv) (fs := ?fv) (d := ?dv) ?h1 ?h2 ?h3 ?_); (case h1 => exact rfl); (case h2 => exact rfl); (case h3 => exact rfl))
  | ((with_reducible refine Exists.intro ?kv (And.intro ?ha ?_)); (case ha => exact rfl)))
local macro_rules | `(tactic| wtm_at "body") => `(tactic| (refine w_body rfl rfl ?_; dsimp only [List.length_cons, List.length_nil, List.drop, List.append_nil, List.map_cons, List.map_nil, List.map, List.cons_append, List.nil_append, Nat.reduceAdd, Nat.reduceSub, List.replicate]))
local macro_rules | `(tactic| wtm_at "meth") => `(tactic| refine ⟨_, _, _, rfl, rfl, rfl, ?_⟩)
local macro_rules | `(tactic| wtm_at "w") => `(tactic| first | with_reducible refine w_seq ?_ | wtm_at "e")
local macro_rules | `(tactic| wtm_at "s") => `(tactic| ((repeat wtm_at "e"); (with_reducible refine w_seq ?_)))
local macro_rules | `(tactic| wtm_at "f") => `(tactic| ((repeat wtm_at "e"); (with_reducible show FP _ _)))
/-! the pen -/
theorem q_draw {n : Nat} {many b : Int} {s : Sto} {Q : D → Sto → Prop} {E : XT} (p : Pen s n b) (hb : b ≤ 1000000000) (h0 : 0 < many) (h1 : many < 18446744073709551616) (h : ∀ k s', 0 ≤ k → k < many → Pen s' n (b + 1) → Fr n s s' → s'.length = s.length → Q (.int k) s') : RP Q E (m__law_draw [.cel n, .int many] s) := by
  obtain ⟨cells, g, l, hs, hc, hg, hgb, hl⟩ := p
  have hm : ∀ x : Int, 0 ≤ x % many ∧ x % many < many := fun x => ⟨Int.emod_nonneg _ (by omega), Int.emod_lt_of_pos _ (by omega)⟩
  wtm_at "body"
  unfold b__law_draw
  repeat wtm_at "w"
  refine pen_left hs ?_
  repeat wtm_at "w"
  refine ⟨fun hk => ?_, fun hk => ?_⟩
  · have hk := of_decide_eq_true hk
    repeat wtm_at "w"
    refine pen_left hs ?_
    repeat wtm_at "w"
    refine o_mod h0 ?_
    repeat wtm_at "w"
    refine pen_left hs ?_
    repeat wtm_at "w"
    refine o_div64 h0 h1 ?_
    repeat wtm_at "w"
    refine ⟨_, pen_putL hs, ?_⟩
    repeat wtm_at "w"
    exact h _ _ (hm l).1 (hm l).2 ⟨cells, g, _, pen_at hs, hc, hg, by omega, Int.ediv_nonneg hl (by omega)⟩ Fr.set (List.length_set ..)
  · have hk := of_decide_eq_false hk
    wtm_at "s"
    repeat wtm_at "e"
    refine pen_begun hs ?_
    wtm_at "s"
    repeat wtm_at "e"
    refine ⟨_, pen_putB hs, ?_⟩
    have hs1 : (s.set n (some (penC cells (g + 1) l)))[n]? = some (some (penC cells (g + 1) l)) := pen_at hs
    have fr1 : Fr n s (s.set n (some (penC cells (g + 1) l))) := Fr.set
    have ln1 : (s.set n (some (penC cells (g + 1) l))).length = s.length := List.length_set ..
    generalize s.set n (some (penC cells (g + 1) l)) = s1 at hs1 fr1 ln1 ⊢
    wtm_at "s"
    repeat wtm_at "e"
    refine o_mul64 (by omega) (by omega) ?_
    repeat wtm_at "e"
    wtm_at "f"
    with_reducible refine w_mid (fun r' s' => s' = s1 ∧ ∃ cell : Int, r' = [some (.cel n), some (.int many), some (.int g), some (.int cell), none, none, none]) ?_ ?_
    · repeat wtm_at "e"
      refine pen_cells hs1 ?_
      repeat wtm_at "e"
      refine o_neNil ?_
      repeat wtm_at "e"
      refine ⟨fun hk => ?_, fun hk => ?_⟩
      · have hc0 : 0 < cells.length := by
          cases cells with
          | nil => cases hk
          | cons a c => simp
        repeat wtm_at "e"
        refine pen_cells hs1 ?_
        repeat wtm_at "e"
        refine pen_cells hs1 ?_
        repeat wtm_at "e"
        rw [List.length_map]
        refine o_mod (by omega) ?_
        have hk0 : 0 ≤ g % (cells.length : Int) := Int.emod_nonneg _ (by omega)
        have hk1 : g % (cells.length : Int) < cells.length := Int.emod_lt_of_pos _ (by omega)
        have hlt : (g % (cells.length : Int)).toNat < cells.length := by omega
        refine o_idxL (k := (g % (cells.length : Int)).toNat) (d := .int (cells[(g % (cells.length : Int)).toNat])) (by omega) (by rw [List.getElem?_map, List.getElem?_eq_getElem hlt]; rfl) ?_
        exact ⟨rfl, _, rfl⟩
      · repeat wtm_at "e"
        exact ⟨rfl, _, rfl⟩
    · rintro r' s' ⟨rfl, cell, rfl⟩
      have pen1 : Pen s' n (b + 1) := ⟨cells, g + 1, l, hs1, hc, by omega, by omega, hl⟩
      wtm_at "f"
      with_reducible refine w_mid (fun r2 s2 => s2 = s' ∧ r2 = [some (.cel n), some (.int many), some (.int g), some (.int cell), none, none, none]) ?_ ?_
      · repeat wtm_at "e"
        refine pen_cells hs1 ?_
        repeat wtm_at "e"
        refine ⟨fun hk => ?_, fun hk => ?_⟩
        · repeat wtm_at "e"
          refine o_pow (by decide) (by decide) (by decide) ?_
          repeat wtm_at "e"
          refine ⟨fun hk2 => ?_, fun hk2 => ?_⟩
          · have hk2 := of_decide_eq_true hk2
            repeat wtm_at "w"
            refine o_pow (by decide) (by decide) (by decide) ?_
            repeat wtm_at "w"
            refine o_div64 h0 h1 ?_
            repeat wtm_at "w"
            refine ⟨_, pen_putL hs1, ?_⟩
            repeat wtm_at "w"
            refine o_pow (by decide) (by decide) (by decide) ?_
            repeat wtm_at "w"
            refine o_mod h0 ?_
            refine h _ _ (hm _).1 (hm _).2 ⟨cells, g + 1, _, pen_at hs1, hc, by omega, by omega, Int.ediv_nonneg ?_ (by omega)⟩ (fr1.trans Fr.set) (by rw [List.length_set]; exact ln1)
            exact Int.sub_nonneg_of_le hk2
          · repeat wtm_at "e"
            exact ⟨rfl, rfl⟩
        · repeat wtm_at "e"
          refine ⟨fun z => (by cases z), fun _ => ?_⟩
          repeat wtm_at "e"
          exact ⟨rfl, rfl⟩
      · rintro r2 s2 ⟨rfl, rfl⟩
        have b1 : 0 ≤ cell % 4294967197 ∧ cell % 4294967197 < 4294967197 := ⟨Int.emod_nonneg _ (by decide), Int.emod_lt_of_pos _ (by decide)⟩
        repeat wtm_at "w"
        refine o_mod (by decide) ?_
        repeat wtm_at "w"
        refine o_mul64 (by omega) (by decide) ?_
        repeat wtm_at "w"
        refine o_mul64 (by decide) (by omega) ?_
        repeat wtm_at "w"
        refine o_mul64 (by omega) (by omega) ?_
        repeat wtm_at "w"
        refine o_mod (by decide) ?_
        generalize hx : (cell % 4294967197 * 48673 + g * (40009 * g + 1511) + 331) % 4294967189 = x
        have b2 : 0 ≤ x ∧ x < 4294967189 := by
          subst hx
          exact ⟨Int.emod_nonneg _ (by decide), Int.emod_lt_of_pos _ (by decide)⟩
        repeat wtm_at "w"
        refine o_mul64 (by omega) (by omega) ?_
        repeat wtm_at "w"
        refine o_mul64 (by decide) (by omega) ?_
        repeat wtm_at "w"
        refine o_mul64 (by decide) (by omega) ?_
        repeat wtm_at "w"
        refine o_mod (by decide) ?_
        generalize hy : (x * x + 75629 * x + 19 * g + 7) % 4294967161 = y
        have b3 : 0 ≤ y ∧ y < 4294967161 := by
          subst hy
          exact ⟨Int.emod_nonneg _ (by decide), Int.emod_lt_of_pos _ (by decide)⟩
        repeat wtm_at "w"
        refine o_mul64 (by omega) (by omega) ?_
        repeat wtm_at "w"
        refine o_mod (by decide) ?_
        repeat wtm_at "w"
        refine o_div64 (by decide) (by decide) ?_
        repeat wtm_at "w"
        refine o_mod h0 ?_
        exact h _ _ (hm _).1 (hm _).2 pen1 fr1 ln1
/-- a pick of a written list -/
theorem q_pick {n : Nat} {b : Int} {l : List D} {s : Sto} {Q : D → Sto → Prop} {E : XT} (p : Pen s n b) (hb : b ≤ 1000000000) (h0 : 0 < l.length) (h1 : l.length < 1000000) (h : ∀ d s', d ∈ l → Pen s' n (b + 1) → Fr n s s' → s'.length = s.length → Q d s') : RP Q E (m__law_pick [.cel n, .lst l] s) := by
  wtm_at "body"
  unfold b__law_pick
  repeat wtm_at "w"
  refine q_draw p hb (by omega) (by omega) fun k s' hk hk1 p' f' e' => ?_
  have hlt : k.toNat < l.length := by omega
  refine o_idxL (k := k.toNat) (d := l[k.toNat]) (by omega) (List.getElem?_eq_getElem hlt) ?_
  exact h _ _ (List.getElem_mem hlt) p' f' e'
theorem q_pen {ns : List Int} {s : Sto} {Q : D → Sto → Prop} {E : XT} (h : ∀ c s', Pen s' s.length 0 → s' = s ++ [some c] → Q (.cel s.length) s') : RP Q E (m__law_pen [.rol (ns.map .int)] s) := by
  wtm_at "body"
  unfold b__law_pen
  repeat wtm_at "w"
  refine w_ok ?_
  repeat wtm_at "w"
  refine o_list rfl ?_
  repeat wtm_at "w"
  refine ⟨by show 3 ≤ 15; decide, ?_⟩
  refine h _ _ ⟨ns.take 63, 0, 0, ?_, by rw [List.length_take]; omega, by decide, by decide, by decide⟩ rfl
  rw [List.getElem?_append_right (Nat.le_refl _), Nat.sub_self]
  show some (some (Ct.dct [(.inr "cells", .lst (cutD (ns.map .int) none (some 63))), (.inr "begun", .int 0), (.inr "left", .int 0)])) = _
  rw [cut_take (by decide), ← List.map_take]
  rfl
end G
set_option Elab.async false
set_option linter.all false
set_option maxRecDepth 100000
set_option maxHeartbeats 4000000
namespace G
open Mp Pl
open PySem (Str sizeLine)
local macro_rules | `(tactic| wtm_at "e") => `(tactic| first
  | with_reducible refine w_set ?_
  | with_reducible refine w_bin ?_
  | ((with_reducible refine w_v (d := ?dv) ?hv ?_); (case hv => exact rfl))
  | with_reducible refine w_c ?_
  | with_reducible refine w_cons ?_
  | with_reducible refine w_nil ?_
  | with_reducible refine w_arg ?_
  | with_reducible refine w_call ?_
  | with_reducible refine w_if ?_
  | with_reducible refine w_ret ?_
  | with_reducible refine w_skip ?_
  | with_reducible refine w_bl ?_
  | with_reducible refine w_tru ?_
  | with_reducible refine w_attr ?_
  | with_reducible refine w_meth ?_
  | with_reducible refine w_chain ?_
  | with_reducible refine w_and ?_
  | with_reducible refine w_or ?_
  | with_reducible refine w_not ?_
  | with_reducible refine w_notT ?_
  | with_reducible refine w_andT ?_
  | with_reducible refine w_orT ?_
  | with_reducible refine w_ifM ?_
  | with_reducible refine w_expr ?_
  | with_reducible refine w_un ?_
  | with_reducible refine w_par2 ?_
  | with_reducible refine w_par3 ?_
  | with_reducible refine w_asg ?_
  | with_reducible refine w_aug ?_
  | with_reducible refine w_sub ?_
  | with_reducible refine w_fld ?_
  | with_reducible refine w_raise ?_
  | with_reducible refine w_raise0 ?_
  | with_reducible refine w_try ?_
  | with_reducible refine w_make ?_
  | with_reducible refine w_tryAs ?_
  | with_reducible refine w_exn ?_
  | ((with_reducible refine o_isx (b := ?bv) ?h1 ?_); (case h1 => exact rfl))
  | with_reducible refine w_superS ?_
  | with_reducible refine w_super ?_
  | with_reducible refine w_star ?_
  | with_reducible refine w_for0 ?_
  | with_reducible refine w_lc0 ?_
  | with_reducible refine w_lc20 ?_
  | with_reducible refine w_seqJ ?_
  | with_reducible refine w_starC ?_
  | with_reducible refine w_spr ?_
  | with_reducible refine w_kwA ?_
  | with_reducible refine w_kwM ?_
  | with_reducible refine w_sprK ?_
  | with_reducible refine w_get ?_
  | with_reducible refine w_makeL ?_
  | with_reducible refine w_tryN ?_
  | ((with_reducible refine o_own0 ?hv ?_); (case hv => exact rfl))
  | ((with_reducible refine o_eqO0 ?hv ?_); (case hv => exact rfl))
  | with_reducible refine w_seqI ?_
  | with_reducible refine w_argI ?_
  | with_reducible refine w_opt ?_
  | with_reducible refine w_sli ?_
  | with_reducible refine w_pure ?_
  | with_reducible refine w_disp ?_
  | with_reducible refine w_pairs1 ?_
  | with_reducible refine w_pairs0 ?_
  | with_reducible refine w_retN ?_
  | with_reducible refine w_cnt ?_
  | with_reducible refine w_brk ?_
  | with_reducible refine o_addI ?_
  | with_reducible refine o_addI' ?_
  | with_reducible refine o_sub ?_
  | with_reducible refine o_lt ?_
  | with_reducible refine o_le ?_
  | with_reducible refine o_gt ?_
  | with_reducible refine o_ge ?_
  | with_reducible refine o_eqI ?_
  | with_reducible refine o_neI ?_
  | with_reducible refine o_eqS ?_
  | with_reducible refine o_neS ?_
  | with_reducible refine o_int ?_
  | with_reducible refine o_intB ?_
  | with_reducible refine o_neg ?_
  | with_reducible refine o_abs ?_
  | with_reducible refine o_newL ?_
  | with_reducible refine o_max2 ?_
  | with_reducible refine o_min2 ?_
  | with_reducible refine o_lenL ?_
  | with_reducible refine o_lenT ?_
  | ((with_reducible refine o_tup ?hv ?_); (case hv => first | exact Nat.le_of_ble_eq_true rfl | assumption))
  | ((with_reducible refine o_lst ?hv ?_); (case hv => first | exact Nat.le_of_ble_eq_true rfl | assumption))
  | ((with_reducible refine o_isi (t := ?tv) (b := ?bv) ?h1 ?h2 ?_); (case h1 => exact rfl); (case h2 => exact rfl))
  | ((with_reducible refine o_fld (C := ?cv) (fs := ?fv) (d := ?dv) ?h1 ?h2 ?h3 ?_); (case h1 => exact rfl); (case h2 => exact rfl); (case h3 => exact rfl))
  | ((with_reducible refine Exists.intro ?kv (And.intro ?ha ?_)); (case ha => exact rfl)))
local macro_rules | `(tactic| wtm_at "body") => `(tactic| (refine w_body rfl rfl ?_; dsimp only [List.length_cons, List.length_nil, List.drop, List.append_nil, List.map_cons, List.map_nil, List.map, List.cons_append, List.nil_append, Nat.reduceAdd, Nat.reduceSub, List.replicate]))
local macro_rules | `(tactic| wtm_at "meth") => `(tactic| refine ⟨_, _, _, rfl, rfl, rfl, ?_⟩)
local macro_rules | `(tactic| wtm_at "w") => `(tactic| first | with_reducible refine w_seq ?_ | wtm_at "e")
local macro_rules | `(tactic| wtm_at "s") => `(tactic| ((repeat wtm_at "e"); (with_reducible refine w_seq ?_)))
local macro_rules | `(tactic| wtm_at "f") => `(tactic| ((repeat wtm_at "e"); (with_reducible show FP _ _)))
/-! the test tells primes -/
noncomputable def prB (n : Nat) : Bool := @decide (Pr n) (Classical.propDecidable _)
theorem prB_iff {n : Nat} : prB n = true ↔ Pr n := by
  unfold prB
  exact @decide_eq_true_iff (Pr n) (Classical.propDecidable _)
theorem prB_of {n : Nat} {b : Bool} (h : b = true ↔ Pr n) : b = prB n := Bool.eq_iff_iff.mpr (h.trans prB_iff.symm)
theorem split2 : ∀ n : Nat, 0 < n → ∃ o h, n = o * 2 ^ h ∧ o % 2 = 1 := fun n => by
  induction n using Nat.strongRecOn with
  | _ n ih =>
    intro hn
    by_cases e : n % 2 = 1
    · exact ⟨n, 0, by simp, e⟩
    · obtain ⟨o, h, h1, h2⟩ := ih (n / 2) (by omega) (by omega)
      refine ⟨o, h + 1, ?_, h2⟩
      rw [Nat.pow_succ, ← Nat.mul_assoc, ← h1]
      omega
theorem powI (a e v : Nat) : (a : Int) ^ e % (v : Int) = ((a ^ e % v : Nat) : Int) := by
  rw [Int.natCast_emod, Int.natCast_pow]
theorem hit_nat {v a : Nat} (hv : 2 ≤ v) : ∀ n y : Nat, hit (v : Int) ((a ^ y % v : Nat) : Int) n = true ↔ ∃ i, i < n ∧ a ^ (y * 2 ^ (i + 1)) % v + 1 = v
  | 0, y => ⟨fun h => (by cases h), fun ⟨i, h, _⟩ => absurd h (Nat.not_lt_zero _)⟩
  | n + 1, y => by
    have e : ((a ^ y % v : Nat) : Int) * ((a ^ y % v : Nat) : Int) % (v : Int) = ((a ^ (y * 2) % v : Nat) : Int) := by
      rw [← Int.natCast_mul, ← Int.natCast_emod, ← Nat.mul_mod, ← Nat.pow_add, Nat.mul_two]
    show (decide (((a ^ y % v : Nat) : Int) * ((a ^ y % v : Nat) : Int) % (v : Int) = (v : Int) - 1) || hit (v : Int) (((a ^ y % v : Nat) : Int) * ((a ^ y % v : Nat) : Int) % (v : Int)) n) = true ↔ _
    rw [e, Bool.or_eq_true, decide_eq_true_iff, hit_nat hv n (y * 2)]
    have ey : ∀ i, y * 2 * 2 ^ (i + 1) = y * 2 ^ (i + 1 + 1) := fun i => by rw [Nat.pow_succ 2 (i + 1), Nat.mul_comm (2 ^ (i + 1)) 2, Nat.mul_assoc]
    constructor
    · rintro (h | ⟨i, hi, h⟩)
      · exact ⟨0, by omega, by show a ^ (y * 2) % v + 1 = v; omega⟩
      · exact ⟨i + 1, by omega, by rw [← ey]; exact h⟩
    · rintro ⟨i, hi, h⟩
      cases i with
      | zero =>
        have h : a ^ (y * 2) % v + 1 = v := h
        exact .inl (by omega)
      | succ i => exact .inr ⟨i, by omega, by rw [ey]; exact h⟩
theorem wit_str {v a o h : Nat} (hv : 2 ≤ v) (hh : 1 ≤ h) : witF (v : Int) o h (a : Int) = false ↔ Pl.Str v o h a := by
  unfold witF
  rw [powI]
  by_cases c : (((a ^ o % v : Nat) : Int) = 1 ∨ ((a ^ o % v : Nat) : Int) = (v : Int) - 1)
  · rw [if_pos c]
    refine ⟨fun _ => ?_, fun _ => rfl⟩
    rcases c with c | c
    · exact .inl (by omega)
    · exact .inr ⟨0, by omega, by rw [Nat.pow_zero, Nat.mul_one]; omega⟩
  · rw [if_neg c, Bool.not_eq_false', hit_nat hv]
    constructor
    · rintro ⟨i, hi, h⟩
      exact .inr ⟨i + 1, by omega, h⟩
    · rintro (h | ⟨i, hi, h⟩)
      · exact absurd (.inl (by omega)) c
      · cases i with
        | zero =>
          rw [Nat.pow_zero, Nat.mul_one] at h
          exact absurd (.inr (by omega)) c
        | succ i => exact ⟨i, by omega, h⟩
theorem sq_one {v x : Nat} (hp : Pr v) (h : x * x % v = 1) : x % v = 1 ∨ x % v + 1 = v := by
  have h2 := hp.1
  have hx : 1 ≤ x := Nat.pos_of_ne_zero fun z => by subst z; simp at h
  have hd : v ∣ (x - 1) * (x + 1) := by
    have e : (x - 1) * (x + 1) = x * x - 1 := by
      obtain ⟨y, rfl⟩ : ∃ y, x = y + 1 := ⟨x - 1, by omega⟩
      rw [Nat.add_sub_cancel, Nat.mul_add, Nat.add_mul, Nat.mul_add]
      omega
    rw [e]
    have e2 := Nat.div_add_mod (x * x) v
    rw [h] at e2
    exact ⟨x * x / v, by omega⟩
  rcases hp.euclid hd with ⟨k, hk⟩ | ⟨k, hk⟩
  · refine .inl ?_
    rw [show x = 1 + v * k by omega, Nat.add_mul_mod_self_left, Nat.mod_eq_of_lt (by omega)]
  · refine .inr ?_
    cases k with
    | zero => omega
    | succ k =>
      rw [show x = v - 1 + v * k by rw [Nat.mul_succ] at hk; omega, Nat.add_mul_mod_self_left, Nat.mod_eq_of_lt (by omega)]
      omega
theorem prime_str {v o h a : Nat} (hp : Pr v) (he : v - 1 = o * 2 ^ h) (ha : ¬ v ∣ a) : Pl.Str v o h a := by
  have key : ∀ k, k ≤ h → a ^ (o * 2 ^ k) % v = 1 → Pl.Str v o h a := fun k => by
    induction k with
    | zero =>
      intro _ h1
      rw [Nat.pow_zero, Nat.mul_one] at h1
      exact .inl h1
    | succ k ih =>
      intro hk h1
      rw [Nat.pow_succ, ← Nat.mul_assoc, Nat.mul_two, Nat.pow_add] at h1
      rcases sq_one hp h1 with h2 | h2
      · exact ih (by omega) h2
      · exact .inr ⟨k, by omega, h2⟩
  refine key h (Nat.le_refl _) ?_
  rw [← he]
  exact hp.fermat ha
theorem smalls_pr : ∀ p ∈ smalls, Pr p.toNat := by
  intro p hp
  have h : p = 2 ∨ p = 3 ∨ p = 5 ∨ p = 7 ∨ p = 11 ∨ p = 13 ∨ p = 17 ∨ p = 19 ∨ p = 23 ∨ p = 29 ∨ p = 31 ∨ p = 37 := by simpa [smalls] using hp
  rcases h with rfl | rfl | rfl | rfl | rfl | rfl | rfl | rfl | rfl | rfl | rfl | rfl <;> first | exact pr_of (n := 5) (by decide) (by decide) (by decide +kernel) | exact pr_of (n := 1) (by decide) (by decide) (by decide +kernel) | exact pr_of (n := 0) (by decide) (by decide) (by decide +kernel)
theorem few_small : ∀ v : Nat, v < 38 → 2 ≤ v → ∃ p ∈ smalls, (v : Int) % p = 0 := by decide +kernel
theorem cop_smalls {v : Nat} (h : ∀ p ∈ smalls, (v : Int) % p ≠ 0) : Nat.gcd v 7420738134810 = 1 := by
  have c : ∀ p ∈ smalls, Nat.Coprime v p.toNat := fun p hp => by
    have hp0 : 0 < p := by
      have : ∀ q ∈ smalls, (0 : Int) < q := by decide
      exact this p hp
    refine (Pr.cop (smalls_pr p hp) fun hd => h p hp ?_).symm
    obtain ⟨k, hk⟩ := hd
    refine Int.emod_eq_zero_of_dvd ⟨k, ?_⟩
    rw [hk, Int.natCast_mul, Int.toNat_of_nonneg (by omega)]
  have m : ∀ {a b : Nat}, Nat.Coprime v a → Nat.Coprime v b → Nat.Coprime v (a * b) := fun h1 h2 => Nat.Coprime.mul_right h1 h2
  have := m (c 2 (by decide)) (m (c 3 (by decide)) (m (c 5 (by decide)) (m (c 7 (by decide)) (m (c 11 (by decide)) (m (c 13 (by decide)) (m (c 17 (by decide)) (m (c 19 (by decide)) (m (c 23 (by decide)) (m (c 29 (by decide)) (m (c 31 (by decide)) (c 37 (by decide))))))))))))
  exact this
theorem pf_iff {v o h : Nat} (h2 : 2 ≤ v) (hv : v ≤ 1000000000) (ho : v - 1 = o * 2 ^ h) (hod : o % 2 = 1) : primeF (v : Int) o h = true ↔ Pr v := by
  unfold primeF
  cases e : smalls.find? fun p => decide ((v : Int) % p = 0) with
  | some p =>
    have hp := List.mem_of_find?_eq_some e
    have hd : (v : Int) % p = 0 := by simpa using List.find?_some e
    have hp0 : 2 ≤ p := by
      have : ∀ q ∈ smalls, (2 : Int) ≤ q := by decide
      exact this p hp
    dsimp only
    rw [decide_eq_true_iff]
    constructor
    · intro z
      have := smalls_pr p hp
      rw [← z] at this
      exact this
    · intro hpr
      obtain ⟨k, hk⟩ := Int.dvd_of_emod_eq_zero hd
      have hk0 : 0 ≤ k := by
        rcases Int.lt_or_le k 0 with z | z
        · have := Int.mul_neg_of_pos_of_neg (show 0 < p by omega) z
          omega
        · exact z
      rcases hpr.2 p.toNat ⟨k.toNat, by have := congrArg Int.toNat hk; rw [Int.toNat_mul (by omega) hk0] at this; exact this⟩ with z | z <;> omega
  | none =>
    have hn : ∀ p ∈ smalls, (v : Int) % p ≠ 0 := fun p hp z => by
      have := List.find?_eq_none.mp e p hp
      simp [z] at this
    have hbig : 38 ≤ v := Nat.le_of_not_lt fun z => by
      obtain ⟨p, hp, hz⟩ := few_small v z h2
      exact hn p hp hz
    have hodd : v % 2 = 1 := by
      have := hn 2 (by decide)
      omega
    have hh : 1 ≤ h := Nat.pos_of_ne_zero fun z => by
      subst z
      rw [Nat.pow_zero, Nat.mul_one] at ho
      omega
    have st : (!([2, 3, 5, 7].map (witF (v : Int) o h)).any id) = true ↔ ∀ a : Nat, a = 2 ∨ a = 3 ∨ a = 5 ∨ a = 7 → Pl.Str v o h a := by
      rw [Bool.not_eq_true', List.any_eq_false]
      constructor
      · intro hw a ha
        refine (wit_str (by omega) hh).mp ?_
        have := hw (witF (v : Int) o h (a : Int)) (List.mem_map_of_mem (by rcases ha with rfl | rfl | rfl | rfl <;> simp))
        simpa using this
      · intro hs x hx
        obtain ⟨a, ha, rfl⟩ := List.mem_map.mp hx
        have ha : a = 2 ∨ a = 3 ∨ a = 5 ∨ a = 7 := by simpa using ha
        have : ∃ b : Nat, a = (b : Int) ∧ (b = 2 ∨ b = 3 ∨ b = 5 ∨ b = 7) := by
          rcases ha with rfl | rfl | rfl | rfl
          · exact ⟨2, rfl, by simp⟩
          · exact ⟨3, rfl, by simp⟩
          · exact ⟨5, rfl, by simp⟩
          · exact ⟨7, rfl, by simp⟩
        obtain ⟨b, rfl, hb⟩ := this
        rw [(wit_str (by omega) hh).mpr (hs b hb)]
        simp
    dsimp only
    rw [st]
    constructor
    · intro hs
      exact Passes.pr ⟨hbig, cop_smalls hn, hv, o, h, ho, hod, hh, hs⟩
    · intro hp a ha
      refine prime_str hp ho fun hd => ?_
      have := Nat.le_of_dvd (by omega) hd
      omega
section
variable {v : Int} {s : Sto} {Q : D → Sto → Prop} {E : XT}
theorem q_is_prime1 (hv : 2 ≤ v) (hv2 : v ≤ 1000000000) (hq : Q (.bl (prB v.toNat)) s) : RP Q E (m_is_prime [.int v] s) := by
  obtain ⟨n, rfl⟩ : ∃ n : Nat, v = n := ⟨v.toNat, by omega⟩
  obtain ⟨o, h, ho, hod⟩ := split2 (n - 1) (by omega)
  have hh : h ≤ 60 := by
    refine Nat.le_of_not_lt fun z => ?_
    have h1 : 2 ^ 61 ≤ 2 ^ h := Nat.pow_le_pow_right (by decide) z
    have h2 : 1 * 2 ^ h ≤ o * 2 ^ h := Nat.mul_le_mul_right _ (by omega)
    rw [Nat.one_mul] at h2
    have h3 : (1000000000 : Nat) < 2 ^ 61 := by decide
    omega
  have e : ((n : Nat) : Int) - 1 = (o : Int) * 2 ^ h := by
    have e1 := congrArg (fun x : Nat => (x : Int)) ho
    simp only [Int.natCast_mul, Int.natCast_pow] at e1
    have e2 : ((n - 1 : Nat) : Int) = (n : Int) - 1 := by omega
    rw [← e2, e1]
    rfl
  refine q_is_prime (o := o) (h := h) hv hv2 e hod hh ?_
  rw [prB_of (pf_iff (by omega) (by omega) ho hod)]
  exact hq
end
end G
set_option Elab.async false
set_option linter.all false
set_option maxRecDepth 100000
set_option maxHeartbeats 4000000
namespace G
open Mp Pl
open PySem (Str sizeLine)
local macro_rules | `(tactic| wtm_at "e") => `(tactic| first
  | with_reducible refine w_set ?_
  | with_reducible refine w_bin ?_
  | ((with_reducible refine w_v (d := ?dv) ?hv ?_); (case hv => exact rfl))
  | with_reducible refine w_c ?_
  | with_reducible refine w_cons ?_
  | with_reducible refine w_nil ?_
  | with_reducible refine w_arg ?_
  | with_reducible refine w_call ?_
  | with_reducible refine w_if ?_
  | with_reducible refine w_ret ?_
  | with_reducible refine w_skip ?_
  | with_reducible refine w_bl ?_
  | with_reducible refine w_tru ?_
  | with_reducible refine w_attr ?_
  | with_reducible refine w_meth ?_
  | with_reducible refine w_chain ?_
  | with_reducible refine w_and ?_
  | with_reducible refine w_or ?_
  | with_reducible refine w_not ?_
  | with_reducible refine w_notT ?_
  | with_reducible refine w_andT ?_
  | with_reducible refine w_orT ?_
  | with_reducible refine w_ifM ?_
  | with_reducible refine w_expr ?_
  | with_reducible refine w_un ?_
  | with_reducible refine w_par2 ?_
  | with_reducible refine w_par3 ?_
  | with_reducible refine w_asg ?_
  | with_reducible refine w_aug ?_
  | with_reducible refine w_sub ?_
  | with_reducible refine w_fld ?_
  | with_reducible refine w_raise ?_
  | with_reducible refine w_raise0 ?_
  | with_reducible refine w_try ?_
  | with_reducible refine w_make ?_
  | with_reducible refine w_tryAs ?_
  | with_reducible refine w_exn ?_
  | ((with_reducible refine o_isx (b := ?bv) ?h1 ?_); (case h1 => exact rfl))
  | with_reducible refine w_superS ?_
  | with_reducible refine w_super ?_
  | with_reducible refine w_star ?_
  | with_reducible refine w_for0 ?_
  | with_reducible refine w_lc0 ?_
  | with_reducible refine w_lc20 ?_
  | with_reducible refine w_seqJ ?_
  | with_reducible refine w_starC ?_
  | with_reducible refine w_spr ?_
  | with_reducible refine w_kwA ?_
  | with_reducible refine w_kwM ?_
  | with_reducible refine w_sprK ?_
  | with_reducible refine w_get ?_
  | with_reducible refine w_makeL ?_
  | with_reducible refine w_tryN ?_
  | ((with_reducible refine o_own0 ?hv ?_); (case hv => exact rfl))
  | ((with_reducible refine o_eqO0 ?hv ?_); (case hv => exact rfl))
  | with_reducible refine w_seqI ?_
  | with_reducible refine w_argI ?_
  | with_reducible refine w_opt ?_
  | with_reducible refine w_sli ?_
  | with_reducible refine w_pure ?_
  | with_reducible refine w_disp ?_
  | with_reducible refine w_pairs1 ?_
  | with_reducible refine w_pairs0 ?_
  | with_reducible refine w_retN ?_
  | with_reducible refine w_cnt ?_
  | with_reducible refine w_brk ?_
  | with_reducible refine o_addI ?_
  | with_reducible refine o_addI' ?_
  | with_reducible refine o_sub ?_
  | with_reducible refine o_lt ?_
  | with_reducible refine o_le ?_
  | with_reducible refine o_gt ?_
  | with_reducible refine o_ge ?_
  | with_reducible refine o_eqI ?_
  | with_reducible refine o_neI ?_
  | with_reducible refine o_eqS ?_
  | with_reducible refine o_neS ?_
  | with_reducible refine o_int ?_
  | with_reducible refine o_intB ?_
  | with_reducible refine o_neg ?_
  | with_reducible refine o_abs ?_
  | with_reducible refine o_newL ?_
  | with_reducible refine o_max2 ?_
  | with_reducible refine o_min2 ?_
  | with_reducible refine o_lenL ?_
  | with_reducible refine o_lenT ?_
  | ((with_reducible refine o_tup ?hv ?_); (case hv => first | exact Nat.le_of_ble_eq_true rfl | assumption))
  | ((with_reducible refine o_lst ?hv ?_); (case hv => first | exact Nat.le_of_ble_eq_true rfl | assumption))
  | ((with_reducible refine o_isi (t := ?tv) (b := ?bv) ?h1 ?h2 ?_); (case h1 => exact rfl); (case h2 => exact rfl))
  | ((with_reducible refine o_fld (C := ?cv) (fs := ?fv) (d := ?dv) ?h1 ?h2 ?h3 ?_); (case h1 => exact rfl); (case h2 => exact rfl); (case h3 => exact rfl))
  | ((with_reducible refine Exists.intro ?kv (And.intro ?ha ?_)); (case ha => exact rfl)))
local macro_rules | `(tactic| wtm_at "body") => `(tactic| (refine w_body rfl rfl ?_; dsimp only [List.length_cons, List.length_nil, List.drop, List.append_nil, List.map_cons, List.map_nil, List.map, List.cons_append, List.nil_append, Nat.reduceAdd, Nat.reduceSub, List.replicate]))
local macro_rules | `(tactic| wtm_at "meth") => `(tactic| refine ⟨_, _, _, rfl, rfl, rfl, ?_⟩)
local macro_rules | `(tactic| wtm_at "w") => `(tactic| first | with_reducible refine w_seq ?_ | wtm_at "e")
local macro_rules | `(tactic| wtm_at "s") => `(tactic| ((repeat wtm_at "e"); (with_reducible refine w_seq ?_)))
local macro_rules | `(tactic| wtm_at "f") => `(tactic| ((repeat wtm_at "e"); (with_reducible show FP _ _)))
/-! the law's numbers -/
structure PF (n : Nat) (s s' : Sto) (b : Int) : Prop where
  pen : Pen s' n b
  fr : Fr n s s'
  len : s'.length = s.length
theorem PF.of {n : Nat} {s : Sto} {b : Int} (h : Pen s n b) : PF n s s b := ⟨h, Fr.refl, rfl⟩
theorem PF.go {n : Nat} {s s' s'' : Sto} {b c d : Int} (h : PF n s s' b) (p : Pen s'' n c) (f : Fr n s' s'') (l : s''.length = s'.length) (hd : c ≤ d) : PF n s s'' d := ⟨p.mono hd, h.fr.trans f, l.trans h.len⟩
theorem PF.mono {n : Nat} {s s' : Sto} {b c : Int} (h : PF n s s' b) (hb : b ≤ c) : PF n s s' c := ⟨h.pen.mono hb, h.fr, h.len⟩
section
variable {n : Nat} {b : Int} {s : Sto} {Q : D → Sto → Prop} {E : XT}
theorem q_newF (h : Q fF (s ++ [none])) : RP (fun v s2 => v = .non ∧ RP Q E (freezeI false s.length s2)) E (m_Fractions___init__ [.cel s.length] (s ++ [some (.ins "Fractions" [])])) := by
  have hs : (s ++ [some (Ct.ins "Fractions" [])])[s.length]? = some (some (.ins "Fractions" [])) := by simp
  have hi : insOf (s ++ [some (Ct.ins "Fractions" [])]) (.cel s.length) = some (("Fractions" : Str), []) := by
    unfold insOf
    dsimp only
    rw [hs]
  wtm_at "body"
  unfold b_Fractions___init__
  repeat wtm_at "w"
  refine ⟨_, _, _, hi, rfl, ?_⟩
  repeat wtm_at "w"
  refine w_body rfl rfl ?_
  unfold b_Field___init__
  repeat wtm_at "w"
  refine ⟨_, _, _, rfl, hs, by decide, by decide, ?_⟩
  repeat wtm_at "w"
  refine ⟨rfl, w_freeze (C := "Fractions") (fs := [("own_prime", .non)]) ?_ ?_⟩
  · rw [List.getElem?_set_self (by simp)]
    rfl
  · rw [List.set_set]
    have e : (s ++ [some (Ct.ins "Fractions" [])]).set s.length none = s ++ [none] := by simp
    rw [e]
    exact h
end
/-! repr of numbers -/
section
open PySem (PyData)
end
section
variable {n : Nat} {b : Int} {s : Sto} {Q : D → Sto → Prop} {E : XT}
/-- the primes that are drawn -/
theorem of_primes {d : D} (h : d ∈ [D.int 2, .int 2, .int 3, .int 3, .int 5, .int 7, .int 101, .int 1000003]) : ∃ p : Nat, d = .int p ∧ Pr p ∧ PrimeOk p := by
  simp only [List.mem_cons, List.not_mem_nil, or_false] at h
  rcases h with rfl | rfl | rfl | rfl | rfl | rfl | rfl | rfl
  · exact ⟨2, rfl, pr2, pk2⟩
  · exact ⟨2, rfl, pr2, pk2⟩
  · exact ⟨3, rfl, pr3, pk3⟩
  · exact ⟨3, rfl, pr3, pk3⟩
  · exact ⟨5, rfl, pr5, pk5⟩
  · exact ⟨7, rfl, pr7, pk7⟩
  · exact ⟨101, rfl, pr101, pk101⟩
  · exact ⟨1000003, rfl, prBig, pkBig⟩
theorem q_primeP (p : Pen s n b) (hb : b ≤ 1000000000) (h : ∀ (p : Nat) s', Pr p → PrimeOk p → PF n s s' (b + 1) → Q (.int p) s') : RP Q E (m__law_prime [.cel n] s) := by
  wtm_at "body"
  unfold b__law_prime
  repeat wtm_at "w"
  refine q_pick p hb (by decide) (by decide) fun d s' hd p' f' l' => ?_
  obtain ⟨q, rfl, h1, h2⟩ := of_primes hd
  exact h q s' h1 h2 ⟨p', f', l'⟩
/-- what a prime, or 0, stands for -/
inductive Kd : Int → D → Prop
  | fr : Kd 0 fF
  | md {p : Nat} : Pr p → PrimeOk p → Kd p (fM p)
theorem q_made_field {P : Int} (hP : P = 0 ∨ ∃ p : Nat, P = p ∧ Pr p ∧ PrimeOk P) (h : ∀ f, Kd P f → Q f (s ++ [none])) : RP Q E (m__law_made_field [.int P] s) := by
  wtm_at "body"
  unfold b__law_made_field
  repeat wtm_at "w"
  refine ⟨fun z => ?_, fun z => ?_⟩
  · have z := of_decide_eq_true z
    subst z
    repeat wtm_at "w"
    exact q_newF (h fF .fr)
  · have z := of_decide_eq_false z
    obtain ⟨p, rfl, pr, pk⟩ := hP.resolve_left z
    repeat wtm_at "w"
    exact q_newM pk (h _ (.md pr pk))
end
end G
set_option Elab.async false
set_option linter.all false
set_option maxRecDepth 100000
set_option maxHeartbeats 4000000
namespace G
open Mp Pl
open PySem (Str sizeLine)
local macro_rules | `(tactic| wtm_at "e") => `(tactic| first
  | with_reducible refine w_set ?_
  | with_reducible refine w_bin ?_
  | ((with_reducible refine w_v (d := ?dv) ?hv ?_); (case hv => exact rfl))
  | with_reducible refine w_c ?_
  | with_reducible refine w_cons ?_
  | with_reducible refine w_nil ?_
  | with_reducible refine w_arg ?_
  | with_reducible refine w_call ?_
  | with_reducible refine w_if ?_
  | with_reducible refine w_ret ?_
  | with_reducible refine w_skip ?_
  | with_reducible refine w_bl ?_
  | with_reducible refine w_tru ?_
  | with_reducible refine w_attr ?_
  | with_reducible refine w_meth ?_
  | with_reducible refine w_chain ?_
  | with_reducible refine w_and ?_
  | with_reducible refine w_or ?_
  | with_reducible refine w_not ?_
  | with_reducible refine w_notT ?_
  | with_reducible refine w_andT ?_
  | with_reducible refine w_orT ?_
  | with_reducible refine w_ifM ?_
  | with_reducible refine w_expr ?_
  | with_reducible refine w_un ?_
  | with_reducible refine w_par2 ?_
  | with_reducible refine w_par3 ?_
  | with_reducible refine w_asg ?_
  | with_reducible refine w_aug ?_
  | with_reducible refine w_sub ?_
  | with_reducible refine w_fld ?_
  | with_reducible refine w_raise ?_
  | with_reducible refine w_raise0 ?_
  | with_reducible refine w_try ?_
  | with_reducible refine w_make ?_
  | with_reducible refine w_tryAs ?_
  | with_reducible refine w_exn ?_
  | ((with_reducible refine o_isx (b := ?bv) ?h1 ?_); (case h1 => exact rfl))
  | with_reducible refine w_superS ?_
  | with_reducible refine w_super ?_
  | with_reducible refine w_star ?_
  | with_reducible refine w_for0 ?_
  | with_reducible refine w_lc0 ?_
  | with_reducible refine w_lc20 ?_
  | with_reducible refine w_seqJ ?_
  | with_reducible refine w_starC ?_
  | with_reducible refine w_spr ?_
  | with_reducible refine w_kwA ?_
  | with_reducible refine w_kwM ?_
  | with_reducible refine w_sprK ?_
  | with_reducible refine w_get ?_
  | with_reducible refine w_makeL ?_
  | with_reducible refine w_tryN ?_
  | ((with_reducible refine o_own0 ?hv ?_); (case hv => exact rfl))
  | ((with_reducible refine o_eqO0 ?hv ?_); (case hv => exact rfl))
  | with_reducible refine w_seqI ?_
  | with_reducible refine w_argI ?_
  | with_reducible refine w_opt ?_
  | with_reducible refine w_sli ?_
  | with_reducible refine w_pure ?_
  | with_reducible refine w_disp ?_
  | with_reducible refine w_pairs1 ?_
  | with_reducible refine w_pairs0 ?_
  | with_reducible refine w_retN ?_
  | with_reducible refine w_cnt ?_
  | with_reducible refine w_brk ?_
  | with_reducible refine o_addI ?_
  | with_reducible refine o_addI' ?_
  | with_reducible refine o_sub ?_
  | with_reducible refine o_lt ?_
  | with_reducible refine o_le ?_
  | with_reducible refine o_gt ?_
  | with_reducible refine o_ge ?_
  | with_reducible refine o_eqI ?_
  | with_reducible refine o_neI ?_
  | with_reducible refine o_eqS ?_
  | with_reducible refine o_neS ?_
  | with_reducible refine o_int ?_
  | with_reducible refine o_intB ?_
  | with_reducible refine o_neg ?_
  | with_reducible refine o_abs ?_
  | with_reducible refine o_newL ?_
  | with_reducible refine o_max2 ?_
  | with_reducible refine o_min2 ?_
  | with_reducible refine o_lenL ?_
  | with_reducible refine o_lenT ?_
  | ((with_reducible refine o_tup ?hv ?_); (case hv => first | exact Nat.le_of_ble_eq_true rfl | assumption))
  | ((with_reducible refine o_lst ?hv ?_); (case hv => first | exact Nat.le_of_ble_eq_true rfl | assumption))
  | ((with_reducible refine o_isi (t := ?tv) (b := ?bv) ?h1 ?h2 ?_); (case h1 => exact rfl); (case h2 => exact rfl))
  | ((with_reducible refine o_fld (C := ?cv) (fs := ?fv) (d := ?dv) ?h1 ?h2 ?h3 ?_); (case h1 => exact rfl); (case h2 => exact rfl); (case h3 => exact rfl))
  | ((with_reducible refine Exists.intro ?kv (And.intro ?ha ?_)); (case ha => exact rfl)))
local macro_rules | `(tactic| wtm_at "body") => `(tactic| (refine w_body rfl rfl ?_; dsimp only [List.length_cons, List.length_nil, List.drop, List.append_nil, List.map_cons, List.map_nil, List.map, List.cons_append, List.nil_append, Nat.reduceAdd, Nat.reduceSub, List.replicate]))
local macro_rules | `(tactic| wtm_at "meth") => `(tactic| refine ⟨_, _, _, rfl, rfl, rfl, ?_⟩)
local macro_rules | `(tactic| wtm_at "w") => `(tactic| first | with_reducible refine w_seq ?_ | wtm_at "e")
local macro_rules | `(tactic| wtm_at "s") => `(tactic| ((repeat wtm_at "e"); (with_reducible refine w_seq ?_)))
local macro_rules | `(tactic| wtm_at "f") => `(tactic| ((repeat wtm_at "e"); (with_reducible show FP _ _)))
/-! values of any kind -/
def bigI : Int := 10 ^ 50 * 10 ^ 50 * 10 ^ 9
def oddA : List D := [.non, .bl true, .bl false, .int 0, .int 1, .int (-1), .int 2, .int 7, .int 160, .int 161, .int (10 ^ 30), .str "", .str "a", .str "b", .str "ab", .str "ba", .int bigI, .int (0 - bigI), .str "A", .str "0", .str "1", .str "1/2", .str "fractions", .str "modulo 7", .str "a b", .str " ", .str "aa", .str "abcde"]
def oddB : List D := [.tup [], .lst [], .tup [.str "a"], .lst [.str "a"], .lst [.int 1], .tup [.int 1, .int 2], .tup [.int 2, .int 4], .tup [.int 0, .int 2], .tup [.int 1, .int 1], .tup [.int 1, .int 0], .tup [.int 1, .int (-2)], .tup [.bl true, .int 2], .lst [.int 1, .int 2], .tup [.int 1, .int 2, .int 3]]
/-- flat; a tuple, a list of flat ones; a dict -/
def Odd (s : Sto) (d : D) : Prop := d ∈ oddA ∨ d ∈ oddB ∨ ∃ k, d = .cel k ∧ (s[k]? = some (some (.dct [])) ∨ s[k]? = some (some (.dct [(.inr "a", .int 1)])))
theorem q_odd {n : Nat} {b : Int} {s : Sto} {Q : D → Sto → Prop} {E : XT} (p : Pen s n b) (hb : b ≤ 1000000000) (h : ∀ d s', Odd s' d → Pen s' n (b + 1) → Fr n s s' → s'.length = s.length + 2 → Q d s') : RP Q E (m__law_odd [.cel n] s) := by
  have hp : n < s.length := p.lt
  have z : ∀ {a b : Nat}, a + b ≤ 100 → a + b ≤ sizeLine := fun h => Nat.le_trans h (by decide)
  wtm_at "body"
  unfold b__law_odd
  wtm_at "s"
  repeat wtm_at "e"
  refine o_powV (v := 10 ^ 30) (by decide) (by decide) (by decide) rfl ?_
  repeat wtm_at "e"
  wtm_at "s"
  repeat wtm_at "e"
  refine o_powV (v := 10 ^ 50) (by decide) (by decide) (by decide) rfl ?_
  repeat wtm_at "e"
  refine o_powV (v := 10 ^ 50) (by decide) (by decide) (by decide) rfl ?_
  refine o_mul (mulC_of (a := 400) (b := 400) (by decide +kernel) (by decide +kernel) (by decide) (by decide) (by decide)) ?_
  repeat wtm_at "e"
  refine o_powV (v := 10 ^ 9) (by decide) (by decide) (by decide) rfl ?_
  refine o_mul (mulC_of (a := 400) (b := 400) (by decide +kernel) (by decide +kernel) (by decide) (by decide) (by decide)) ?_
  repeat wtm_at "e"
  refine o_powV (v := 10 ^ 50) (by decide) (by decide) (by decide) rfl ?_
  repeat wtm_at "e"
  refine o_powV (v := 10 ^ 50) (by decide) (by decide) (by decide) rfl ?_
  refine o_mul (mulC_of (a := 400) (b := 400) (by decide +kernel) (by decide +kernel) (by decide) (by decide) (by decide)) ?_
  repeat wtm_at "e"
  refine o_powV (v := 10 ^ 9) (by decide) (by decide) (by decide) rfl ?_
  refine o_mul (mulC_of (a := 400) (b := 400) (by decide +kernel) (by decide +kernel) (by decide) (by decide) (by decide)) ?_
  repeat wtm_at "e"
  refine o_addL (z (by show 16 + 2 ≤ 100; decide)) ?_
  wtm_at "s"
  repeat wtm_at "e"
  refine w_ok (s := s ++ [some (.dct [])]) ?_
  repeat wtm_at "e"
  refine o_addL (z (by show 18 + 15 ≤ 100; decide)) ?_
  wtm_at "s"
  repeat wtm_at "e"
  refine ⟨by show 1 ≤ 15; decide, ?_⟩
  repeat wtm_at "e"
  refine o_addL (z (by show 33 + 11 ≤ 100; decide)) ?_
  repeat wtm_at "e"
  have pen2 := (p.app (some (.dct []))).app (some (.dct [(.inr "a", .int 1)]))
  refine q_pick pen2 hb (by show 0 < 44; decide) (by show 44 < 1000000; decide) fun d s' hd p' f' l' => ?_
  have f' : Fr n (s ++ [some (Ct.dct [])] ++ [some (Ct.dct [(.inr "a", .int 1)])]) s' := f'
  have l2 : s'.length = s.length + 2 := by
    rw [l']
    simp
  have f2 : Fr n s s' := ⟨by omega, fun i hi ne => (f'.2 i (by simp; omega) ne).trans (by
    rw [List.getElem?_append_left (by simp; omega), List.getElem?_append_left hi])⟩
  have c1 : s'[s.length]? = some (some (.dct [])) := (f'.2 s.length (by simp) (by omega)).trans (by simp)
  have c2 : s'[s.length + 1]? = some (some (.dct [(.inr "a", .int 1)])) := (f'.2 (s.length + 1) (by simp) (by omega)).trans (by rw [List.getElem?_append_right (by simp)]; simp)
  refine h d s' ?_ p' f2 l2
  have hd : d ∈ (([D.non, .bl true, .bl false, .int 0, .int 1, .int (-1), .int 2, .int 7, .int 160, .int 161, .int (10 ^ 30), .str "", .str "a", .str "b", .str "ab", .str "ba"] ++ [D.int bigI, .int (0 - bigI)]) ++ [D.str "A", .str "0", .str "1", .str "1/2", .str "fractions", .str "modulo 7", .str "a b", .str " ", .str "aa", .str "abcde", .tup [], .lst [], .cel s.length, .tup [.str "a"], .lst [.str "a"]]) ++ [D.lst [.int 1], .tup [.int 1, .int 2], .tup [.int 2, .int 4], .tup [.int 0, .int 2], .tup [.int 1, .int 1], .tup [.int 1, .int 0], .tup [.int 1, .int (-2)], .tup [.bl true, .int 2], .lst [.int 1, .int 2], .tup [.int 1, .int 2, .int 3], .cel (s ++ [some (Ct.dct [])]).length] := hd
  have e2 : (s ++ [some (Ct.dct [])]).length = s.length + 1 := by simp
  rw [e2] at hd
  simp only [List.mem_append, List.mem_cons, List.not_mem_nil, or_false] at hd
  rcases hd with (((hd | hd) | hd) | hd)
  · rcases hd with rfl | rfl | rfl | rfl | rfl | rfl | rfl | rfl | rfl | rfl | rfl | rfl | rfl | rfl | rfl | rfl
    · exact .inl (List.mem_of_getElem? (i := 0) rfl)
    · exact .inl (List.mem_of_getElem? (i := 1) rfl)
    · exact .inl (List.mem_of_getElem? (i := 2) rfl)
    · exact .inl (List.mem_of_getElem? (i := 3) rfl)
    · exact .inl (List.mem_of_getElem? (i := 4) rfl)
    · exact .inl (List.mem_of_getElem? (i := 5) rfl)
    · exact .inl (List.mem_of_getElem? (i := 6) rfl)
    · exact .inl (List.mem_of_getElem? (i := 7) rfl)
    · exact .inl (List.mem_of_getElem? (i := 8) rfl)
    · exact .inl (List.mem_of_getElem? (i := 9) rfl)
    · exact .inl (List.mem_of_getElem? (i := 10) rfl)
    · exact .inl (List.mem_of_getElem? (i := 11) rfl)
    · exact .inl (List.mem_of_getElem? (i := 12) rfl)
    · exact .inl (List.mem_of_getElem? (i := 13) rfl)
    · exact .inl (List.mem_of_getElem? (i := 14) rfl)
    · exact .inl (List.mem_of_getElem? (i := 15) rfl)
  · rcases hd with rfl | rfl
    · exact .inl (List.mem_of_getElem? (i := 16) rfl)
    · exact .inl (List.mem_of_getElem? (i := 17) rfl)
  · rcases hd with rfl | rfl | rfl | rfl | rfl | rfl | rfl | rfl | rfl | rfl | rfl | rfl | rfl | rfl | rfl
    · exact .inl (List.mem_of_getElem? (i := 18) rfl)
    · exact .inl (List.mem_of_getElem? (i := 19) rfl)
    · exact .inl (List.mem_of_getElem? (i := 20) rfl)
    · exact .inl (List.mem_of_getElem? (i := 21) rfl)
    · exact .inl (List.mem_of_getElem? (i := 22) rfl)
    · exact .inl (List.mem_of_getElem? (i := 23) rfl)
    · exact .inl (List.mem_of_getElem? (i := 24) rfl)
    · exact .inl (List.mem_of_getElem? (i := 25) rfl)
    · exact .inl (List.mem_of_getElem? (i := 26) rfl)
    · exact .inl (List.mem_of_getElem? (i := 27) rfl)
    · exact .inr (.inl (List.mem_of_getElem? (i := 0) rfl))
    · exact .inr (.inl (List.mem_of_getElem? (i := 1) rfl))
    · exact .inr (.inr ⟨_, rfl, .inl c1⟩)
    · exact .inr (.inl (List.mem_of_getElem? (i := 2) rfl))
    · exact .inr (.inl (List.mem_of_getElem? (i := 3) rfl))
  · rcases hd with rfl | rfl | rfl | rfl | rfl | rfl | rfl | rfl | rfl | rfl | rfl
    · exact .inr (.inl (List.mem_of_getElem? (i := 4) rfl))
    · exact .inr (.inl (List.mem_of_getElem? (i := 5) rfl))
    · exact .inr (.inl (List.mem_of_getElem? (i := 6) rfl))
    · exact .inr (.inl (List.mem_of_getElem? (i := 7) rfl))
    · exact .inr (.inl (List.mem_of_getElem? (i := 8) rfl))
    · exact .inr (.inl (List.mem_of_getElem? (i := 9) rfl))
    · exact .inr (.inl (List.mem_of_getElem? (i := 10) rfl))
    · exact .inr (.inl (List.mem_of_getElem? (i := 11) rfl))
    · exact .inr (.inl (List.mem_of_getElem? (i := 12) rfl))
    · exact .inr (.inl (List.mem_of_getElem? (i := 13) rfl))
    · exact .inr (.inr ⟨_, rfl, .inr c2⟩)
end G
set_option Elab.async false
set_option linter.all false
set_option maxRecDepth 100000
set_option maxHeartbeats 4000000
namespace G
open Mp Pl
open PySem (Str sizeLine)
local macro_rules | `(tactic| wtm_at "e") => `(tactic| first
  | with_reducible refine w_set ?_
  | with_reducible refine w_bin ?_
  | ((with_reducible refine w_v (d := ?dv) ?hv ?_); (case hv => exact rfl))
  | with_reducible refine w_c ?_
  | with_reducible refine w_cons ?_
  | with_reducible refine w_nil ?_
  | with_reducible refine w_arg ?_
  | with_reducible refine w_call ?_
  | with_reducible refine w_if ?_
  | with_reducible refine w_ret ?_
  | with_reducible refine w_skip ?_
  | with_reducible refine w_bl ?_
  | with_reducible refine w_tru ?_
  | with_reducible refine w_attr ?_
  | with_reducible refine w_meth ?_
  | with_reducible refine w_chain ?_
  | with_reducible refine w_and ?_
  | with_reducible refine w_or ?_
  | with_reducible refine w_not ?_
  | with_reducible refine w_notT ?_
  | with_reducible refine w_andT ?_
  | with_reducible refine w_orT ?_
  | with_reducible refine w_ifM ?_
  | with_reducible refine w_expr ?_
  | with_reducible refine w_un ?_
  | with_reducible refine w_par2 ?_
  | with_reducible refine w_par3 ?_
  | with_reducible refine w_asg ?_
  | with_reducible refine w_aug ?_
  | with_reducible refine w_sub ?_
  | with_reducible refine w_fld ?_
  | with_reducible refine w_raise ?_
  | with_reducible refine w_raise0 ?_
  | with_reducible refine w_try ?_
  | with_reducible refine w_make ?_
  | with_reducible refine w_tryAs ?_
  | with_reducible refine w_exn ?_
  | ((with_reducible refine o_isx (b := ?bv) ?h1 ?_); (case h1 => exact rfl))
  | with_reducible refine w_superS ?_
  | with_reducible refine w_super ?_
  | with_reducible refine w_star ?_
  | with_reducible refine w_for0 ?_
  | with_reducible refine w_lc0 ?_
  | with_reducible refine w_lc20 ?_
  | with_reducible refine w_seqJ ?_
  | with_reducible refine w_starC ?_
  | with_reducible refine w_spr ?_
  | with_reducible refine w_kwA ?_
  | with_reducible refine w_kwM ?_
  | with_reducible refine w_sprK ?_
  | with_reducible refine w_get ?_
  | with_reducible refine w_makeL ?_
  | with_reducible refine w_tryN ?_
  | ((with_reducible refine o_own0 ?hv ?_); (case hv => exact rfl))
  | ((with_reducible refine o_eqO0 ?hv ?_); (case hv => exact rfl))
  | with_reducible refine w_seqI ?_
  | with_reducible refine w_argI ?_
  | with_reducible refine w_opt ?_
  | with_reducible refine w_sli ?_
  | with_reducible refine w_pure ?_
  | with_reducible refine w_disp ?_
  | with_reducible refine w_pairs1 ?_
  | with_reducible refine w_pairs0 ?_
  | with_reducible refine w_retN ?_
  | with_reducible refine w_cnt ?_
  | with_reducible refine w_brk ?_
  | with_reducible refine o_addI ?_
  | with_reducible refine o_addI' ?_
  | with_reducible refine o_sub ?_
  | with_reducible refine o_lt ?_
  | with_reducible refine o_le ?_
  | with_reducible refine o_gt ?_
  | with_reducible refine o_ge ?_
  | with_reducible refine o_eqI ?_
  | with_reducible refine o_neI ?_
  | with_reducible refine o_eqS ?_
  | with_reducible refine o_neS ?_
  | with_reducible refine o_int ?_
  | with_reducible refine o_intB ?_
  | with_reducible refine o_neg ?_
  | with_reducible refine o_abs ?_
  | with_reducible refine o_newL ?_
  | with_reducible refine o_max2 ?_
  | with_reducible refine o_min2 ?_
  | with_reducible refine o_lenL ?_
  | with_reducible refine o_lenT ?_
  | ((with_reducible refine o_tup ?hv ?_); (case hv => first | exact Nat.le_of_ble_eq_true rfl | assumption))
  | ((with_reducible refine o_lst ?hv ?_); (case hv => first | exact Nat.le_of_ble_eq_true rfl | assumption))
  | ((with_reducible refine o_isi (t := ?tv) (b := ?bv) ?h1 ?h2 ?_); (case h1 => exact rfl); (case h2 => exact rfl))
  | ((with_reducible refine o_fld (C := ?cv) (fs := ?fv) (d := ?dv) ?h1 ?h2 ?h3 ?_); (case h1 => exact rfl); (case h2 => exact rfl); (case h3 => exact rfl))
  | ((with_reducible refine Exists.intro ?kv (And.intro ?ha ?_)); (case ha => exact rfl)))
local macro_rules | `(tactic| wtm_at "body") => `(tactic| (refine w_body rfl rfl ?_; dsimp only [List.length_cons, List.length_nil, List.drop, List.append_nil, List.map_cons, List.map_nil, List.map, List.cons_append, List.nil_append, Nat.reduceAdd, Nat.reduceSub, List.replicate]))
local macro_rules | `(tactic| wtm_at "meth") => `(tactic| refine ⟨_, _, _, rfl, rfl, rfl, ?_⟩)
local macro_rules | `(tactic| wtm_at "w") => `(tactic| first | with_reducible refine w_seq ?_ | wtm_at "e")
local macro_rules | `(tactic| wtm_at "s") => `(tactic| ((repeat wtm_at "e"); (with_reducible refine w_seq ?_)))
local macro_rules | `(tactic| wtm_at "f") => `(tactic| ((repeat wtm_at "e"); (with_reducible show FP _ _)))
/-! things: what they are, their repr -/
def isI : D → Bool
  | .int _ => true
  | _ => false
def Ok1 (s : Sto) : D → Prop
  | .non => True
  | .bl _ => True
  | .int _ => True
  | .str _ => True
  | .tup _ => True
  | .lst _ => True
  | .cel n => ∃ m, s[n]? = some (some (.dct m))
  | _ => False
def Ok2 (s : Sto) (d : D) : Prop := Ok1 s d ∧ ∀ l, d = .tup l → ∀ x ∈ l, Ok1 s x
section
variable {s : Sto} {Q : D → Sto → Prop} {E : XT} {d : D}
theorem tag_cel {k : Nat} {m : List (L2.Key × D)} (h : s[k]? = some (some (.dct m))) : tagD s (.cel k) = some (.bt "dict") := by
  unfold tagD
  dsimp only
  rw [h]
theorem q_is_integer (h1 : Ok1 s d) (h : Q (.bl (isI d)) s) : RP Q E (m_is_integer [d] s) := by
  cases d with
  | cel k =>
    obtain ⟨m, hm⟩ := h1
    wtm_at "body"
    unfold b_is_integer
    repeat wtm_at "w"
    refine o_isi (tag_cel hm) rfl ?_
    repeat wtm_at "w"
    exact ⟨fun z => (by cases z), fun _ => h⟩
  | _ => first | exact h | exact h1.elim
theorem q_lwhole (h1 : Ok1 s d) (h : Q (.bl (isI d)) s) : RP Q E (m__law_is_whole [d] s) := by
  cases d with
  | cel k =>
    obtain ⟨m, hm⟩ := h1
    wtm_at "body"
    unfold b__law_is_whole
    repeat wtm_at "w"
    refine o_isi (tag_cel hm) rfl ?_
    repeat wtm_at "w"
    exact ⟨fun z => (by cases z), fun _ => h⟩
  | _ => first | exact h | exact h1.elim
end
end G
set_option Elab.async false
set_option linter.all false
set_option maxRecDepth 100000
set_option maxHeartbeats 4000000
namespace G
open Mp Pl
open PySem (Str sizeLine)
local macro_rules | `(tactic| wtm_at "e") => `(tactic| first
  | with_reducible refine w_set ?_
  | with_reducible refine w_bin ?_
  | ((with_reducible refine w_v (d := ?dv) ?hv ?_); (case hv => exact rfl))
  | with_reducible refine w_c ?_
  | with_reducible refine w_cons ?_
  | with_reducible refine w_nil ?_
  | with_reducible refine w_arg ?_
  | with_reducible refine w_call ?_
  | with_reducible refine w_if ?_
  | with_reducible refine w_ret ?_
  | with_reducible refine w_skip ?_
  | with_reducible refine w_bl ?_
  | with_reducible refine w_tru ?_
  | with_reducible refine w_attr ?_
  | with_reducible refine w_meth ?_
  | with_reducible refine w_chain ?_
  | with_reducible refine w_and ?_
  | with_reducible refine w_or ?_
  | with_reducible refine w_not ?_
  | with_reducible refine w_notT ?_
  | with_reducible refine w_andT ?_
  | with_reducible refine w_orT ?_
  | with_reducible refine w_ifM ?_
  | with_reducible refine w_expr ?_
  | with_reducible refine w_un ?_
  | with_reducible refine w_par2 ?_
  | with_reducible refine w_par3 ?_
  | with_reducible refine w_asg ?_
  | with_reducible refine w_aug ?_
  | with_reducible refine w_sub ?_
  | with_reducible refine w_fld ?_
  | with_reducible refine w_raise ?_
  | with_reducible refine w_raise0 ?_
  | with_reducible refine w_try ?_
  | with_reducible refine w_make ?_
  | with_reducible refine w_tryAs ?_
  | with_reducible refine w_exn ?_
  | ((with_reducible refine o_isx (b := ?bv) ?h1 ?_); (case h1 => exact rfl))
  | with_reducible refine w_superS ?_
  | with_reducible refine w_super ?_
  | with_reducible refine w_star ?_
  | with_reducible refine w_for0 ?_
  | with_reducible refine w_lc0 ?_
  | with_reducible refine w_lc20 ?_
  | with_reducible refine w_seqJ ?_
  | with_reducible refine w_starC ?_
  | with_reducible refine w_spr ?_
  | with_reducible refine w_kwA ?_
  | with_reducible refine w_kwM ?_
  | with_reducible refine w_sprK ?_
  | with_reducible refine w_get ?_
  | with_reducible refine w_makeL ?_
  | with_reducible refine w_tryN ?_
  | ((with_reducible refine o_own0 ?hv ?_); (case hv => exact rfl))
  | ((with_reducible refine o_eqO0 ?hv ?_); (case hv => exact rfl))
  | with_reducible refine w_seqI ?_
  | with_reducible refine w_argI ?_
  | with_reducible refine w_opt ?_
  | with_reducible refine w_sli ?_
  | with_reducible refine w_pure ?_
  | with_reducible refine w_disp ?_
  | with_reducible refine w_pairs1 ?_
  | with_reducible refine w_pairs0 ?_
  | with_reducible refine w_retN ?_
  | with_reducible refine w_cnt ?_
  | with_reducible refine w_brk ?_
  | with_reducible refine o_addI ?_
  | with_reducible refine o_addI' ?_
  | with_reducible refine o_sub ?_
  | with_reducible refine o_lt ?_
  | with_reducible refine o_le ?_
  | with_reducible refine o_gt ?_
  | with_reducible refine o_ge ?_
  | with_reducible refine o_eqI ?_
  | with_reducible refine o_neI ?_
  | with_reducible refine o_eqS ?_
  | with_reducible refine o_neS ?_
  | with_reducible refine o_int ?_
  | with_reducible refine o_intB ?_
  | with_reducible refine o_neg ?_
  | with_reducible refine o_abs ?_
  | with_reducible refine o_newL ?_
  | with_reducible refine o_max2 ?_
  | with_reducible refine o_min2 ?_
  | with_reducible refine o_lenL ?_
  | with_reducible refine o_lenT ?_
  | ((with_reducible refine o_tup ?hv ?_); (case hv => first | exact Nat.le_of_ble_eq_true rfl | assumption))
  | ((with_reducible refine o_lst ?hv ?_); (case hv => first | exact Nat.le_of_ble_eq_true rfl | assumption))
  | ((with_reducible refine o_isi (t := ?tv) (b := ?bv) ?h1 ?h2 ?_); (case h1 => exact rfl); (case h2 => exact rfl))
  | ((with_reducible refine o_fld (C := ?cv) (fs := ?fv) (d := ?dv) ?h1 ?h2 ?h3 ?_); (case h1 => exact rfl); (case h2 => exact rfl); (case h3 => exact rfl))
  | ((with_reducible refine Exists.intro ?kv (And.intro ?ha ?_)); (case ha => exact rfl)))
local macro_rules | `(tactic| wtm_at "body") => `(tactic| (refine w_body rfl rfl ?_; dsimp only [List.length_cons, List.length_nil, List.drop, List.append_nil, List.map_cons, List.map_nil, List.map, List.cons_append, List.nil_append, Nat.reduceAdd, Nat.reduceSub, List.replicate]))
local macro_rules | `(tactic| wtm_at "meth") => `(tactic| refine ⟨_, _, _, rfl, rfl, rfl, ?_⟩)
local macro_rules | `(tactic| wtm_at "w") => `(tactic| first | with_reducible refine w_seq ?_ | wtm_at "e")
local macro_rules | `(tactic| wtm_at "s") => `(tactic| ((repeat wtm_at "e"); (with_reducible refine w_seq ?_)))
local macro_rules | `(tactic| wtm_at "f") => `(tactic| ((repeat wtm_at "e"); (with_reducible show FP _ _)))
/-! repr of things -/
open PySem (PyData) in
def RO (s : Sto) (d : D) : Prop := ∃ p, rdP s 99 d = some p ∧ p.showable = true ∧ p.depth < 60 ∧ p.shown.length ≤ sizeLine
noncomputable def rpT (s : Sto) (d : D) : Str := match rdP s 99 d with
  | some p => p.shown
  | none => ""
section
variable {s : Sto} {Q : D → Sto → Prop} {E : XT} {d : D}
open PySem (PyData)
theorem o_reprX (h1 : RO s d) (h : Q (.str (rpT s d)) s) : RP Q E (reprX [d] s) := by
  obtain ⟨p, e, h2, h3, h4⟩ := h1
  unfold rpT at h
  rw [e] at h
  unfold reprX
  dsimp only
  rw [e]
  dsimp only
  rw [if_pos ⟨h2, h3, h4⟩]
  exact h
def Flat (d : D) : Prop := d = .non ∨ (∃ b, d = .bl b) ∨ (∃ i : Int, d = .int i ∧ i.natAbs < 2 ^ 1000) ∨ ∃ z, d = .str z ∧ (PySem.reprText z).length ≤ 600
theorem flat_rd (h : Flat d) (n : Nat) : ∃ p, rdP s (n + 1) d = some p ∧ p.showable = true ∧ p.hasDict = false ∧ p.depth = 0 ∧ wt p ≤ 600 := by
  rcases h with rfl | ⟨b, rfl⟩ | ⟨i, rfl, hi⟩ | ⟨z, rfl, hz⟩
  · exact ⟨.none, by simp only [rdP], rfl, rfl, rfl, by show 4 ≤ 600; decide⟩
  · exact ⟨.bool b, by simp only [rdP], rfl, rfl, rfl, by show 5 ≤ 600; decide⟩
  · exact ⟨.int i, by simp only [rdP], decide_eq_true (Nat.lt_of_lt_of_le (log_of hi (by decide)) (by decide)), rfl, rfl, by show 600 ≤ 600; decide⟩
  · exact ⟨.str z, by simp only [rdP], rfl, rfl, rfl, hz⟩
theorem flats_rd : ∀ (l : List D) (n : Nat), (∀ d ∈ l, Flat d) → l.length < n → ∃ ps, rdPs s (n + 1) l = some ps ∧ PyData.showableAll ps = true ∧ PyData.hasDictAll ps = false ∧ PyData.depthAll ps = 0 ∧ wtAll ps ≤ 602 * l.length
  | [], n, _, _ => ⟨[], by simp only [rdPs], rfl, rfl, rfl, by show 0 ≤ 602 * 0; decide⟩
  | d :: l, 0, _, hn => by simp at hn
  | d :: l, n + 1, h, hn => by
    obtain ⟨p, e1, a1, a2, a3, a4⟩ := flat_rd (s := s) (h d (by simp)) n
    obtain ⟨ps, e2, b1, b2, b3, b4⟩ := flats_rd l n (fun x hx => h x (by simp [hx])) (by simpa using hn)
    refine ⟨p :: ps, ?_, ?_, ?_, ?_, ?_⟩
    · simp only [rdPs, e1, e2]
      rfl
    · rw [PyData.showableAll, a1, b1]
      rfl
    · rw [PyData.hasDictAll, a2, b2]
      rfl
    · rw [PyData.depthAll, a3, b3]
      rfl
    · rw [wtAll, List.length_cons]
      omega
theorem ro_of {p : PyData} (e : rdP s 99 d = some p) (h1 : p.showable = true) (h2 : p.hasDict = false) (h3 : p.depth < 60) (h4 : wt p ≤ 100000) : RO s d :=
  ⟨p, e, h1, h3, Nat.le_trans (shown_len p h1 h2) (Nat.le_trans h4 (by decide))⟩
theorem ro_flat (h : Flat d) : RO s d := by
  obtain ⟨p, e, h1, h2, h3, h4⟩ := flat_rd (s := s) h 98
  exact ro_of e h1 h2 (by omega) (by omega)
theorem ro_tup {l : List D} (h : ∀ d ∈ l, Flat d) (hl : l.length ≤ 50) : RO s (.tup l) := by
  obtain ⟨ps, e, h1, h2, h3, h4⟩ := flats_rd (s := s) l 97 h (by omega)
  refine ro_of (p := .tuple ps) (by simp only [rdP, e]; rfl) (by rw [PyData.showable]; exact h1) (by rw [PyData.hasDict]; exact h2) (by rw [PyData.depth]; omega) ?_
  rw [wt]
  omega
theorem ro_lst {l : List D} (h : ∀ d ∈ l, Flat d) (hl : l.length ≤ 50) : RO s (.lst l) := by
  obtain ⟨ps, e, h1, h2, h3, h4⟩ := flats_rd (s := s) l 97 h (by omega)
  refine ro_of (p := .list ps) (by simp only [rdP, e]; rfl) (by rw [PyData.showable]; exact h1) (by rw [PyData.hasDict]; exact h2) (by rw [PyData.depth]; omega) ?_
  rw [wt]
  omega
theorem ro_tt {l : List D} (h : ∀ d ∈ l, Flat d) (hl : l.length ≤ 50) : RO s (.tup [.tup l, .int 2]) := by
  obtain ⟨ps, e, h1, h2, h3, h4⟩ := flats_rd (s := s) l 95 h (by omega)
  refine ro_of (p := .tuple [.tuple ps, .int 2]) (by simp only [rdP, rdPs, e]; rfl) ?_ ?_ ?_ ?_
  · rw [PyData.showable, PyData.showableAll, PyData.showable, h1]
    decide +kernel
  · rw [PyData.hasDict, PyData.hasDictAll, PyData.hasDict, h2]
    rfl
  · rw [PyData.depth, PyData.depthAll, PyData.depth, h3]
    decide +kernel
  · show (wtAll ps + 4) + 2 + (600 + 2 + 0) + 4 ≤ 100000
    omega
theorem ro_d0 {k : Nat} (h : s[k]? = some (some (.dct []))) : RO s (.cel k) := by
  refine ⟨.dict [], ?_, by decide +kernel, by decide +kernel, by decide +kernel⟩
  simp only [rdP, h, List.map_nil, rdPs]
  rfl
theorem ro_d1 {k : Nat} (h : s[k]? = some (some (.dct [(.inr "a", .int 1)]))) : RO s (.cel k) := by
  refine ⟨.dict [(.str "a", .int 1)], ?_, by decide +kernel, by decide +kernel, by decide +kernel⟩
  simp only [rdP, h, List.map_cons, List.map_nil, rdPs]
  rfl
/-- what is drawn -/
inductive Th (s : Sto) : D → Prop
  | flat {d : D} : Flat d → Th s d
  | tup {l : List D} : (∀ d ∈ l, Flat d) → l.length ≤ 5 → Th s (.tup l)
  | lst {l : List D} : (∀ d ∈ l, Flat d) → l.length ≤ 5 → Th s (.lst l)
  | d0 {k : Nat} : s[k]? = some (some (.dct [])) → Th s (.cel k)
  | d1 {k : Nat} : s[k]? = some (some (.dct [(.inr "a", .int 1)])) → Th s (.cel k)
theorem Th.ro (h : Th s d) : RO s d := by
  cases h with
  | flat h => exact ro_flat h
  | tup h hl => exact ro_tup h (by omega)
  | lst h hl => exact ro_lst h (by omega)
  | d0 h => exact ro_d0 h
  | d1 h => exact ro_d1 h
theorem Flat.ok1 (h : Flat d) : Ok1 s d := by
  rcases h with rfl | ⟨b, rfl⟩ | ⟨i, rfl, hi⟩ | ⟨z, rfl, hz⟩ <;> trivial
theorem Th.ok2 (h : Th s d) : Ok2 s d := by
  cases h with
  | flat h =>
    refine ⟨h.ok1, fun l e => ?_⟩
    subst e
    rcases h with h | ⟨b, h⟩ | ⟨i, h, hi⟩ | ⟨z, h, hz⟩ <;> cases h
  | tup h hl => exact ⟨trivial, fun l e x hx => by cases e; exact (h x hx).ok1⟩
  | lst h hl => exact ⟨trivial, fun l e => by cases e⟩
  | d0 h => exact ⟨⟨_, h⟩, fun l e => by cases e⟩
  | d1 h => exact ⟨⟨_, h⟩, fun l e => by cases e⟩
/-- .. or such a tuple in a tuple -/
def Th2 (s : Sto) (d : D) : Prop := Th s d ∨ (∃ l, d = .tup [.tup l, .int 2] ∧ (∀ d ∈ l, Flat d) ∧ l.length ≤ 5) ∨ ∃ l, d = .tup l ∧ (∀ d ∈ l, Flat d) ∧ l.length ≤ 50
theorem Th2.ro (h : Th2 s d) : RO s d := by
  rcases h with h | ⟨l, rfl, h, hl⟩ | ⟨l, rfl, h, hl⟩
  · exact h.ro
  · exact ro_tt h (by omega)
  · exact ro_tup h hl
theorem Th2.ok2 (h : Th2 s d) : Ok2 s d := by
  rcases h with h | ⟨l, rfl, h, hl⟩ | ⟨l, rfl, h, hl⟩
  · exact h.ok2
  rotate_left
  · exact ⟨trivial, fun l e x hx => by cases e; exact (h x hx).ok1⟩
  · refine ⟨trivial, fun l e x hx => ?_⟩
    cases e
    simp only [List.mem_cons, List.not_mem_nil, or_false] at hx
    rcases hx with rfl | rfl <;> trivial
theorem Th.fr {n : Nat} {b : Int} {s' : Sto} (h : Th s d) (p : Pen s n b) (f : Fr n s s') : Th s' d := by
  have key : ∀ {k : Nat} {m : List (L2.Key × D)}, s[k]? = some (some (.dct m)) → m.length < 3 → s'[k]? = some (some (.dct m)) := fun {k m} e hm => by
    have hk := (List.getElem?_eq_some_iff.mp e).1
    rw [f.2 k hk ?_]
    · exact e
    · intro z
      subst z
      obtain ⟨c, g, l, e2, _⟩ := p
      rw [e2] at e
      unfold penC at e
      cases e
      simp at hm
  cases h with
  | flat h => exact .flat h
  | tup h hl => exact .tup h hl
  | lst h hl => exact .lst h hl
  | d0 h => exact .d0 (key h (by decide))
  | d1 h => exact .d1 (key h (by simp))
theorem flatI {i : Int} (h : i.natAbs < 2 ^ 1000) : Flat (.int i) := .inr (.inr (.inl ⟨i, rfl, h⟩))
theorem flatB {b : Bool} : Flat (.bl b) := .inr (.inl ⟨b, rfl⟩)
theorem flatS {z : Str} (h : (PySem.reprText z).length ≤ 600) : Flat (.str z) := .inr (.inr (.inr ⟨z, rfl, h⟩))
theorem flats2 {a b : D} (ha : Flat a) (hb : Flat b) : ∀ d ∈ [a, b], Flat d := by
  simp only [List.mem_cons, List.not_mem_nil, or_false]
  rintro d (rfl | rfl)
  · exact ha
  · exact hb
theorem oddA_flat : ∀ d ∈ oddA, Flat d := by
  intro d h
  simp only [oddA, List.mem_cons, List.not_mem_nil, or_false] at h
  rcases h with rfl | rfl | rfl | rfl | rfl | rfl | rfl | rfl | rfl | rfl | rfl | rfl | rfl | rfl | rfl | rfl | rfl | rfl | rfl | rfl | rfl | rfl | rfl | rfl | rfl | rfl | rfl | rfl
  all_goals first
    | exact .inl rfl
    | exact flatB
    | exact flatI (by decide +kernel)
    | exact flatS (by decide +kernel)
theorem oddB_th : ∀ d ∈ oddB, Th s d := by
  have f1 : ∀ i : Int, i.natAbs < 10 → Flat (.int i) := fun i hi => flatI (Nat.lt_trans hi (by decide +kernel))
  have fs : ∀ x : D, Flat x → ∀ d ∈ [x], Flat d := fun x hx d hd => by
    rw [List.mem_singleton.mp hd]
    exact hx
  intro d h
  simp only [oddB, List.mem_cons, List.not_mem_nil, or_false] at h
  rcases h with rfl | rfl | rfl | rfl | rfl | rfl | rfl | rfl | rfl | rfl | rfl | rfl | rfl | rfl
  · exact .tup (by simp) (by simp)
  · exact .lst (by simp) (by simp)
  · exact .tup (fs _ (flatS (by decide +kernel))) (by simp)
  · exact .lst (fs _ (flatS (by decide +kernel))) (by simp)
  · exact .lst (fs _ (f1 _ (by decide))) (by simp)
  · exact .tup (flats2 (f1 _ (by decide)) (f1 _ (by decide))) (by simp)
  · exact .tup (flats2 (f1 _ (by decide)) (f1 _ (by decide))) (by simp)
  · exact .tup (flats2 (f1 _ (by decide)) (f1 _ (by decide))) (by simp)
  · exact .tup (flats2 (f1 _ (by decide)) (f1 _ (by decide))) (by simp)
  · exact .tup (flats2 (f1 _ (by decide)) (f1 _ (by decide))) (by simp)
  · exact .tup (flats2 (f1 _ (by decide)) (f1 _ (by decide))) (by simp)
  · exact .tup (flats2 flatB (f1 _ (by decide))) (by simp)
  · exact .lst (flats2 (f1 _ (by decide)) (f1 _ (by decide))) (by simp)
  · refine .tup ?_ (by simp)
    simp only [List.mem_cons, List.not_mem_nil, or_false]
    rintro d (rfl | rfl | rfl)
    · exact f1 _ (by decide)
    · exact f1 _ (by decide)
    · exact f1 _ (by decide)
theorem Odd.th (h : Odd s d) : Th s d := by
  rcases h with h | h | ⟨k, rfl, h | h⟩
  · exact .flat (oddA_flat d h)
  · exact oddB_th d h
  · exact .d0 h
  · exact .d1 h
end
/-! the texts of values of any kind are texts -/
section
open PySem (PyData)
end
end G
set_option Elab.async false
set_option linter.all false
set_option maxRecDepth 100000
set_option maxHeartbeats 4000000
namespace G
open Mp Pl
open PySem (Str sizeLine)
local macro_rules | `(tactic| wtm_at "e") => `(tactic| first
  | with_reducible refine w_set ?_
  | with_reducible refine w_bin ?_
  | ((with_reducible refine w_v (d := ?dv) ?hv ?_); (case hv => exact rfl))
  | with_reducible refine w_c ?_
  | with_reducible refine w_cons ?_
  | with_reducible refine w_nil ?_
  | with_reducible refine w_arg ?_
  | with_reducible refine w_call ?_
  | with_reducible refine w_if ?_
  | with_reducible refine w_ret ?_
  | with_reducible refine w_skip ?_
  | with_reducible refine w_bl ?_
  | with_reducible refine w_tru ?_
  | with_reducible refine w_attr ?_
  | with_reducible refine w_meth ?_
  | with_reducible refine w_chain ?_
  | with_reducible refine w_and ?_
  | with_reducible refine w_or ?_
  | with_reducible refine w_not ?_
  | with_reducible refine w_notT ?_
  | with_reducible refine w_andT ?_
  | with_reducible refine w_orT ?_
  | with_reducible refine w_ifM ?_
  | with_reducible refine w_expr ?_
  | with_reducible refine w_un ?_
  | with_reducible refine w_par2 ?_
  | with_reducible refine w_par3 ?_
  | with_reducible refine w_asg ?_
  | with_reducible refine w_aug ?_
  | with_reducible refine w_sub ?_
  | with_reducible refine w_fld ?_
  | with_reducible refine w_raise ?_
  | with_reducible refine w_raise0 ?_
  | with_reducible refine w_try ?_
  | with_reducible refine w_make ?_
  | with_reducible refine w_tryAs ?_
  | with_reducible refine w_exn ?_
  | ((with_reducible refine o_isx (b := ?bv) ?h1 ?_); (case h1 => exact rfl))
  | with_reducible refine w_superS ?_
  | with_reducible refine w_super ?_
  | with_reducible refine w_star ?_
  | with_reducible refine w_for0 ?_
  | with_reducible refine w_lc0 ?_
  | with_reducible refine w_lc20 ?_
  | with_reducible refine w_seqJ ?_
  | with_reducible refine w_starC ?_
  | with_reducible refine w_spr ?_
  | with_reducible refine w_kwA ?_
  | with_reducible refine w_kwM ?_
  | with_reducible refine w_sprK ?_
  | with_reducible refine w_get ?_
  | with_reducible refine w_makeL ?_
  | with_reducible refine w_tryN ?_
  | ((with_reducible refine o_own0 ?hv ?_); (case hv => exact rfl))
  | ((with_reducible refine o_eqO0 ?hv ?_); (case hv => exact rfl))
  | with_reducible refine w_seqI ?_
  | with_reducible refine w_argI ?_
  | with_reducible refine w_opt ?_
  | with_reducible refine w_sli ?_
  | with_reducible refine w_pure ?_
  | with_reducible refine w_disp ?_
  | with_reducible refine w_pairs1 ?_
  | with_reducible refine w_pairs0 ?_
  | with_reducible refine w_retN ?_
  | with_reducible refine w_cnt ?_
  | with_reducible refine w_brk ?_
  | with_reducible refine o_addI ?_
  | with_reducible refine o_addI' ?_
  | with_reducible refine o_sub ?_
  | with_reducible refine o_lt ?_
  | with_reducible refine o_le ?_
  | with_reducible refine o_gt ?_
  | with_reducible refine o_ge ?_
  | with_reducible refine o_eqI ?_
  | with_reducible refine o_neI ?_
  | with_reducible refine o_eqS ?_
  | with_reducible refine o_neS ?_
  | with_reducible refine o_int ?_
  | with_reducible refine o_intB ?_
  | with_reducible refine o_neg ?_
  | with_reducible refine o_abs ?_
  | with_reducible refine o_newL ?_
  | with_reducible refine o_max2 ?_
  | with_reducible refine o_min2 ?_
  | with_reducible refine o_lenL ?_
  | with_reducible refine o_lenT ?_
  | ((with_reducible refine o_tup ?hv ?_); (case hv => first | exact Nat.le_of_ble_eq_true rfl | assumption))
  | ((with_reducible refine o_lst ?hv ?_); (case hv => first | exact Nat.le_of_ble_eq_true rfl | assumption))
  | ((with_reducible refine o_isi (t := ?tv) (b := ?bv) ?h1 ?h2 ?_); (case h1 => exact rfl); (case h2 => exact rfl))
  | ((with_reducible refine o_fld (C := ?cv) (fs := ?fv) (d := ?dv) ?h1 ?h2 ?h3 ?_); (case h1 => exact rfl); (case h2 => exact rfl); (case h3 => exact rfl))
  | ((with_reducible refine Exists.intro ?kv (And.intro ?ha ?_)); (case ha => exact rfl)))
local macro_rules | `(tactic| wtm_at "body") => `(tactic| (refine w_body rfl rfl ?_; dsimp only [List.length_cons, List.length_nil, List.drop, List.append_nil, List.map_cons, List.map_nil, List.map, List.cons_append, List.nil_append, Nat.reduceAdd, Nat.reduceSub, List.replicate]))
local macro_rules | `(tactic| wtm_at "meth") => `(tactic| refine ⟨_, _, _, rfl, rfl, rfl, ?_⟩)
local macro_rules | `(tactic| wtm_at "w") => `(tactic| first | with_reducible refine w_seq ?_ | wtm_at "e")
local macro_rules | `(tactic| wtm_at "s") => `(tactic| ((repeat wtm_at "e"); (with_reducible refine w_seq ?_)))
local macro_rules | `(tactic| wtm_at "f") => `(tactic| ((repeat wtm_at "e"); (with_reducible show FP _ _)))
/-! integers read from texts -/
open PySem.NumText (AllDigits digitsVal)
def isDig (c : Nat) : Bool := decide (48 ≤ c ∧ c ≤ 57)
def canB (ds : List Nat) : Bool := ds.all isDig && (!ds.isEmpty && (!decide (ds.head? = some 48) || decide (ds = [48])))
theorem canB_iff {ds : List Nat} : canB ds = true ↔ Canon ds := by
  unfold canB Canon AllDigits isDig
  simp only [Bool.and_eq_true, Bool.or_eq_true, Bool.not_eq_true', List.all_eq_true, decide_eq_true_eq, decide_eq_false_iff_not, List.isEmpty_eq_false_iff]
theorem CS_cps (cs : List Nat) : (CS cs).cps.toList = cs := by simp [CS]
theorem CS_inj {a b : List Nat} (h : CS a = CS b) : a = b := by
  have := congrArg (fun z : Str => z.cps.toList) h
  simpa [CS] using this
theorem in_ten (a : Nat) : inStr ⟨#[a]⟩ (Str.ofString "0123456789") = isDig a := by
  have e : (Str.ofString "0123456789").cps.toList = [48, 49, 50, 51, 52, 53, 54, 55, 56, 57] := by decide +kernel
  show decide (a ∈ (Str.ofString "0123456789").cps.toList) = _
  rw [e]
  unfold isDig
  apply decide_eq_decide.mpr
  simp only [List.mem_cons, List.not_mem_nil, or_false]
  omega
section
open PySem (PyData)
end
section
variable {s : Sto} {Q : D → Sto → Prop} {E : XT} {cs : List Nat}
theorem o_idxCS {l : List Nat} {k a : Nat} {i : Int} (hl : l.length ≤ sizeLine) (h0 : i = (k : Int)) (h1 : l[k]? = some a) (h : Q (.str (CS [a])) s) : RP Q E (idxD (.str (CS l)) (.int i) s) := by
  have hk := (List.getElem?_eq_some_iff.mp h1).1
  unfold idxD
  rw [show dctOf s (.str (CS l)) = none from rfl]
  dsimp only
  rw [if_pos (by rw [CS_len]; exact hl)]
  subst h0
  have e : L2.atI (CS l).cps.toList (k : Int) = some a := by
    unfold L2.atI L2.ixN
    rw [CS_cps, if_pos (by omega), if_pos (by omega)]
    simpa using h1
  rw [e]
  exact h
theorem o_allX {T : Type} {l : List T} {f : T → Bool} (h : Q (.bl ((l.map f).all id)) s) : RP Q E (allD [.lst (l.map fun x => .bl (f x))] s) := o_all (l := l.map f) (by show bools _ = _; exact bools_map f l) h
theorem q_is_numeral {ds : List Nat} (hl : ds.length ≤ 100000) (h : Q (.bl (canB ds)) s) : RP Q E (m_is_numeral [.str (CS ds)] s) := by
  have hz : sizeLine = 16777216 := by decide
  have e0 : Str.ofString "" = CS [] := by decide +kernel
  have e48 : Str.ofString "0" = CS [48] := by decide +kernel
  have dec : ∀ a b : List Nat, decide (CS a = CS b) = decide (a = b) := fun a b => decide_eq_decide.mpr ⟨CS_inj, fun z => by rw [z]⟩
  wtm_at "body"
  unfold b_is_numeral
  wtm_at "f"
  with_reducible refine w_mid (fun r s' => s' = s ∧ ds ≠ [] ∧ ds.all isDig = true ∧ r = [some (.str (CS ds)), none]) ?_ ?_
  · repeat wtm_at "e"
    rw [e0, dec]
    by_cases z : ds = []
    · subst z
      refine ⟨fun y => absurd y (by simp), fun _ => ⟨fun _ => ?_, fun z => (by cases z)⟩⟩
      repeat wtm_at "e"
      exact h
    · rw [decide_eq_false z]
      refine ⟨fun _ => ?_, fun y => by cases y⟩
      repeat wtm_at "e"
      refine w_lcX ds (fun c => .str ⟨#[c]⟩) (fun c => .bl (isDig c)) (CS_chars ds) rfl (by omega) (fun c hc => ⟨_, rfl, ?_⟩) ?_
      · repeat wtm_at "e"
        refine o_inS ?_
        rw [in_ten]
        exact ⟨rfl, rfl⟩
      repeat wtm_at "e"
      refine o_allX (l := ds) (f := isDig) ?_
      rw [show (ds.map isDig).all id = ds.all isDig by rw [List.all_map]; rfl]
      repeat wtm_at "e"
      cases y : ds.all isDig with
      | true =>
        refine ⟨fun y => (by cases y), fun _ => ?_⟩
        repeat wtm_at "e"
        exact ⟨rfl, z, rfl, rfl⟩
      | false =>
        refine ⟨fun _ => ?_, fun y => (by cases y)⟩
        repeat wtm_at "e"
        have e : canB ds = false := by
          unfold canB
          rw [y]
          rfl
        rw [e] at h
        exact h
  rintro r s' ⟨rfl, hne, hall, rfl⟩
  obtain ⟨c, r, rfl⟩ := List.exists_cons_of_ne_nil hne
  repeat wtm_at "e"
  refine o_idxCS (k := 0) (a := c) (by omega) rfl rfl ?_
  repeat wtm_at "e"
  rw [e48, dec]
  have hcan : canB (c :: r) = (!decide (c = 48) || decide (c :: r = [48])) := by
    unfold canB
    rw [hall]
    simp
  rw [hcan] at h
  by_cases hc : c = 48
  · rw [decide_eq_true hc] at h
    rw [decide_eq_true (show [c] = [48] by rw [hc])]
    refine ⟨fun _ => ?_, fun y => (by cases y)⟩
    repeat wtm_at "e"
    rw [dec]
    exact h
  · rw [decide_eq_false hc] at h
    rw [decide_eq_false (show [c] ≠ [48] by simpa using hc)]
    refine ⟨fun y => (by cases y), fun _ => ?_⟩
    exact h
end
end G
set_option Elab.async false
set_option linter.all false
set_option maxRecDepth 100000
set_option maxHeartbeats 4000000
namespace G
open Mp Pl
open PySem (Str sizeLine)
local macro_rules | `(tactic| wtm_at "e") => `(tactic| first
  | with_reducible refine w_set ?_
  | with_reducible refine w_bin ?_
  | ((with_reducible refine w_v (d := ?dv) ?hv ?_); (case hv => exact rfl))
  | with_reducible refine w_c ?_
  | with_reducible refine w_cons ?_
  | with_reducible refine w_nil ?_
  | with_reducible refine w_arg ?_
  | with_reducible refine w_call ?_
  | with_reducible refine w_if ?_
  | with_reducible refine w_ret ?_
  | with_reducible refine w_skip ?_
  | with_reducible refine w_bl ?_
  | with_reducible refine w_tru ?_
  | with_reducible refine w_attr ?_
  | with_reducible refine w_meth ?_
  | with_reducible refine w_chain ?_
  | with_reducible refine w_and ?_
  | with_reducible refine w_or ?_
  | with_reducible refine w_not ?_
  | with_reducible refine w_notT ?_
  | with_reducible refine w_andT ?_
  | with_reducible refine w_orT ?_
  | with_reducible refine w_ifM ?_
  | with_reducible refine w_expr ?_
  | with_reducible refine w_un ?_
  | with_reducible refine w_par2 ?_
  | with_reducible refine w_par3 ?_
  | with_reducible refine w_asg ?_
  | with_reducible refine w_aug ?_
  | with_reducible refine w_sub ?_
  | with_reducible refine w_fld ?_
  | with_reducible refine w_raise ?_
  | with_reducible refine w_raise0 ?_
  | with_reducible refine w_try ?_
  | with_reducible refine w_make ?_
  | with_reducible refine w_tryAs ?_
  | with_reducible refine w_exn ?_
  | ((with_reducible refine o_isx (b := ?bv) ?h1 ?_); (case h1 => exact rfl))
  | with_reducible refine w_superS ?_
  | with_reducible refine w_super ?_
  | with_reducible refine w_star ?_
  | with_reducible refine w_for0 ?_
  | with_reducible refine w_lc0 ?_
  | with_reducible refine w_lc20 ?_
  | with_reducible refine w_seqJ ?_
  | with_reducible refine w_starC ?_
  | with_reducible refine w_spr ?_
  | with_reducible refine w_kwA ?_
  | with_reducible refine w_kwM ?_
  | with_reducible refine w_sprK ?_
  | with_reducible refine w_get ?_
  | with_reducible refine w_makeL ?_
  | with_reducible refine w_tryN ?_
  | ((with_reducible refine o_own0 ?hv ?_); (case hv => exact rfl))
  | ((with_reducible refine o_eqO0 ?hv ?_); (case hv => exact rfl))
  | with_reducible refine w_seqI ?_
  | with_reducible refine w_argI ?_
  | with_reducible refine w_opt ?_
  | with_reducible refine w_sli ?_
  | with_reducible refine w_pure ?_
  | with_reducible refine w_disp ?_
  | with_reducible refine w_pairs1 ?_
  | with_reducible refine w_pairs0 ?_
  | with_reducible refine w_retN ?_
  | with_reducible refine w_cnt ?_
  | with_reducible refine w_brk ?_
  | with_reducible refine o_addI ?_
  | with_reducible refine o_addI' ?_
  | with_reducible refine o_sub ?_
  | with_reducible refine o_lt ?_
  | with_reducible refine o_le ?_
  | with_reducible refine o_gt ?_
  | with_reducible refine o_ge ?_
  | with_reducible refine o_eqI ?_
  | with_reducible refine o_neI ?_
  | with_reducible refine o_eqS ?_
  | with_reducible refine o_neS ?_
  | with_reducible refine o_int ?_
  | with_reducible refine o_intB ?_
  | with_reducible refine o_neg ?_
  | with_reducible refine o_abs ?_
  | with_reducible refine o_newL ?_
  | with_reducible refine o_max2 ?_
  | with_reducible refine o_min2 ?_
  | with_reducible refine o_lenL ?_
  | with_reducible refine o_lenT ?_
  | ((with_reducible refine o_tup ?hv ?_); (case hv => first | exact Nat.le_of_ble_eq_true rfl | assumption))
  | ((with_reducible refine o_lst ?hv ?_); (case hv => first | exact Nat.le_of_ble_eq_true rfl | assumption))
  | ((with_reducible refine o_isi (t := ?tv) (b := ?bv) ?h1 ?h2 ?_); (case h1 => exact rfl); (case h2 => exact rfl))
  | ((with_reducible refine o_fld (C := ?cv) (fs := ?fv) (d := ?dv) ?h1 ?h2 ?h3 ?_); (case h1 => exact rfl); (case h2 => exact rfl); (case h3 => exact rfl))
  | ((with_reducible refine Exists.intro ?kv (And.intro ?ha ?_)); (case ha => exact rfl)))
local macro_rules | `(tactic| wtm_at "body") => `(tactic| (refine w_body rfl rfl ?_; dsimp only [List.length_cons, List.length_nil, List.drop, List.append_nil, List.map_cons, List.map_nil, List.map, List.cons_append, List.nil_append, Nat.reduceAdd, Nat.reduceSub, List.replicate]))
local macro_rules | `(tactic| wtm_at "meth") => `(tactic| refine ⟨_, _, _, rfl, rfl, rfl, ?_⟩)
local macro_rules | `(tactic| wtm_at "w") => `(tactic| first | with_reducible refine w_seq ?_ | wtm_at "e")
local macro_rules | `(tactic| wtm_at "s") => `(tactic| ((repeat wtm_at "e"); (with_reducible refine w_seq ?_)))
local macro_rules | `(tactic| wtm_at "f") => `(tactic| ((repeat wtm_at "e"); (with_reducible show FP _ _)))
/-! primes of the law, refused values -/
section
variable {n : Nat} {b : Int} {s : Sto} {Q : D → Sto → Prop} {E : XT} {d : D}
theorem split3 {p : Nat} (h2 : 2 ≤ p) (hp : p ≤ 1000000000) : ∃ o h : Nat, ((p : Nat) : Int) - 1 = (o : Int) * 2 ^ h ∧ p - 1 = o * 2 ^ h ∧ o % 2 = 1 ∧ h ≤ 60 := by
  obtain ⟨o, h, ho, hod⟩ := split2 (p - 1) (by omega)
  have hh : h ≤ 60 := by
    refine Nat.le_of_not_lt fun z => ?_
    have h1 : 2 ^ 61 ≤ 2 ^ h := Nat.pow_le_pow_right (by decide) z
    have h2 : 1 * 2 ^ h ≤ o * 2 ^ h := Nat.mul_le_mul_right _ (by omega)
    rw [Nat.one_mul] at h2
    have h3 : (1000000000 : Nat) < 2 ^ 61 := by decide
    omega
  have e : ((p : Nat) : Int) - 1 = (o : Int) * 2 ^ h := by
    have e1 := congrArg (fun x : Nat => (x : Int)) ho
    simp only [Int.natCast_mul, Int.natCast_pow] at e1
    have e2 : ((p - 1 : Nat) : Int) = (p : Int) - 1 := by omega
    rw [← e2, e1]
    rfl
  exact ⟨o, h, e, ho, hod, hh⟩
theorem primeOk_of {p : Nat} (hp : Pr p) (h : p ≤ 1000000000) : PrimeOk p := by
  have h2 := hp.1
  obtain ⟨o, k, e, ho, hod, hh⟩ := split3 h2 h
  exact ⟨by omega, by omega, o, k, e, hod, hh, (pf_iff h2 h ho hod).mpr hp⟩
theorem pr_trial {N a : Nat} (h2 : 2 ≤ N) (hN : N < a * a) (hnd : ∀ d, 2 ≤ d → d < a → ¬ d ∣ N) : Pr N := by
  refine ⟨h2, fun d hd => ?_⟩
  obtain ⟨e, he⟩ := hd
  have hd0 : d ≠ 0 := fun z => by subst z; simp at he; omega
  have he0 : e ≠ 0 := fun z => by subst z; simp at he; omega
  rcases Nat.lt_or_ge d 2 with h | h
  · exact .inl (by omega)
  rcases Nat.lt_or_ge e 2 with h' | h'
  · refine .inr ?_
    have : e = 1 := by omega
    subst this
    omega
  exfalso
  have h3 : a ≤ d := Nat.le_of_not_lt fun z => hnd d h z ⟨e, he⟩
  have h4 : a ≤ e := Nat.le_of_not_lt fun z => hnd e h' z ⟨d, by rw [he, Nat.mul_comm]⟩
  have := Nat.mul_le_mul h3 h4
  omega
theorem q_lis_prime {v : Int} (h2 : 2 ≤ v) (hv : v ≤ 1000000000) (hq : Q (.bl (prB v.toNat)) s) : RP Q E (m__law_is_prime [.int v] s) := by
  obtain ⟨N, rfl⟩ : ∃ N : Nat, v = N := ⟨v.toNat, by omega⟩
  rw [Int.toNat_natCast] at hq
  wtm_at "body"
  unfold b__law_is_prime
  repeat wtm_at "w"
  refine w_while (fun m r s' => s' = s ∧ ∃ a : Nat, 2 ≤ a ∧ a ≤ 31630 ∧ (a = 2 ∨ a % 2 = 1) ∧ (∀ d, 2 ≤ d → d < a → ¬ d ∣ N) ∧ r = [some (.int (N : Nat)), some (.int (a : Nat))] ∧ 40000 - a = m) ?_ 39998 _ _ ⟨rfl, 2, by omega, by omega, .inl rfl, fun d h1 h2 => by omega, rfl, rfl⟩
  rintro m r s' ⟨rfl, a, ha2, ha, hpar, hnd, rfl, hm⟩
  repeat wtm_at "w"
  refine o_mul64 (by omega) (by omega) ?_
  repeat wtm_at "w"
  have ec : ((a : Nat) : Int) * ((a : Nat) : Int) = ((a * a : Nat) : Int) := by rw [Int.natCast_mul]
  rw [ec]
  refine ⟨fun hz => ?_, fun hz => ?_⟩
  · have hz : ((a * a : Nat) : Int) ≤ ((N : Nat) : Int) := of_decide_eq_true hz
    have ha3 : a ≤ 31622 := Nat.le_of_not_lt fun z => by
      have := Nat.mul_le_mul (show 31623 ≤ a from z) (show 31623 ≤ a from z)
      omega
    repeat wtm_at "w"
    refine o_mod (by omega) ?_
    repeat wtm_at "w"
    refine ⟨fun h3 => ?_, fun h3 => ?_⟩
    · have h3 := of_decide_eq_true h3
      repeat wtm_at "w"
      have hno : prB N = false := by
        refine Bool.eq_false_iff.mpr fun z => ?_
        have hp := prB_iff.mp z
        have hd : a ∣ N := Nat.dvd_of_mod_eq_zero (by omega)
        rcases hp.2 a hd with e | e
        · omega
        · subst e
          have := Nat.mul_le_mul (show 2 ≤ a from ha2) (Nat.le_refl a)
          omega
      rw [hno] at hq
      exact hq
    · have h3 := of_decide_eq_false h3
      repeat wtm_at "w"
      have hd : ¬ a ∣ N := fun z => h3 (by have := Nat.mod_eq_zero_of_dvd z; omega)
      by_cases h2a : a = 2
      · subst h2a
        refine ⟨40000 - 3, by omega, rfl, 3, by omega, by omega, .inr rfl, fun d h1 h2 => ?_, rfl, rfl⟩
        obtain rfl : d = 2 := by omega
        exact hd
      · have ho : a % 2 = 1 := hpar.resolve_left h2a
        refine ⟨40000 - (a + 2), by omega, rfl, a + 2, by omega, by omega, .inr (by omega), fun d h1 h2 => ?_, ?_, rfl⟩
        · rcases Nat.lt_or_ge d a with z | z
          · exact hnd d h1 z
          · by_cases e : d = a
            · exact e ▸ hd
            · intro z2
              have e2 : d = a + 1 := by omega
              subst e2
              refine hnd 2 (by omega) (by omega) (Nat.dvd_trans ?_ z2)
              exact ⟨(a + 1) / 2, by omega⟩
        · show [some (D.int (N : Nat)), some (.int (((a : Nat) : Int) + 1 + (if decide ((2 : Int) < (a : Nat)) = true then 1 else 0)))] = _
          rw [if_pos (decide_eq_true (by omega))]
          congr 3
  · have hz : ¬ ((a * a : Nat) : Int) ≤ ((N : Nat) : Int) := of_decide_eq_false hz
    repeat wtm_at "w"
    rw [prB_iff.mpr (pr_trial (by omega) (by omega) hnd)] at hq
    exact hq
/-- a prime of a field -/
noncomputable def fineB : D → Bool
  | .int i => decide (2 ≤ i) && (decide (i ≤ 1000000000) && prB i.toNat)
  | _ => false
theorem fineB_int {i : Int} (h : fineB (.int i) = true) : 2 ≤ i ∧ i ≤ 1000000000 ∧ Pr i.toNat := by
  simp only [fineB, Bool.and_eq_true, decide_eq_true_eq] at h
  exact ⟨h.1, h.2.1, prB_iff.mp h.2.2⟩
theorem fineB_isI (h : isI d = false) : fineB d = false := by
  cases d <;> first | rfl | cases h
theorem q_lfine (h1 : Ok1 s d) (hq : Q (.bl (fineB d)) s) : RP Q E (m__law_is_fine [d] s) := by
  wtm_at "body"
  unfold b__law_is_fine
  repeat wtm_at "w"
  refine q_lwhole h1 ?_
  repeat wtm_at "w"
  cases hi : isI d with
  | false =>
    rw [fineB_isI hi] at hq
    exact ⟨fun z => (by cases z), fun _ => hq⟩
  | true =>
    obtain ⟨i, rfl⟩ : ∃ i, d = .int i := by cases d <;> first | exact ⟨_, rfl⟩ | cases hi
    refine ⟨fun _ => ?_, fun z => (by cases z)⟩
    repeat wtm_at "w"
    refine ⟨fun z1 => ?_, fun z1 => ?_⟩
    · have y1 := of_decide_eq_true z1
      repeat wtm_at "w"
      refine o_powV (v := 1000000000) (by decide) (by decide) (by decide) (by decide) ?_
      repeat wtm_at "w"
      refine ⟨fun z2 => ?_, fun z2 => ?_⟩
      · have y2 := of_decide_eq_true z2
        repeat wtm_at "w"
        refine q_lis_prime y1 y2 ?_
        show Q (.bl (prB i.toNat)) s
        have e : fineB (.int i) = prB i.toNat := by
          show (decide (2 ≤ i) && (decide (i ≤ 1000000000) && prB i.toNat)) = _
          rw [z1, z2, Bool.true_and, Bool.true_and]
        rw [e] at hq
        exact hq
      · have e : fineB (.int i) = decide (i ≤ 1000000000) := by
          show (decide (2 ≤ i) && (decide (i ≤ 1000000000) && prB i.toNat)) = _
          rw [z1, z2]
          rfl
        rw [e] at hq
        exact hq
    · have e : fineB (.int i) = false := by
        show (decide (2 ≤ i) && (decide (i ≤ 1000000000) && prB i.toNat)) = _
        rw [z1]
        rfl
      rw [e] at hq
      exact ⟨_, rfl, fun z => (by cases z), fun _ => hq⟩
theorem q_is_betweenX (h1 : Ok1 s d) {a b : Int} (hn : isI d = false) (h : Q (.bl false) s) : RP Q E (m_is_between [d, .int a, .int b] s) := by
  wtm_at "body"
  unfold b_is_between
  repeat wtm_at "w"
  refine q_is_integer h1 ?_
  rw [hn]
  repeat wtm_at "w"
  exact ⟨fun z => (by cases z), fun _ => h⟩
theorem q_is_primeX (h1 : Ok1 s d) (hq : Q (.bl (fineB d)) s) : RP Q E (m_is_prime [d] s) := by
  have no : (∀ Q' : D → Sto → Prop, ∀ E', Q' (.bl false) s → RP Q' E' (m_is_between [d, .int 2, .int 1000000000] s)) → fineB d = false → RP Q E (m_is_prime [d] s) := fun hb hf => by
    rw [hf] at hq
    wtm_at "body"
    unfold b_is_prime
    repeat wtm_at "w"
    refine hb _ _ ?_
    repeat wtm_at "w"
    refine ⟨fun _ => ?_, fun z => (by cases z)⟩
    repeat wtm_at "w"
    exact hq
  cases hi : isI d with
  | false => exact no (fun Q' E' h => q_is_betweenX h1 hi h) (fineB_isI hi)
  | true =>
    obtain ⟨i, rfl⟩ : ∃ i, d = .int i := by cases d <;> first | exact ⟨_, rfl⟩ | cases hi
    by_cases hr : 2 ≤ i ∧ i ≤ 1000000000
    · refine q_is_prime1 hr.1 hr.2 ?_
      have e : fineB (.int i) = prB i.toNat := by
        show (decide (2 ≤ i) && (decide (i ≤ 1000000000) && prB i.toNat)) = _
        rw [decide_eq_true hr.1, decide_eq_true hr.2, Bool.true_and, Bool.true_and]
      rw [e] at hq
      exact hq
    · have e0 : (decide (2 ≤ i) && decide (i ≤ 1000000000)) = false := by
        refine Bool.eq_false_iff.mpr fun z => hr ?_
        simpa using z
      refine no (fun Q' E' h => q_is_between_int ?_) ?_
      · rw [e0]
        exact h
      · show (decide (2 ≤ i) && (decide (i ≤ 1000000000) && prB i.toNat)) = _
        rw [← Bool.and_assoc, e0, Bool.false_and]
theorem Th.app {c : Option Ct} (h : Th s d) : Th (s ++ [c]) d := by
  have key : ∀ {k : Nat} {m : List (L2.Key × D)}, s[k]? = some (some (.dct m)) → (s ++ [c])[k]? = some (some (.dct m)) := fun {k m} e => by
    rw [List.getElem?_append_left (List.getElem?_eq_some_iff.mp e).1]
    exact e
  cases h with
  | flat h => exact .flat h
  | tup h hl => exact .tup h hl
  | lst h hl => exact .lst h hl
  | d0 h => exact .d0 (key h)
  | d1 h => exact .d1 (key h)
theorem q_newNo (h1 : Ok1 (s ++ [some (.ins "Modulo" [])]) d) (hf : fineB d = false) (h : E "InvalidPrime" [("value", d)] (s ++ [some (.ins "Modulo" [])])) : RP Q E (m_Modulo___init__ [.cel s.length, d] (s ++ [some (.ins "Modulo" [])])) := by
  wtm_at "body"
  unfold b_Modulo___init__
  repeat wtm_at "w"
  refine q_is_primeX h1 ?_
  rw [hf]
  repeat wtm_at "w"
  refine ⟨fun _ => ?_, fun z => (by cases z)⟩
  repeat wtm_at "w"
  exact h
theorem q_refused1 (ht : Th s d) (hf : fineB d = false) (h : ∀ c, Q (.bl true) (s ++ [c])) : RP Q E (m__law_refused [d] s) := by
  have ht2 : Th (s ++ [some (.ins "Modulo" [])]) d := ht.app
  wtm_at "body"
  unfold b__law_refused
  wtm_at "s"
  repeat wtm_at "e"
  refine q_newNo ht2.ok2.1 hf ?_
  refine ⟨true, rfl, fun _ => ⟨rfl, .bl true, s ++ [some (.ins "Modulo" [])], fun a dd => ?_, ?_⟩, fun z => by cases z⟩
  · repeat wtm_at "e"
    refine ⟨_, _, _, rfl, rfl, ?_⟩
    repeat wtm_at "e"
    refine o_reprX ht2.ro ?_
    repeat wtm_at "e"
    refine o_reprX ht2.ro ?_
    repeat wtm_at "e"
    rw [decide_eq_true rfl]
    refine ⟨fun _ => ?_, fun z => (by cases z)⟩
    repeat wtm_at "e"
    exact ⟨rfl, rfl⟩
  · exact h _
/-- what is drawn in a prime's place -/
def DrawnP (s : Sto) (d : D) : Prop := (∃ i : Int, d = .int i ∧ -8 < i ∧ i < 3000000000) ∨ Odd s d
theorem DrawnP.th (h : DrawnP s d) : Th s d := by
  rcases h with ⟨i, rfl, h1, h2⟩ | h
  · have e : (3000000000 : Nat) < 2 ^ 1000 := by decide +kernel
    exact .flat (flatI (by omega))
  · exact h.th
theorem q_drawn (p : Pen s n b) (hb : b + 10 ≤ 1000000000) (h : ∀ d s', Th s' d → Pen s' n (b + 5) → Q d s') : RP Q E (m__law_drawn_prime [.cel n] s) := by
  have z : ∀ {a b : Nat}, a + b ≤ 100 → a + b ≤ sizeLine := fun h => Nat.le_trans h (by decide)
  wtm_at "body"
  unfold b__law_drawn_prime
  wtm_at "s"
  repeat wtm_at "e"
  refine o_mul64 (by decide) (by decide) ?_
  repeat wtm_at "e"
  wtm_at "s"
  repeat wtm_at "e"
  refine o_powV (v := 1000000000) (by decide) (by decide) (by decide) (by decide) ?_
  repeat wtm_at "e"
  refine o_powV (v := 1000000000) (by decide) (by decide) (by decide) (by decide) ?_
  repeat wtm_at "e"
  refine o_mul64 (by decide) (by decide) ?_
  repeat wtm_at "e"
  refine o_mul64 (by decide) (by decide) ?_
  repeat wtm_at "e"
  refine o_addL (z (by show 15 + 8 ≤ 100; decide)) ?_
  repeat wtm_at "e"
  refine q_pick p (by omega) (by show 0 < 23; decide) (by show 23 < 1000000; decide) fun d1 s1 h1 p1 f1 l1 => ?_
  repeat wtm_at "e"
  refine q_draw p1 (by omega) (by decide) (by decide) fun k2 s2 k20 k21 p2 f2 l2 => ?_
  repeat wtm_at "e"
  refine o_powV (v := 1000000000) (by decide) (by decide) (by decide) (by decide) ?_
  repeat wtm_at "e"
  refine q_draw p2 (by omega) (by decide) (by decide) fun k3 s3 k30 k31 p3 f3 l3 => ?_
  repeat wtm_at "e"
  refine q_odd p3 (by omega) fun d4 s4 h4 p4 f4 l4 => ?_
  repeat wtm_at "e"
  refine q_pick p4 (by omega) (by show 0 < 4; decide) (by show 4 < 1000000; decide) fun d5 s5 h5 p5 f5 l5 => ?_
  refine h d5 s5 ?_ (p5.mono (by omega))
  have i1 : ∃ i : Int, d1 = .int i ∧ -8 < i ∧ i < 3000000000 := by
    have h1 : d1 ∈ [D.int 2, .int 3, .int 4, .int 9, .int 25, .int 561, .int 1105, .int 2047, .int 3277, .int 41041, .int 1373653, .int 25326001, .int 321197185, .int 999999937, .int (31607 * 31627)] ++ [D.int 1000000000, .int (1000000000 + 7), .int 2147483647, .int 0, .int 1, .int (-7), .int (31607 * 31607), .int (999999937 * 3)] := h1
    simp only [List.mem_append, List.mem_cons, List.not_mem_nil, or_false] at h1
    rcases h1 with ((rfl | rfl | rfl | rfl | rfl | rfl | rfl | rfl | rfl | rfl | rfl | rfl | rfl | rfl | rfl) | (rfl | rfl | rfl | rfl | rfl | rfl | rfl | rfl)) <;> exact ⟨_, rfl, by decide, by decide⟩
  simp only [List.mem_cons, List.not_mem_nil, or_false] at h5
  rcases h5 with rfl | rfl | rfl | rfl
  · exact DrawnP.th (.inl i1)
  · exact DrawnP.th (.inl ⟨_, rfl, by omega, by omega⟩)
  · exact DrawnP.th (.inl ⟨_, rfl, by omega, by omega⟩)
  · exact h4.th.fr p4 f5
end
end G
set_option Elab.async false
set_option linter.all false
set_option maxRecDepth 100000
set_option maxHeartbeats 4000000
namespace G
open Mp Pl
open PySem (Str sizeLine)
local macro_rules | `(tactic| wtm_at "e") => `(tactic| first
  | with_reducible refine w_set ?_
  | with_reducible refine w_bin ?_
  | ((with_reducible refine w_v (d := ?dv) ?hv ?_); (case hv => exact rfl))
  | with_reducible refine w_c ?_
  | with_reducible refine w_cons ?_
  | with_reducible refine w_nil ?_
  | with_reducible refine w_arg ?_
  | with_reducible refine w_call ?_
  | with_reducible refine w_if ?_
  | with_reducible refine w_ret ?_
  | with_reducible refine w_skip ?_
  | with_reducible refine w_bl ?_
  | with_reducible refine w_tru ?_
  | with_reducible refine w_attr ?_
  | with_reducible refine w_meth ?_
  | with_reducible refine w_chain ?_
  | with_reducible refine w_and ?_
  | with_reducible refine w_or ?_
  | with_reducible refine w_not ?_
  | with_reducible refine w_notT ?_
  | with_reducible refine w_andT ?_
  | with_reducible refine w_orT ?_
  | with_reducible refine w_ifM ?_
  | with_reducible refine w_expr ?_
  | with_reducible refine w_un ?_
  | with_reducible refine w_par2 ?_
  | with_reducible refine w_par3 ?_
  | with_reducible refine w_asg ?_
  | with_reducible refine w_aug ?_
  | with_reducible refine w_sub ?_
  | with_reducible refine w_fld ?_
  | with_reducible refine w_raise ?_
  | with_reducible refine w_raise0 ?_
  | with_reducible refine w_try ?_
  | with_reducible refine w_make ?_
  | with_reducible refine w_tryAs ?_
  | with_reducible refine w_exn ?_
  | ((with_reducible refine o_isx (b := ?bv) ?h1 ?_); (case h1 => exact rfl))
  | with_reducible refine w_superS ?_
  | with_reducible refine w_super ?_
  | with_reducible refine w_star ?_
  | with_reducible refine w_for0 ?_
  | with_reducible refine w_lc0 ?_
  | with_reducible refine w_lc20 ?_
  | with_reducible refine w_seqJ ?_
  | with_reducible refine w_starC ?_
  | with_reducible refine w_spr ?_
  | with_reducible refine w_kwA ?_
  | with_reducible refine w_kwM ?_
  | with_reducible refine w_sprK ?_
  | with_reducible refine w_get ?_
  | with_reducible refine w_makeL ?_
  | with_reducible refine w_tryN ?_
  | ((with_reducible refine o_own0 ?hv ?_); (case hv => exact rfl))
  | ((with_reducible refine o_eqO0 ?hv ?_); (case hv => exact rfl))
  | with_reducible refine w_seqI ?_
  | with_reducible refine w_argI ?_
  | with_reducible refine w_opt ?_
  | with_reducible refine w_sli ?_
  | with_reducible refine w_pure ?_
  | with_reducible refine w_disp ?_
  | with_reducible refine w_pairs1 ?_
  | with_reducible refine w_pairs0 ?_
  | with_reducible refine w_retN ?_
  | with_reducible refine w_cnt ?_
  | with_reducible refine w_brk ?_
  | with_reducible refine o_addI ?_
  | with_reducible refine o_addI' ?_
  | with_reducible refine o_sub ?_
  | with_reducible refine o_lt ?_
  | with_reducible refine o_le ?_
  | with_reducible refine o_gt ?_
  | with_reducible refine o_ge ?_
  | with_reducible refine o_eqI ?_
  | with_reducible refine o_neI ?_
  | with_reducible refine o_eqS ?_
  | with_reducible refine o_neS ?_
  | with_reducible refine o_int ?_
  | with_reducible refine o_intB ?_
  | with_reducible refine o_neg ?_
  | with_reducible refine o_abs ?_
  | with_reducible refine o_newL ?_
  | with_reducible refine o_max2 ?_
  | with_reducible refine o_min2 ?_
  | with_reducible refine o_lenL ?_
  | with_reducible refine o_lenT ?_
  | ((with_reducible refine o_tup ?hv ?_); (case hv => first | exact Nat.le_of_ble_eq_true rfl | assumption))
  | ((with_reducible refine o_lst ?hv ?_); (case hv => first | exact Nat.le_of_ble_eq_true rfl | assumption))
  | ((with_reducible refine o_isi (t := ?tv) (b := ?bv) ?h1 ?h2 ?_); (case h1 => exact rfl); (case h2 => exact rfl))
  | ((with_reducible refine o_fld (C := ?cv) (fs := ?fv) (d := ?dv) ?h1 ?h2 ?h3 ?_); (case h1 => exact rfl); (case h2 => exact rfl); (case h3 => exact rfl))
  | ((with_reducible refine Exists.intro ?kv (And.intro ?ha ?_)); (case ha => exact rfl)))
local macro_rules | `(tactic| wtm_at "body") => `(tactic| (refine w_body rfl rfl ?_; dsimp only [List.length_cons, List.length_nil, List.drop, List.append_nil, List.map_cons, List.map_nil, List.map, List.cons_append, List.nil_append, Nat.reduceAdd, Nat.reduceSub, List.replicate]))
local macro_rules | `(tactic| wtm_at "meth") => `(tactic| refine ⟨_, _, _, rfl, rfl, rfl, ?_⟩)
local macro_rules | `(tactic| wtm_at "w") => `(tactic| first | with_reducible refine w_seq ?_ | wtm_at "e")
local macro_rules | `(tactic| wtm_at "s") => `(tactic| ((repeat wtm_at "e"); (with_reducible refine w_seq ?_)))
local macro_rules | `(tactic| wtm_at "f") => `(tactic| ((repeat wtm_at "e"); (with_reducible show FP _ _)))
/-! names of fields -/
open PySem.NumText (AllDigits digitsVal)
def modL : List Nat := [109, 111, 100, 117, 108, 111, 32]
def frL : List Nat := [102, 114, 97, 99, 116, 105, 111, 110, 115]
theorem mod_CS : Str.ofString "modulo " = CS modL := by decide +kernel
theorem fr_CS : Str.ofString "fractions" = CS frL := by decide +kernel
open Classical in
noncomputable def nmOf (cs : List Nat) : Option Nat := if cs = frL then some 0 else if cs.take 7 = modL ∧ canB (cs.drop 7) = true ∧ (cs.drop 7).length ≤ 100 ∧ fineB (.int (digitsVal (cs.drop 7) : Nat)) = true then some (digitsVal (cs.drop 7)) else none
theorem starts_CS (cs p : List Nat) : PySem.Txt.startswith (CS cs) (CS p) = decide (cs.take p.length = p) := by
  unfold PySem.Txt.startswith PySem.Builtin.Str.subAt
  rw [CS_len, CS_len, Nat.zero_add]
  have e3 : (CS cs).cps.extract 0 (0 + p.length) = (cs.take p.length).toArray := by
    unfold CS
    simp
  rw [Nat.zero_add] at e3
  rw [e3]
  show (decide (p.length ≤ cs.length) && ((cs.take p.length).toArray == p.toArray)) = _
  rw [Bool.eq_iff_iff]
  simp only [Bool.and_eq_true, decide_eq_true_eq, beq_iff_eq]
  constructor
  · rintro ⟨_, h⟩
    exact congrArg Array.toList h
  · intro h
    refine ⟨?_, by rw [h]⟩
    have := congrArg List.length h
    rw [List.length_take] at this
    omega
theorem cutD1 {cs : List Nat} {k : Nat} : L2.cutS (CS cs) (some (k : Int)) none = CS (cs.drop k) := by
  unfold L2.cutS
  rw [HT.sIx_none, HT.sIx_nat, CS_len, CS_cps, List.take_of_length_le (by rw [List.length_drop]; omega)]
  by_cases h : k ≤ cs.length
  · rw [Nat.min_eq_left h]
    rfl
  · rw [Nat.min_eq_right (by omega), List.drop_of_length_le (Nat.le_refl _), List.drop_of_length_le (by omega)]
    rfl
section
variable {n : Nat} {b : Int} {s : Sto} {Q : D → Sto → Prop} {E : XT} {d : D} {cs ds : List Nat}
theorem o_intXn (hc : canB ds = true) (hl : ds.length ≤ 100) (h : Q (.int (digitsVal ds : Nat)) s) : RP Q E (intXD [.str (CS ds)] s) := by
  have hz : sizeLine = 16777216 := by decide
  have h1 := canB_iff.mp hc
  have e := PySem.intText_digits (x := CS ds) (by rw [CS_cps]; exact h1.1) (by rw [CS_cps]; exact h1.2.1) (by rw [CS_len]; omega)
  rw [CS_cps] at e
  unfold intXD
  dsimp only
  rw [if_pos (by rw [CS_len]; omega), e]
  exact h
theorem o_strX1 {i : Int} (hi : i.natAbs < 10 ^ 4300) (h : Q (.str (CS (idg i))) s) : RP Q E (strXD [.int i] s) := by
  unfold strXD
  dsimp only
  rw [if_pos hi]
  have e : ((toString i : String) : Str) = CS (idg i) := str_idg i
  rw [← e] at h
  exact h
theorem o_addC1 {a c : List Nat} (hl : a.length + c.length ≤ 1000000) (h : Q (.str (CS (a ++ c))) s) : RP Q E (addD (.str (CS a)) (.str (CS c)) s) := by
  have hz : sizeLine = 16777216 := by decide
  refine o_addS (by rw [CS_len, CS_len]; omega) ?_
  rw [CS_app]
  exact h
theorem dec_CS (a b : List Nat) : decide (CS a = CS b) = decide (a = b) := decide_eq_decide.mpr ⟨CS_inj, fun z => by rw [z]⟩
theorem q_named (hl : cs.length ≤ 100000) (hfr : nmOf cs = some 0 → cs = frL → Q fF (s ++ [none])) (hmd : ∀ p : Nat, nmOf cs = some p → Pr p → p ≤ 1000000000 → Q (fM p) (s ++ [none])) (hno : nmOf cs = none → E "InvalidText" [("line", .int 0)] s) : RP Q E (m_Field_named [.str (CS cs)] s) := by
  have hz : sizeLine = 16777216 := by decide
  wtm_at "body"
  unfold b_Field_named
  wtm_at "s"
  repeat wtm_at "e"
  refine ⟨fun z => (by cases z), fun _ => ?_⟩
  repeat wtm_at "e"
  wtm_at "s"
  repeat wtm_at "e"
  rw [fr_CS, dec_CS]
  by_cases hf : cs = frL
  · rw [decide_eq_true hf]
    refine ⟨fun _ => ?_, fun z => (by cases z)⟩
    repeat wtm_at "e"
    exact q_newF (hfr (by unfold nmOf; rw [if_pos hf]) hf)
  rw [decide_eq_false hf]
  refine ⟨fun z => (by cases z), fun _ => ?_⟩
  repeat wtm_at "e"
  wtm_at "s"
  repeat wtm_at "e"
  refine o_lenS (by decide +kernel) ?_
  repeat wtm_at "e"
  refine o_sliS (by rw [CS_len]; omega) ?_
  rw [mod_CS, CS_len, show modL.length = 7 from rfl, cutD1]
  have none_of : (¬ (cs.take 7 = modL ∧ canB (cs.drop 7) = true ∧ (cs.drop 7).length ≤ 100 ∧ fineB (.int (digitsVal (cs.drop 7) : Nat)) = true)) → nmOf cs = none := fun h => by
    unfold nmOf
    rw [if_neg hf, if_neg h]
  wtm_at "f"
  with_reducible refine w_mid (fun r s' => s' = s ∧ cs.take 7 = modL ∧ canB (cs.drop 7) = true ∧ (cs.drop 7).length ≤ 100 ∧ r = [some (.str (CS cs)), some (.str (CS (cs.drop 7)))]) ?_ ?_
  · repeat wtm_at "e"
    refine w_bm ?_
    repeat wtm_at "e"
    refine ⟨rfl, ?_⟩
    repeat wtm_at "e"
    unfold startsD
    dsimp only
    refine w_ok ?_
    rw [starts_CS, show modL.length = 7 from rfl]
    by_cases h1 : cs.take 7 = modL
    · refine ⟨true, by rw [decide_eq_true h1]; rfl, fun _ => ?_, fun z => (by cases z)⟩
      repeat wtm_at "e"
      refine q_is_numeral (by rw [List.length_drop]; omega) ?_
      repeat wtm_at "e"
      cases hc : canB (cs.drop 7) with
      | false =>
        refine ⟨fun z => (by cases z), fun _ => ⟨fun _ => ?_, fun z => (by cases z)⟩⟩
        repeat wtm_at "e"
        exact hno (none_of fun z => by rw [hc] at z; cases z.2.1)
      | true =>
        refine ⟨fun _ => ?_, fun z => (by cases z)⟩
        repeat wtm_at "e"
        refine o_lenS (by rw [CS_len, List.length_drop]; omega) ?_
        rw [CS_len]
        repeat wtm_at "e"
        refine ⟨fun z => ?_, fun z => ?_⟩
        · have z := of_decide_eq_true z
          repeat wtm_at "e"
          exact hno (none_of fun y => by have := y.2.2.1; omega)
        · have z := of_decide_eq_false z
          repeat wtm_at "e"
          exact ⟨rfl, h1, rfl, by omega, rfl⟩
    · refine ⟨false, by rw [decide_eq_false h1]; rfl, fun z => (by cases z), fun _ => ⟨fun _ => ?_, fun z => (by cases z)⟩⟩
      repeat wtm_at "e"
      exact hno (none_of fun y => h1 y.1)
  rintro r s' ⟨rfl, h1, h2, h3, rfl⟩
  wtm_at "s"
  repeat wtm_at "e"
  refine o_intXn h2 h3 ?_
  repeat wtm_at "e"
  refine q_is_primeX trivial ?_
  repeat wtm_at "e"
  cases h4 : fineB (.int (digitsVal (cs.drop 7) : Nat)) with
  | false =>
    refine ⟨fun _ => ?_, fun z => (by cases z)⟩
    repeat wtm_at "e"
    exact hno (none_of fun y => by rw [h4] at y; cases y.2.2.2)
  | true =>
    refine ⟨fun z => (by cases z), fun _ => ?_⟩
    repeat wtm_at "e"
    refine o_intXn h2 h3 ?_
    repeat wtm_at "e"
    obtain ⟨_, g2, g3⟩ := fineB_int h4
    have g3 : Pr (digitsVal (cs.drop 7)) := g3
    exact q_newM (primeOk_of g3 (by omega)) (hmd _ (by unfold nmOf; rw [if_neg hf, if_pos ⟨h1, h2, h3, h4⟩]) g3 (by omega))
theorem q_named_no (h1 : Ok1 s d) (hs : isiD it0 [d, .ty "str"] s = .ok (.bl false) s) (h : E "InvalidText" [("line", .int 0)] s) : RP Q E (m_Field_named [d] s) := by
  wtm_at "body"
  unfold b_Field_named
  wtm_at "s"
  repeat wtm_at "e"
  refine RP.of hs ?_
  repeat wtm_at "e"
  refine ⟨fun _ => ?_, fun z => (by cases z)⟩
  repeat wtm_at "e"
  exact h
theorem q_lread (hl : cs.length ≤ 100000) (hfr : nmOf cs = some 0 → cs = frL → Q fF (s ++ [none])) (hmd : ∀ p : Nat, nmOf cs = some p → Pr p → p ≤ 1000000000 → Q (fM p) (s ++ [none])) (hno : nmOf cs = none → Q (.str "none") s) : RP Q E (m__law_read [.str (CS cs)] s) := by
  wtm_at "body"
  unfold b__law_read
  repeat wtm_at "e"
  refine q_named hl hfr hmd fun hn => ?_
  refine ⟨true, rfl, fun _ => ⟨rfl, .str "none", s, fun a dd => ?_, hno hn⟩, fun z => by cases z⟩
  repeat wtm_at "e"
  refine ⟨_, _, _, rfl, rfl, ?_⟩
  repeat wtm_at "e"
  have er : rpT s (.int 0) = "0" := by
    unfold rpT
    rw [show rdP s 99 (.int 0) = some (.int 0) by simp only [rdP]]
    decide +kernel
  refine o_reprX (ro_flat (flatI (by decide))) ?_
  rw [er]
  repeat wtm_at "e"
  refine ⟨fun _ => ?_, fun z => absurd z (by simp)⟩
  repeat wtm_at "e"
  exact ⟨rfl, rfl⟩
theorem q_lread_no (h1 : Ok1 s d) (hs : isiD it0 [d, .ty "str"] s = .ok (.bl false) s) (h : Q (.str "none") s) : RP Q E (m__law_read [d] s) := by
  wtm_at "body"
  unfold b__law_read
  repeat wtm_at "e"
  refine q_named_no h1 hs ?_
  refine ⟨true, rfl, fun _ => ⟨rfl, .str "none", s, fun a dd => ?_, h⟩, fun z => by cases z⟩
  repeat wtm_at "e"
  refine ⟨_, _, _, rfl, rfl, ?_⟩
  repeat wtm_at "e"
  have er : rpT s (.int 0) = "0" := by
    unfold rpT
    rw [show rdP s 99 (.int 0) = some (.int 0) by simp only [rdP]]
    decide +kernel
  refine o_reprX (ro_flat (flatI (by decide))) ?_
  rw [er]
  repeat wtm_at "e"
  refine ⟨fun _ => ?_, fun z => absurd z (by simp)⟩
  repeat wtm_at "e"
  exact ⟨rfl, rfl⟩
/-- a name and what is due -/
def BentOk (cs : List Nat) (due : D) : Prop := cs.length ≤ 100000 ∧ ((due = .non ∧ nmOf cs = none) ∨ (due = .int 0 ∧ cs = frL) ∨ ∃ p : Nat, due = .int p ∧ Pr p ∧ p ≤ 1000000000 ∧ nmOf cs = some p)
theorem nm_no (h : cs.take 7 ≠ modL) (hf : cs ≠ frL) : nmOf cs = none := by
  unfold nmOf
  rw [if_neg hf, if_neg fun z => h z.1]
theorem nm_noD (h : canB ds = false) : nmOf (modL ++ ds) = none := by
  unfold nmOf
  rw [if_neg, if_neg]
  · intro z
    have e : (modL ++ ds).drop 7 = ds := rfl
    rw [e, h] at z
    cases z.2.1
  · intro z
    have := congrArg List.head? z
    cases this
theorem nm_noF (h : canB ds = true → ds.length ≤ 100 → fineB (.int (digitsVal ds : Nat)) = false) : nmOf (modL ++ ds) = none := by
  unfold nmOf
  rw [if_neg, if_neg]
  · rintro ⟨z1, z2, z3, z4⟩
    have e : (modL ++ ds).drop 7 = ds := rfl
    rw [e] at z2 z3 z4
    rw [h z2 z3] at z4
    cases z4
  · intro z
    have := congrArg List.head? z
    cases this
theorem nm_yes {p : Nat} (hp : Pr p) (h : p ≤ 1000000000) : nmOf (modL ++ dg p) = some p := by
  unfold nmOf
  have e : (modL ++ dg p).drop 7 = dg p := rfl
  have hl : (dg p).length ≤ 100 := (dg_len (n := p) (k := 100) (by decide)).mpr (Nat.lt_of_le_of_lt h (by decide +kernel))
  rw [if_neg, e, dg_val, if_pos]
  · refine ⟨rfl, canB_iff.mpr (dg_canon p), hl, ?_⟩
    show (decide ((2 : Int) ≤ (p : Nat)) && (decide (((p : Nat) : Int) ≤ 1000000000) && prB ((p : Nat) : Int).toNat)) = true
    have := hp.1
    rw [decide_eq_true (by omega), decide_eq_true (by omega), Int.toNat_natCast, prB_iff.mpr hp]
    rfl
  · intro z
    have := congrArg List.head? z
    cases this
theorem q_bent {p : Nat} (hp : Pr p) (hp2 : p ≤ 1000000000) (pen : Pen s n b) (hb : b + 10 ≤ 1000000000) (h : ∀ cs due s', BentOk cs due → PF n s s' (b + 1) → Q (.tup [.str (CS cs), due]) s') : RP Q E (m__law_bent_name [.cel n, .int (p : Nat)] s) := by
  have hz : sizeLine = 16777216 := by decide
  have z : ∀ {a b : Nat}, a + b ≤ 100 → a + b ≤ sizeLine := fun h => Nat.le_trans h (by decide)
  have hi : ((p : Nat) : Int).natAbs < 10 ^ 4300 := by
    rw [Int.natAbs_natCast]
    exact Nat.lt_of_le_of_lt hp2 (Nat.lt_of_lt_of_le (show 1000000000 < 10 ^ 10 by decide) (Nat.pow_le_pow_right (by decide) (by decide)))
  have ei : idg ((p : Nat) : Int) = dg p := by
    unfold idg
    rw [if_pos (by omega), Int.natAbs_natCast]
  have hl : (dg p).length ≤ 10 := (dg_len (n := p) (k := 10) (by decide)).mpr (Nat.lt_of_le_of_lt hp2 (by decide))
  have c1 : Str.ofString "modulo 0" = CS (modL ++ [48]) := by decide +kernel
  have c2 : Str.ofString "modulo  " = CS (modL ++ [32]) := by decide +kernel
  have c3 : Str.ofString "Modulo " = CS [77, 111, 100, 117, 108, 111, 32] := by decide +kernel
  have c4 : Str.ofString " " = CS [32] := by decide +kernel
  have c5 : Str.ofString "modulo -" = CS (modL ++ [45]) := by decide +kernel
  have c6 : Str.ofString "modulo +" = CS (modL ++ [43]) := by decide +kernel
  have c7 : Str.ofString "9" = CS [57] := by decide +kernel
  wtm_at "body"
  unfold b__law_bent_name
  wtm_at "s"
  repeat wtm_at "e"
  refine o_strX1 hi ?_
  rw [ei, mod_CS]
  refine o_addC1 (by simp [modL]; omega) ?_
  repeat wtm_at "e"
  wtm_at "s"
  repeat wtm_at "e"
  refine o_strX1 hi ?_
  rw [ei, c1]
  refine o_addC1 (by simp [modL]; omega) ?_
  repeat wtm_at "e"
  refine o_strX1 hi ?_
  rw [ei, c2]
  refine o_addC1 (by simp [modL]; omega) ?_
  repeat wtm_at "e"
  wtm_at "s"
  repeat wtm_at "e"
  refine o_strX1 hi ?_
  rw [ei, c3]
  refine o_addC1 (by simp; omega) ?_
  repeat wtm_at "e"
  rw [c4]
  refine o_addC1 (by simp [modL]; omega) ?_
  repeat wtm_at "e"
  refine o_addC1 (by simp [modL]; omega) ?_
  repeat wtm_at "e"
  refine o_addL (z (by show 4 + 4 ≤ 100; decide)) ?_
  repeat wtm_at "e"
  wtm_at "s"
  repeat wtm_at "e"
  refine o_strX1 hi ?_
  rw [ei, c5]
  refine o_addC1 (by simp [modL]; omega) ?_
  repeat wtm_at "e"
  refine o_strX1 hi ?_
  rw [ei, c6]
  refine o_addC1 (by simp [modL]; omega) ?_
  repeat wtm_at "e"
  refine o_addL (z (by show 8 + 3 ≤ 100; decide)) ?_
  repeat wtm_at "e"
  wtm_at "s"
  repeat wtm_at "e"
  rw [c7]
  refine o_mulX (n := 5000) rfl (by decide) (by decide) (by rw [CS_len]; simp) (by rw [CS_len]; simp) ?_
  rw [repS_CS]
  refine o_addC1 (by rw [flat_len]; simp [modL]) ?_
  repeat wtm_at "e"
  refine o_strX1 hi ?_
  rw [ei]
  repeat wtm_at "e"
  refine o_addL (z (by show 11 + 4 ≤ 100; decide)) ?_
  repeat wtm_at "e"
  refine o_addL (z (by show 15 + 4 ≤ 100; decide)) ?_
  repeat wtm_at "e"
  refine q_pick pen (by omega) (by show 0 < 19; decide) (by show 19 < 1000000; decide) fun d1 s1 h1 p1 f1 l1 => ?_
  have key : ∃ cs due, d1 = .tup [.str (CS cs), due] ∧ BentOk cs due := by
    have c8 : Str.ofString "modulo" = CS [109, 111, 100, 117, 108, 111] := by decide +kernel
    have c9 : Str.ofString "modulo 4" = CS (modL ++ [52]) := by decide +kernel
    have c10 : Str.ofString "modulo 1000000007" = CS (modL ++ [49, 48, 48, 48, 48, 48, 48, 48, 48, 55]) := by decide +kernel
    have c11 : Str.ofString "fractions " = CS (frL ++ [32]) := by decide +kernel
    have c12 : Str.ofString "fraction" = CS [102, 114, 97, 99, 116, 105, 111, 110] := by decide +kernel
    have c13 : Str.ofString "" = CS [] := by decide +kernel
    have c14 : Str.ofString "modulo seven" = CS (modL ++ [115, 101, 118, 101, 110]) := by decide +kernel
    have no : ∀ cs : List Nat, cs.length ≤ 100000 → nmOf cs = none → BentOk cs .non := fun cs h1 h2 => ⟨h1, .inl ⟨rfl, h2⟩⟩
    have hne := dg_ne p
    have ll : ∀ l m : List Nat, l.length + m.length ≤ 100000 → (l ++ m).length ≤ 100000 := fun l m h => by rw [List.length_append]; exact h
    have hm : modL.length = 7 := rfl
    have bad1 : ∀ (c : Nat) (r : List Nat), isDig c = false → canB (c :: r) = false := fun c r h => by
      unfold canB
      rw [List.all_cons, h]
      rfl
    have mk : ∀ cs due, BentOk cs due → ∃ cs' due', D.tup [.str (CS cs), due] = .tup [.str (CS cs'), due'] ∧ BentOk cs' due' := fun cs due h => ⟨cs, due, rfl, h⟩
    have nil : ∀ x : D, x ∈ ([] : List D) → ∃ cs' due', x = .tup [.str (CS cs'), due'] ∧ BentOk cs' due' := fun _ z => by cases z
    have hd1 : ∀ (a c : Nat) (l m : List Nat), a ≠ c → a :: l ≠ c :: m := fun a c l m h z => h (List.cons.inj z).1
    have dig : ∀ c ∈ dg p, c ≤ 57 := fun c hc => (dg_all p c hc).2
    revert d1
    simp only [List.forall_mem_append, List.forall_mem_cons]
    rw [fr_CS, c8, c9, c10, c11, c12, c13, c14]
    refine ⟨⟨⟨⟨⟨mk _ _ ⟨ll _ _ (by omega), .inr (.inr ⟨p, rfl, hp, hp2, nm_yes hp hp2⟩)⟩, mk _ _ ⟨by decide, .inr (.inl ⟨rfl, rfl⟩)⟩, mk _ _ (no _ (by simp [modL]; omega) ?_), mk _ _ (no _ (by simp [modL]; omega) ?_), nil⟩, ⟨mk _ _ (no _ (by simp; omega) (nm_no (hd1 77 109 _ _ (by decide)) (hd1 77 102 _ _ (by decide)))), mk _ _ (no _ (by simp [modL]; omega) ?_), mk _ _ (no _ (by simp [modL]; omega) (nm_no (hd1 32 109 _ _ (by decide)) (hd1 32 102 _ _ (by decide)))), mk _ _ (no _ (by decide) (nm_no (by decide) (by decide))), nil⟩⟩, ⟨mk _ _ (no _ (by decide) (nm_noD (ds := []) rfl)), mk _ _ (no _ (by simp [modL]; omega) ?_), mk _ _ (no _ (by simp [modL]; omega) ?_), nil⟩⟩,
      ⟨mk _ _ (no _ (by rw [List.length_append, flat_len]; simp [modL]) (nm_noF fun _ hl => absurd hl (by rw [flat_len]; simp))), mk _ _ (no _ (by decide) (nm_noF fun _ _ => ?_)), mk _ _ (no _ (by decide) (nm_noF fun _ _ => ?_)), mk _ _ (no _ (by omega) (nm_no ?_ ?_)), nil⟩⟩, ⟨mk _ _ (no _ (by decide) (nm_no (by decide) (by decide))), mk _ _ (no _ (by decide) (nm_no (by decide) (by decide))), mk _ _ (no _ (by decide) (nm_no (by decide) (by decide))), mk _ _ (no _ (by decide) (nm_noD (bad1 115 _ rfl))), nil⟩⟩
    · rw [List.append_assoc]
      refine nm_noD ?_
      show canB (48 :: dg p) = false
      unfold canB
      rw [decide_eq_false (show 48 :: dg p ≠ [48] by simpa using hne)]
      simp
    · rw [List.append_assoc]
      exact nm_noD (bad1 32 _ rfl)
    · rw [List.append_assoc]
      refine nm_noD ?_
      unfold canB
      rw [List.all_append]
      simp [isDig]
    · rw [List.append_assoc]
      exact nm_noD (bad1 45 _ rfl)
    · rw [List.append_assoc]
      exact nm_noD (bad1 43 _ rfl)
    · refine Bool.eq_false_iff.mpr fun z => ?_
      obtain ⟨_, _, g⟩ := fineB_int z
      have g : Pr 4 := g
      rcases g.2 2 ⟨2, rfl⟩ with e | e <;> cases e
    · refine Bool.eq_false_iff.mpr fun z => ?_
      obtain ⟨_, g, _⟩ := fineB_int z
      have g : (1000000007 : Int) ≤ 1000000000 := g
      omega
    · intro z
      have : 109 ∈ (dg p).take 7 := by rw [z]; decide
      have := dig _ (List.mem_of_mem_take this)
      omega
    · intro z
      have : 102 ∈ dg p := by rw [z]; decide
      have := dig _ this
      omega
  obtain ⟨cs, due, rfl, hk⟩ := key
  exact h cs due s1 hk ⟨p1, f1, l1⟩
end
end G
set_option Elab.async false
set_option linter.all false
set_option maxRecDepth 100000
set_option maxHeartbeats 4000000
namespace G
open Mp Pl
open PySem (Str sizeLine)
local macro_rules | `(tactic| wtm_at "e") => `(tactic| first
  | with_reducible refine w_set ?_
  | with_reducible refine w_bin ?_
  | ((with_reducible refine w_v (d := ?dv) ?hv ?_); (case hv => exact rfl))
  | with_reducible refine w_c ?_
  | with_reducible refine w_cons ?_
  | with_reducible refine w_nil ?_
  | with_reducible refine w_arg ?_
  | with_reducible refine w_call ?_
  | with_reducible refine w_if ?_
  | with_reducible refine w_ret ?_
  | with_reducible refine w_skip ?_
  | with_reducible refine w_bl ?_
  | with_reducible refine w_tru ?_
  | with_reducible refine w_attr ?_
  | with_reducible refine w_meth ?_
  | with_reducible refine w_chain ?_
  | with_reducible refine w_and ?_
  | with_reducible refine w_or ?_
  | with_reducible refine w_not ?_
  | with_reducible refine w_notT ?_
  | with_reducible refine w_andT ?_
  | with_reducible refine w_orT ?_
  | with_reducible refine w_ifM ?_
  | with_reducible refine w_expr ?_
  | with_reducible refine w_un ?_
  | with_reducible refine w_par2 ?_
  | with_reducible refine w_par3 ?_
  | with_reducible refine w_asg ?_
  | with_reducible refine w_aug ?_
  | with_reducible refine w_sub ?_
  | with_reducible refine w_fld ?_
  | with_reducible refine w_raise ?_
  | with_reducible refine w_raise0 ?_
  | with_reducible refine w_try ?_
  | with_reducible refine w_make ?_
  | with_reducible refine w_tryAs ?_
  | with_reducible refine w_exn ?_
  | ((with_reducible refine o_isx (b := ?bv) ?h1 ?_); (case h1 => exact rfl))
  | with_reducible refine w_superS ?_
  | with_reducible refine w_super ?_
  | with_reducible refine w_star ?_
  | with_reducible refine w_for0 ?_
  | with_reducible refine w_lc0 ?_
  | with_reducible refine w_lc20 ?_
  | with_reducible refine w_seqJ ?_
  | with_reducible refine w_starC ?_
  | with_reducible refine w_spr ?_
  | with_reducible refine w_kwA ?_
  | with_reducible refine w_kwM ?_
  | with_reducible refine w_sprK ?_
  | with_reducible refine w_get ?_
  | with_reducible refine w_makeL ?_
  | with_reducible refine w_tryN ?_
  | ((with_reducible refine o_own0 ?hv ?_); (case hv => exact rfl))
  | ((with_reducible refine o_eqO0 ?hv ?_); (case hv => exact rfl))
  | with_reducible refine w_seqI ?_
  | with_reducible refine w_argI ?_
  | with_reducible refine w_opt ?_
  | with_reducible refine w_sli ?_
  | with_reducible refine w_pure ?_
  | with_reducible refine w_disp ?_
  | with_reducible refine w_pairs1 ?_
  | with_reducible refine w_pairs0 ?_
  | with_reducible refine w_retN ?_
  | with_reducible refine w_cnt ?_
  | with_reducible refine w_brk ?_
  | with_reducible refine o_addI ?_
  | with_reducible refine o_addI' ?_
  | with_reducible refine o_sub ?_
  | with_reducible refine o_lt ?_
  | with_reducible refine o_le ?_
  | with_reducible refine o_gt ?_
  | with_reducible refine o_ge ?_
  | with_reducible refine o_eqI ?_
  | with_reducible refine o_neI ?_
  | with_reducible refine o_eqS ?_
  | with_reducible refine o_neS ?_
  | with_reducible refine o_int ?_
  | with_reducible refine o_intB ?_
  | with_reducible refine o_neg ?_
  | with_reducible refine o_abs ?_
  | with_reducible refine o_newL ?_
  | with_reducible refine o_max2 ?_
  | with_reducible refine o_min2 ?_
  | with_reducible refine o_lenL ?_
  | with_reducible refine o_lenT ?_
  | ((with_reducible refine o_tup ?hv ?_); (case hv => first | exact Nat.le_of_ble_eq_true rfl | assumption))
  | ((with_reducible refine o_lst ?hv ?_); (case hv => first | exact Nat.le_of_ble_eq_true rfl | assumption))
  | ((with_reducible refine o_isi (t := ?tv) (b := ?bv) ?h1 ?h2 ?_); (case h1 => exact rfl); (case h2 => exact rfl))
  | ((with_reducible refine o_fld (C := ?cv) (fs := ?fv) (d := ?dv) ?h1 ?h2 ?h3 ?_); (case h1 => exact rfl); (case h2 => exact rfl); (case h3 => exact rfl))
  | ((with_reducible refine Exists.intro ?kv (And.intro ?ha ?_)); (case ha => exact rfl)))
local macro_rules | `(tactic| wtm_at "body") => `(tactic| (refine w_body rfl rfl ?_; dsimp only [List.length_cons, List.length_nil, List.drop, List.append_nil, List.map_cons, List.map_nil, List.map, List.cons_append, List.nil_append, Nat.reduceAdd, Nat.reduceSub, List.replicate]))
local macro_rules | `(tactic| wtm_at "meth") => `(tactic| refine ⟨_, _, _, rfl, rfl, rfl, ?_⟩)
local macro_rules | `(tactic| wtm_at "w") => `(tactic| first | with_reducible refine w_seq ?_ | wtm_at "e")
local macro_rules | `(tactic| wtm_at "s") => `(tactic| ((repeat wtm_at "e"); (with_reducible refine w_seq ?_)))
local macro_rules | `(tactic| wtm_at "f") => `(tactic| ((repeat wtm_at "e"); (with_reducible show FP _ _)))
/-! the law -/
section
variable {s : Sto} {Q : D → Sto → Prop} {E : XT} {n : Nat} {b : Int} {d : D}
def fldD : Option Int → D
  | none => fF
  | some p => fM p
theorem q_feq {a b : Option Int} (h : Q (.bl (decide (a = b))) s) : RP Q E (m_Field___eq__ [fldD a, fldD b] s) := by
  cases a with
  | none =>
    cases b with
    | none =>
      show RP Q E (m_Field___eq__ [fF, fF] s)
      wtm_at "body"
      unfold b_Field___eq__
      repeat wtm_at "e"
      refine ⟨fun _ => ?_, fun z => (by cases z)⟩
      repeat wtm_at "e"
      refine RP.of (a := .bl true) rfl ?_
      exact h
    | some q =>
      show RP Q E (m_Field___eq__ [fF, fM q] s)
      wtm_at "body"
      unfold b_Field___eq__
      repeat wtm_at "e"
      refine ⟨fun _ => ?_, fun z => (by cases z)⟩
      repeat wtm_at "e"
      refine RP.of (a := .bl false) rfl ?_
      exact h
  | some p =>
    cases b with
    | none =>
      show RP Q E (m_Field___eq__ [fM p, fF] s)
      wtm_at "body"
      unfold b_Field___eq__
      repeat wtm_at "e"
      refine ⟨fun _ => ?_, fun z => (by cases z)⟩
      repeat wtm_at "e"
      refine RP.of (a := .bl false) rfl ?_
      exact h
    | some q =>
      show RP Q E (m_Field___eq__ [fM p, fM q] s)
      wtm_at "body"
      unfold b_Field___eq__
      repeat wtm_at "e"
      refine ⟨fun _ => ?_, fun z => (by cases z)⟩
      repeat wtm_at "e"
      have e : decide (p = q) = decide (some p = some q) := by simp
      show Q (.bl (decide (p = q))) s
      rw [e]
      exact h
theorem q_feqNo {a : Option Int} {y : D} (hi : isiD it0 [y, .glo "Field"] s = .ok (.bl false) s) (h : Q (.bl false) s) : RP Q E (m_Field___eq__ [fldD a, y] s) := by
  wtm_at "body"
  unfold b_Field___eq__
  repeat wtm_at "e"
  refine RP.of hi ?_
  exact ⟨_, rfl, fun z => (by cases z), fun _ => h⟩
noncomputable abbrev TO : List ((Str × Str) × DF) := [(("Fractions", "Fractions"), m_Field___eq__), (("Fractions", "Modulo"), m_Field___eq__), (("Modulo", "Fractions"), m_Field___eq__), (("Modulo", "Modulo"), m_Field___eq__)]
noncomputable abbrev TP : List ((Str × String) × DF) := [(("Fractions", "int"), m_Field___eq__), (("Fractions", "str"), m_Field___eq__), (("Fractions", "list"), m_Field___eq__), (("Modulo", "int"), m_Field___eq__), (("Modulo", "str"), m_Field___eq__), (("Modulo", "list"), m_Field___eq__)]
theorem o_eqP0 {neg : Bool} {tb : List ((Str × String) × DF)} {f : D → D → Sto → Res D} {x y : D} (h0 : insOf s x = none) (h : RP Q E (f x y s)) : RP Q E (eqP neg tb f x y s) := by
  unfold eqP
  rw [h0]
  exact h
theorem o_eqPI {neg : Bool} {tb : List ((Str × String) × DF)} {f : D → D → Sto → Res D} {x y : D} {c : Str × List (Str × D)} {C : Str} (h1 : insOf s x = some c) (h2 : tagD s y = some (.own C)) (h : RP Q E (f x y s)) : RP Q E (eqP neg tb f x y s) := by
  unfold eqP
  rw [h1]
  dsimp only
  rw [h2]
  exact h
theorem o_eqPB {tb : List ((Str × String) × DF)} {f : D → D → Sto → Res D} {x y : D} {C : Str} {fs : List (Str × D)} {n : String} {m : DF} (h1 : insOf s x = some (C, fs)) (h2 : tagD s y = some (.bt n)) (h3 : tb.lookup (C, n) = some m) (h : RP Q E (m [x, y] s)) : RP Q E (eqP false tb f x y s) := by
  unfold eqP
  rw [h1]
  dsimp only
  rw [h2]
  dsimp only
  rw [h3]
  exact h
theorem q_fne {a b : Option Int} (h : Q (.bl (!decide (a = b))) s) : RP Q E (eqP true TP (eqO true TO) (fldD a) (fldD b) s) := by
  have hf := q_feq (a := a) (b := b) (s := s) (Q := fun v s' => ∃ k, v = .bl k ∧ Q (.bl (!k)) s') (E := E) ⟨_, rfl, h⟩
  cases a with
  | none =>
    cases b with
    | none => exact o_eqPI (C := "Fractions") rfl rfl (o_neO (C := "Fractions") (C' := "Fractions") rfl rfl rfl hf)
    | some q => exact o_eqPI (C := "Modulo") rfl rfl (o_neO (C := "Fractions") (C' := "Modulo") rfl rfl rfl hf)
  | some p =>
    cases b with
    | none => exact o_eqPI (C := "Fractions") rfl rfl (o_neO (C := "Modulo") (C' := "Fractions") rfl rfl rfl hf)
    | some q => exact o_eqPI (C := "Modulo") rfl rfl (o_neO (C := "Modulo") (C' := "Modulo") rfl rfl rfl hf)
theorem q_feqF {a b : Option Int} (h : Q (.bl (decide (a = b))) s) : RP Q E (eqP false TP (eqO false TO) (fldD a) (fldD b) s) := by
  have hf := q_feq (a := a) (b := b) (s := s) (Q := Q) (E := E) h
  cases a with
  | none =>
    cases b with
    | none => exact o_eqPI (C := "Fractions") rfl rfl (o_eqO (C := "Fractions") (C' := "Fractions") rfl rfl rfl hf)
    | some q => exact o_eqPI (C := "Modulo") rfl rfl (o_eqO (C := "Fractions") (C' := "Modulo") rfl rfl rfl hf)
  | some p =>
    cases b with
    | none => exact o_eqPI (C := "Fractions") rfl rfl (o_eqO (C := "Modulo") (C' := "Fractions") rfl rfl rfl hf)
    | some q => exact o_eqPI (C := "Modulo") rfl rfl (o_eqO (C := "Modulo") (C' := "Modulo") rfl rfl rfl hf)
theorem o_eqGB {neg a b : Bool} (h : Q (.bl (if neg then !(a == b) else (a == b))) s) : RP Q E (eqG neg (.bl a) (.bl b) s) := by
  cases neg <;> cases a <;> cases b <;> exact h
/-- a field and an integer, a text, a list -/
theorem q_feqB {a : Option Int} {y : D} {n : String} (hn : n = "int" ∨ n = "str" ∨ n = "list") (ht : tagD s y = some (.bt n)) (hi : isiD it0 [y, .glo "Field"] s = .ok (.bl false) s) (h : Q (.bl false) s) : RP Q E (eqP false TP (eqO false TO) (fldD a) y s) := by
  have hf := q_feqNo (a := a) (Q := Q) (E := E) hi h
  cases a with
  | none => rcases hn with rfl | rfl | rfl <;> exact o_eqPB (C := "Fractions") rfl ht rfl hf
  | some p => rcases hn with rfl | rfl | rfl <;> exact o_eqPB (C := "Modulo") rfl ht rfl hf
theorem q_nox {m : DF} {x : D} (h : RP Q noX (m [x] s)) : RP Q E (noxF m [x] s) := by
  unfold noxF
  cases e : m [x] s with
  | ok v s' => rw [e] at h; exact h
  | exc C fs s' => rw [e] at h; exact h.elim
  | bad => rw [e] at h; exact h.elim
theorem q_nameF (h : Q (.str (CS frL)) s) : RP Q E (m_Field_name [fF] s) := by
  rw [← fr_CS] at h
  wtm_at "body"
  unfold b_Field_name
  repeat wtm_at "e"
  refine RP.of (a := .bl true) rfl ?_
  refine ⟨true, rfl, fun _ => ?_, fun z => (by cases z)⟩
  repeat wtm_at "e"
  exact h
theorem q_nameM {p : Nat} (hp : p ≤ 1000000000) (h : Q (.str (CS (modL ++ dg p))) s) : RP Q E (m_Field_name [fM (p : Nat)] s) := by
  have hi : ((p : Nat) : Int).natAbs < 10 ^ 4300 := by
    rw [Int.natAbs_natCast]
    exact Nat.lt_of_le_of_lt hp (Nat.lt_of_lt_of_le (show 1000000000 < 10 ^ 10 by decide) (Nat.pow_le_pow_right (by decide) (by decide)))
  have ei : idg ((p : Nat) : Int) = dg p := by
    unfold idg
    rw [if_pos (by omega), Int.natAbs_natCast]
  have hl : (dg p).length ≤ 10 := (dg_len (n := p) (k := 10) (by decide)).mpr (Nat.lt_of_le_of_lt hp (by decide))
  wtm_at "body"
  unfold b_Field_name
  repeat wtm_at "e"
  refine RP.of (a := .bl false) rfl ?_
  refine ⟨false, rfl, fun z => (by cases z), fun _ => ?_⟩
  repeat wtm_at "e"
  refine o_strX1 hi ?_
  rw [ei, mod_CS]
  exact o_addC1 (by simp [modL]; omega) h
theorem dgA (p : Nat) : ∀ c ∈ modL ++ dg p, c < 128 := fun c hc => by
  rcases List.mem_append.mp hc with h | h
  · have : ∀ c ∈ modL, c < 128 := by decide
    exact this c h
  · have := dg_all p c h
    omega
theorem kd_inv {P : Int} {f : D} (h : Kd P f) : (P = 0 ∧ f = fF) ∨ ∃ p : Nat, P = p ∧ f = fM (p : Nat) := by
  cases h with
  | fr => exact .inl ⟨rfl, rfl⟩
  | md a b => exact .inr ⟨_, rfl, rfl⟩
theorem odd_in (ho : Odd s d) : ∃ k, inTx true d (.lst [.str "fractions", .str "modulo 7"]) s = .ok (.bl k) s ∧ (k = true → isiD it0 [d, .ty "str"] s = .ok (.bl false) s ∨ ∃ cs, d = .str (CS cs) ∧ cs.length ≤ 100 ∧ nmOf cs = none) := by
  rcases ho with h | h | ⟨k, rfl, h | h⟩
  · simp only [oddA, List.mem_cons, List.not_mem_nil, or_false] at h
    rcases h with rfl | rfl | rfl | rfl | rfl | rfl | rfl | rfl | rfl | rfl | rfl | rfl | rfl | rfl | rfl | rfl | rfl | rfl | rfl | rfl | rfl | rfl | rfl | rfl | rfl | rfl | rfl | rfl <;> first
      | exact ⟨true, rfl, fun _ => .inl rfl⟩
      | exact ⟨true, rfl, fun _ => .inr ⟨_, congrArg D.str (CS_of _), by decide +kernel, nm_no (by decide +kernel) (by decide +kernel)⟩⟩
      | exact ⟨false, rfl, fun z => (by cases z)⟩
  · simp only [oddB, List.mem_cons, List.not_mem_nil, or_false] at h
    rcases h with rfl | rfl | rfl | rfl | rfl | rfl | rfl | rfl | rfl | rfl | rfl | rfl | rfl | rfl <;> exact ⟨true, rfl, fun _ => .inl rfl⟩
  · refine ⟨true, ?_, fun _ => .inl ?_⟩
    · unfold inTx
      rw [tag_cel h]
      rfl
    · unfold isiD
      dsimp only
      rw [tag_cel h]
      rfl
  · refine ⟨true, ?_, fun _ => .inl ?_⟩
    · unfold inTx
      rw [tag_cel h]
      rfl
    · unfold isiD
      dsimp only
      rw [tag_cel h]
      rfl
theorem law_ok {ns : List Int} : ∃ s', m_law [.rol (ns.map .int)] [] = .ok (.bl true) s' := by
  suffices hw : RP (fun d _ => d = .bl true) noX (m_law [.rol (ns.map .int)] []) by
    obtain ⟨d, s', e, rfl⟩ := hw.ex
    exact ⟨s', e⟩
  wtm_at "body"
  unfold b_law
  wtm_at "s"
  repeat wtm_at "e"
  refine q_pen fun c s0 pen0 _ => ?_
  wtm_at "s"
  repeat wtm_at "e"
  refine q_newF ?_
  have pen1 := pen0.app none
  generalize s0 ++ [none] = s1 at pen1 ⊢
  wtm_at "f"
  with_reducible refine w_mid (fun r s' => Pen s' 0 0 ∧ r = [some (.rol (ns.map .int)), some (.cel 0), some fF, none, none, none, none, none, none, none, none, none]) ?_ ?_
  · repeat wtm_at "e"
    refine o_prop (m := noxF m_Field_prime) rfl rfl ?_
    refine RP.of (a := .non) rfl ?_
    repeat wtm_at "e"
    refine RP.of (a := .bl false) rfl ?_
    refine ⟨false, rfl, fun _ => ?_, fun z => (by cases z)⟩
    repeat wtm_at "e"
    refine o_prop (m := noxF m_Field_name) rfl rfl ?_
    refine q_nox (q_nameF ?_)
    repeat wtm_at "e"
    refine o_eqP0 rfl ?_
    repeat wtm_at "e"
    rw [fr_CS, dec_CS, decide_eq_true rfl]
    refine ⟨fun _ => ?_, fun z => (by cases z)⟩
    repeat wtm_at "e"
    refine q_newF ?_
    repeat wtm_at "e"
    refine q_fne (a := none) (b := none) ?_
    refine ⟨false, rfl, fun _ => ?_, fun z => (by cases z)⟩
    repeat wtm_at "e"
    refine ⟨fun z => (by cases z), fun _ => ?_⟩
    repeat wtm_at "e"
    exact ⟨pen1.app none, rfl⟩
  rintro r s2 ⟨pen2, rfl⟩
  wtm_at "f"
  with_reducible refine w_mid (fun r s' => Pen s' 0 0 ∧ r = [some (.rol (ns.map .int)), some (.cel 0), some fF, none, none, none, none, none, none, none, none, none]) ?_ ?_
  · repeat wtm_at "e"
    refine RP.of (a := .int 100) rfl ?_
    repeat wtm_at "e"
    refine q_newM pk7 ?_
    repeat wtm_at "e"
    refine RP.of (a := .int 100) rfl ?_
    repeat wtm_at "e"
    have e100 : rpT (s2 ++ [none]) (.lst [.int 100, .int 100, .int 100]) = "[100, 100, 100]" := by
      unfold rpT
      rw [show rdP (s2 ++ [none]) 99 (.lst [.int 100, .int 100, .int 100]) = some (.list [.int 100, .int 100, .int 100]) by simp only [rdP, rdPs]; rfl]
      decide +kernel
    refine o_reprX (ro_lst (fun d hd => ?_) (by decide)) ?_
    · have hd : d = .int 100 := by simpa using hd
      subst hd
      exact flatI (by decide)
    rw [e100]
    repeat wtm_at "e"
    refine o_eqP0 rfl ?_
    repeat wtm_at "e"
    refine ⟨fun z => absurd z (by simp), fun _ => ?_⟩
    repeat wtm_at "e"
    exact ⟨pen2.app none, rfl⟩
  rintro r s3 ⟨pen3, rfl⟩
  wtm_at "s"
  repeat wtm_at "e"
  refine o_len (l := ns.map .int) (fun z => (by intro q; cases q)) rfl ?_
  repeat wtm_at "e"
  generalize hm : (6 : Int) + min 6 (((ns.map D.int).length : Nat) : Int) = m
  have hm6 : 6 ≤ m ∧ m ≤ 12 := by omega
  refine w_range1 (by omega) (by omega) ?_
  refine w_for (fun i r s' => Pen s' 0 (100 * (i : Nat)) ∧ ∃ x3 x4 x5 x6 x7 x8 x9 x10 x11, r = [some (.rol (ns.map .int)), some (.cel 0), some fF, x3, x4, x5, x6, x7, x8, x9, x10, x11]) rfl ⟨pen3.mono (by omega), _, _, _, _, _, _, _, _, _, rfl⟩ ?_ ?_
  rotate_left
  · rintro r s' ⟨pen, x3, x4, x5, x6, x7, x8, x9, x10, x11, rfl⟩
    repeat wtm_at "e"
    rfl
  rintro i d r s' hd ⟨pen, x3, x4, x5, x6, x7, x8, x9, x10, x11, rfl⟩
  obtain ⟨hi, rfl⟩ := intL_get hd
  refine ⟨_, rfl, ?_⟩
  wtm_at "s"
  repeat wtm_at "e"
  refine q_drawn pen (by omega) fun d s4 hd pen4 => ?_
  wtm_at "f"
  with_reducible refine w_mid (fun r s' => Pen s' 0 (100 * (i : Nat) + 5) ∧ r = [some (.rol (ns.map .int)), some (.cel 0), some fF, some (.int (0 + i)), some d, x5, x6, x7, x8, x9, x10, x11]) ?_ ?_
  · repeat wtm_at "e"
    refine q_lfine hd.ok2.1 ?_
    repeat wtm_at "e"
    cases hf : fineB d with
    | false =>
      refine ⟨fun _ => ?_, fun z => (by cases z)⟩
      repeat wtm_at "e"
      refine q_refused1 hd hf fun c => ?_
      repeat wtm_at "e"
      refine ⟨fun z => (by cases z), fun _ => ?_⟩
      repeat wtm_at "e"
      exact ⟨pen4.app c, rfl⟩
    | true =>
      refine ⟨fun z => (by cases z), fun _ => ?_⟩
      obtain ⟨p, rfl⟩ : ∃ p : Nat, d = .int (p : Nat) := by
        obtain ⟨j, rfl⟩ : ∃ j, d = .int j := by cases d <;> first | exact ⟨_, rfl⟩ | cases hf
        obtain ⟨g, _, _⟩ := fineB_int hf
        exact ⟨j.toNat, by congr 1; omega⟩
      obtain ⟨_, hp2, hp⟩ := fineB_int hf
      have hp : Pr p := hp
      have hp2 : p ≤ 1000000000 := by omega
      have pk := primeOk_of hp hp2
      have hi2 : ((p : Nat) : Int).natAbs < 10 ^ 4300 := by
        rw [Int.natAbs_natCast]
        exact Nat.lt_of_le_of_lt hp2 (Nat.lt_of_lt_of_le (show 1000000000 < 10 ^ 10 by decide) (Nat.pow_le_pow_right (by decide) (by decide)))
      have ei : idg ((p : Nat) : Int) = dg p := by
        unfold idg
        rw [if_pos (by omega), Int.natAbs_natCast]
      have hl : (dg p).length ≤ 10 := (dg_len (n := p) (k := 10) (by decide)).mpr (Nat.lt_of_le_of_lt hp2 (by decide))
      have fl : ∀ x ∈ [D.int (p : Nat), D.str (CS (modL ++ dg p))], Flat x := flats2 (flatI (by
        rw [Int.natAbs_natCast]
        exact Nat.lt_of_le_of_lt hp2 (by decide +kernel))) (flatS (Nat.le_trans (repr_len (dgA p)) (by rw [List.length_append]; show 10 * (7 + (dg p).length) + 2 ≤ 600; omega)))
      repeat wtm_at "e"
      refine q_newM pk ?_
      repeat wtm_at "e"
      refine o_prop (m := noxF m_Field_prime) rfl rfl ?_
      refine RP.of (a := .int (p : Nat)) rfl ?_
      repeat wtm_at "e"
      refine q_newM pk ?_
      repeat wtm_at "e"
      refine o_prop (m := noxF m_Field_name) rfl rfl ?_
      refine q_nox (q_nameM hp2 ?_)
      repeat wtm_at "e"
      refine o_reprX (ro_lst fl (by simp)) ?_
      repeat wtm_at "e"
      refine o_strX1 hi2 ?_
      rw [ei, mod_CS]
      refine o_addC1 (by simp [modL]; omega) ?_
      repeat wtm_at "e"
      refine o_reprX (ro_lst fl (by simp)) ?_
      repeat wtm_at "e"
      refine o_eqP0 rfl ?_
      repeat wtm_at "e"
      refine ⟨fun z => absurd z (by simp), fun _ => ?_⟩
      repeat wtm_at "e"
      exact ⟨(pen4.app none).app none, rfl⟩
  rintro r s5 ⟨pen5, rfl⟩
  wtm_at "s"
  repeat wtm_at "e"
  refine q_primeP pen5 (by omega) fun p s6 hp pk p6 => ?_
  repeat wtm_at "e"
  refine q_primeP p6.pen (by omega) fun p' s7 hp' pk' p7 => ?_
  repeat wtm_at "e"
  refine ⟨_, _, rfl, ?_⟩
  wtm_at "s"
  repeat wtm_at "e"
  refine q_newM pk ?_
  have pen7 := p7.pen.app none
  generalize s7 ++ [none] = s8 at pen7 ⊢
  wtm_at "f"
  with_reducible refine w_mid (fun r s' => Pen s' 0 (100 * (i : Nat) + 7) ∧ r = [some (.rol (ns.map .int)), some (.cel 0), some fF, some (.int (0 + i)), some d, some (fM (p : Nat)), x6, x7, some (.int (p : Nat)), some (.int (p' : Nat)), x10, x11]) ?_ ?_
  · repeat wtm_at "e"
    refine q_newM pk' ?_
    repeat wtm_at "e"
    refine q_feqF (a := some ((p : Nat) : Int)) (b := some ((p' : Nat) : Int)) ?_
    repeat wtm_at "e"
    refine o_eqP0 rfl ?_
    repeat wtm_at "e"
    refine o_eqP0 rfl ?_
    repeat wtm_at "e"
    refine o_eqGB ?_
    have e1 : decide (some ((p : Nat) : Int) = some ((p' : Nat) : Int)) = decide (((p : Nat) : Int) = ((p' : Nat) : Int)) := by simp
    rw [e1]
    refine ⟨_, rfl, fun _ => ?_, fun z => absurd z (by simp)⟩
    repeat wtm_at "e"
    refine q_newM pk' ?_
    repeat wtm_at "e"
    refine q_fne (a := some ((p : Nat) : Int)) (b := some ((p' : Nat) : Int)) ?_
    repeat wtm_at "e"
    refine o_eqP0 rfl ?_
    repeat wtm_at "e"
    refine o_eqP0 rfl ?_
    repeat wtm_at "e"
    refine o_eqGB ?_
    rw [e1]
    refine ⟨_, rfl, fun z => absurd z (by simp), fun _ => ?_⟩
    repeat wtm_at "e"
    exact ⟨(pen7.app none).app none, rfl⟩
  rintro r s9 ⟨pen9, rfl⟩
  wtm_at "f"
  with_reducible refine w_mid (fun r s' => Pen s' 0 (100 * (i : Nat) + 7) ∧ r = [some (.rol (ns.map .int)), some (.cel 0), some fF, some (.int (0 + i)), some d, some (fM (p : Nat)), x6, x7, some (.int (p : Nat)), some (.int (p' : Nat)), x10, x11]) ?_ ?_
  · repeat wtm_at "e"
    refine q_feqF (a := some ((p : Nat) : Int)) (b := none) ?_
    refine ⟨_, rfl, fun z => (by simp at z), fun _ => ?_⟩
    repeat wtm_at "e"
    exact ⟨pen9, rfl⟩
  rintro r s10 ⟨pen10, rfl⟩
  have hp2 : p ≤ 1000000000 := by have := pk.2.1; omega
  wtm_at "f"
  with_reducible refine w_mid (fun r s' => Pen s' 0 (100 * (i : Nat) + 7) ∧ r = [some (.rol (ns.map .int)), some (.cel 0), some fF, some (.int (0 + i)), some d, some (fM (p : Nat)), x6, x7, some (.int (p : Nat)), some (.int (p' : Nat)), x10, x11]) ?_ ?_
  · repeat wtm_at "e"
    refine ⟨fun _ => ?_, fun z => (by cases z)⟩
    repeat wtm_at "e"
    refine q_feqB (a := some ((p : Nat) : Int)) (n := "int") (.inl rfl) rfl rfl ?_
    refine ⟨_, rfl, fun _ => ?_, fun z => (by cases z)⟩
    repeat wtm_at "e"
    refine o_prop (m := noxF m_Field_name) rfl rfl ?_
    refine q_nox (q_nameM hp2 ?_)
    repeat wtm_at "e"
    refine q_feqB (a := some ((p : Nat) : Int)) (n := "str") (.inr (.inl rfl)) rfl rfl ?_
    refine ⟨_, rfl, fun _ => ?_, fun z => (by cases z)⟩
    repeat wtm_at "e"
    refine q_feqB (a := none) (n := "list") (.inr (.inr rfl)) rfl rfl ?_
    refine ⟨_, rfl, fun z => (by cases z), fun _ => ?_⟩
    repeat wtm_at "e"
    exact ⟨pen10, rfl⟩
  rintro r s11 ⟨pen11, rfl⟩
  wtm_at "s"
  repeat wtm_at "e"
  refine q_bent hp hp2 pen11 (by omega) fun cs due s12 hbt p12 => ?_
  repeat wtm_at "e"
  dsimp only [List.set]
  have pr0 : ¬ Pr 0 := fun z => by have := z.1; omega
  wtm_at "f"
  with_reducible refine w_mid (fun r s' => Pen s' 0 (100 * (i : Nat) + 8) ∧ ∃ told, ((due = .non ∧ told = .str "none") ∨ (due = .int 0 ∧ told = fF) ∨ ∃ q : Nat, due = .int (q : Nat) ∧ Pr q ∧ q ≤ 1000000000 ∧ told = fM (q : Nat)) ∧ r = [some (.rol (ns.map .int)), some (.cel 0), some fF, some (.int (0 + i)), some d, some (fM (p : Nat)), some told, x7, some (.int (p : Nat)), some (.int (p' : Nat)), some (.str (CS cs)), some due]) ?_ ?_
  · repeat wtm_at "e"
    have penA := p12.pen.app none
    refine q_lread hbt.1 (fun e1 e2 => ?_) (fun q e1 hq hq2 => ?_) fun e1 => ?_
    · refine ⟨penA, _, ?_, rfl⟩
      rcases hbt.2 with ⟨rfl, h⟩ | ⟨rfl, h⟩ | ⟨q, rfl, h1, h2, h3⟩
      · rw [h] at e1; cases e1
      · exact .inr (.inl ⟨rfl, rfl⟩)
      · rw [h3] at e1
        cases e1
        exact absurd h1 pr0
    · refine ⟨penA, _, ?_, rfl⟩
      rcases hbt.2 with ⟨rfl, h⟩ | ⟨rfl, h⟩ | ⟨q', rfl, h1, h2, h3⟩
      · rw [h] at e1; cases e1
      · subst h
        have : nmOf frL = some 0 := by unfold nmOf; rw [if_pos rfl]
        rw [this] at e1
        cases e1
        exact absurd hq pr0
      · rw [h3] at e1
        cases e1
        exact .inr (.inr ⟨_, rfl, h1, h2, rfl⟩)
    · refine ⟨p12.pen, _, ?_, rfl⟩
      rcases hbt.2 with ⟨rfl, h⟩ | ⟨rfl, h⟩ | ⟨q', rfl, h1, h2, h3⟩
      · exact .inl ⟨rfl, rfl⟩
      · subst h
        have : nmOf frL = some 0 := by unfold nmOf; rw [if_pos rfl]
        rw [this] at e1
        cases e1
      · rw [h3] at e1; cases e1
  rintro r s13 ⟨pen13, told, htold, rfl⟩
  wtm_at "f"
  with_reducible refine w_mid (fun r s' => Pen s' 0 (100 * (i : Nat) + 8) ∧ r = [some (.rol (ns.map .int)), some (.cel 0), some fF, some (.int (0 + i)), some d, some (fM (p : Nat)), some told, x7, some (.int (p : Nat)), some (.int (p' : Nat)), some (.str (CS cs)), some due]) ?_ ?_
  · repeat wtm_at "e"
    rcases htold with ⟨rfl, rfl⟩ | ⟨rfl, rfl⟩ | ⟨q, rfl, hq, hq2, rfl⟩
    · refine RP.of (a := .bl true) rfl ?_
      refine ⟨true, rfl, fun _ => ?_, fun z => (by cases z)⟩
      repeat wtm_at "e"
      refine o_eqP0 rfl ?_
      repeat wtm_at "e"
      refine ⟨fun z => absurd z (by simp), fun _ => ?_⟩
      repeat wtm_at "e"
      exact ⟨pen13, rfl⟩
    · refine RP.of (a := .bl false) rfl ?_
      refine ⟨false, rfl, fun z => (by cases z), fun _ => ?_⟩
      repeat wtm_at "e"
      refine q_made_field (.inl rfl) fun f kf => ?_
      rcases kd_inv kf with ⟨_, rfl⟩ | ⟨q, e, rfl⟩
      · refine q_fne (a := none) (b := none) ?_
        refine ⟨_, rfl, fun z => absurd z (by simp), fun _ => ?_⟩
        repeat wtm_at "e"
        exact ⟨pen13.app none, rfl⟩
      · cases kf
        rename_i h1 h2
        have := h1.1
        omega
    · refine RP.of (a := .bl false) rfl ?_
      refine ⟨false, rfl, fun z => (by cases z), fun _ => ?_⟩
      repeat wtm_at "e"
      refine q_made_field (.inr ⟨q, rfl, hq, primeOk_of hq hq2⟩) fun f kf => ?_
      rcases kd_inv kf with ⟨e, rfl⟩ | ⟨q', e, rfl⟩
      · exfalso
        have := hq.1
        omega
      · rw [← e]
        refine q_fne (a := some ((q : Nat) : Int)) (b := some ((q : Nat) : Int)) ?_
        refine ⟨_, rfl, fun z => absurd z (by simp), fun _ => ?_⟩
        repeat wtm_at "e"
        exact ⟨pen13.app none, rfl⟩
  rintro r s14 ⟨pen14, rfl⟩
  wtm_at "s"
  repeat wtm_at "e"
  refine q_odd pen14 (by omega) fun d2 s15 ho p15 f15 l15 => ?_
  repeat wtm_at "e"
  obtain ⟨k, e1, e2⟩ := odd_in ho
  refine RP.of e1 ?_
  cases k with
  | false =>
    refine ⟨_, rfl, fun z => (by cases z), fun _ => ⟨fun z => (by cases z), fun _ => ?_⟩⟩
    repeat wtm_at "e"
    exact ⟨p15.mono (by omega), _, _, _, _, _, _, _, _, _, rfl⟩
  | true =>
    refine ⟨_, rfl, fun _ => ?_, fun z => (by cases z)⟩
    repeat wtm_at "e"
    rcases e2 rfl with hs | ⟨cs2, rfl, hl2, hn2⟩
    · refine q_lread_no ho.th.ok2.1 hs ?_
      repeat wtm_at "e"
      refine o_eqP0 rfl ?_
      repeat wtm_at "e"
      refine ⟨fun z => absurd z (by simp), fun _ => ?_⟩
      repeat wtm_at "e"
      exact ⟨p15.mono (by omega), _, _, _, _, _, _, _, _, _, rfl⟩
    · refine q_lread (by omega) (fun e1 _ => by rw [hn2] at e1; cases e1) (fun _ e1 _ _ => by rw [hn2] at e1; cases e1) fun _ => ?_
      repeat wtm_at "e"
      refine o_eqP0 rfl ?_
      repeat wtm_at "e"
      refine ⟨fun z => absurd z (by simp), fun _ => ?_⟩
      repeat wtm_at "e"
      exact ⟨p15.mono (by omega), _, _, _, _, _, _, _, _, _, rfl⟩
end
end G
set_option Elab.async false
set_option linter.all false
set_option maxRecDepth 100000
set_option maxHeartbeats 0
theorem PySem.Challenge.cw_firstanswers_k01_fields_holds : PySem.Challenge.rw_firstanswers_k01_fields.Holds := by
  exact G.fin G.m_law (fun Z => G.f_law Z) fun ns => G.law_ok
