import PyProof.Rows.All
import Wide.All
import OpenK.AllK
import Wide.FinOn
import HandS.ForMost
import HandS.ForExc
import HandS.Wide
import HandS.Zip
import HandS.CallSlots
import HandS.HeadHook1
import HandS.HeadHook2
import HandS.Lambda
import HandS.Flow
import HandS.TupAny
import HandS.IsInst
import HandS.Style
import HandS.Property
import HandS.Star
import HandS.ExcInit
import HandS.TryMany
import HandS.HeadWalk
import KE.KExcInit
import HandS.ExcField
import KE.KSuper
import HandS.NestedK
import HandS.RaiseMore
import HandS.Deep
import HandS.Ends
import HandS.EndBits
import HandS.Head0
import HandS.Head1
import HandS.Head2
import HandS.HeadEnd
import HandS.ExcIs
import HandS.DictComp
import HandS.SortInts
import HandS.More
import HandS.Dict
import HandS.Conv
import HandS.HeadNt
import PyProof.DictUpdate
import HandS.SlotsOwn
import HandS.TupMul
import HandS.DictEq
import PyProof.Rows.SortShellAny
import KE.SortKeyHeap
import HandS.Exc
import HandS.ExcValue
import HandS.TupLe
import HandS.ListItems
import KE.KDictList
import KE.KDictZip
import PyProof.Rows.StrOr
import PyProof.ReprRoads
import OpenK.KOwn
import KE.GoesRaise
import PyProof.EnumMake
import PyProof.Draws
import KE.GoesMore
import KE.GoesZip
import KE.GoesEnum
import HandS.Replace
import PyProof.ListStr
import PySem.Challenge.RW_firstanswers_k15_whole_orders_of_other_l
set_option Elab.async false
set_option linter.all false
set_option maxRecDepth 100000
set_option maxHeartbeats 0
namespace G
open PySem PySem.W PySem.Calls PyProof.Rows
theorem okl (H : (OpenLaw.row PySem.Challenge.rw_firstanswers_k15_whole_orders_of_other_l).wellSaid = true → (OpenLaw.row PySem.Challenge.rw_firstanswers_k15_whole_orders_of_other_l).Holds) : PySem.Challenge.rw_firstanswers_k15_whole_orders_of_other_l.Holds := by
  w_on; o_law
  exact H (by assumption)
end G
set_option Elab.async false
set_option linter.all false
set_option maxRecDepth 100000
set_option maxHeartbeats 4000000
/-! Mp: data trees over the hand layer. A def's text becomes a plain function on data; this part: data, worlds, what is wanted behind a computation. -/
namespace Mp
open PySem PySem.Spec PyProof.Rows L2
/-! ### data -/
inductive D where
  | non | bl (b : Bool) | int (i : Int) | str (z : Str)
  | ty (n : String)
  | glo (x : Str)
  | tup (l : List D) | lst (l : List D) | rol (l : List D)
  | dct (l : List (Key × D))
  | ins (C : Str) (fs : List (Str × D))
  | exn (a : Addr) (d : Option Addr) (C : Str) (fs : List (Str × D))
  | cel (n : Nat)
  | clo (f c : Addr) (q : Str) (t : L2.St) (r : List (Option D))
/-- what a mutable cell holds -/
inductive Ct where
  | lst (l : List D) | dct (l : List (Key × D)) | ins (C : Str) (fs : List (Str × D)) | rod (l : List (Key × D)) | tab (x : Str)
abbrev Sto := List (Option Ct)
abbrev En := List (Option D)
inductive Res (T : Type) where
  | ok (a : T) (s : Sto) | exc (C : Str) (fs : List (Str × D)) (s : Sto) | bad
abbrev DM (T : Type) := En → Sto → Res T
abbrev DE := DM D
inductive Fl where
  | nx (r : En) (s : Sto) | rt (d : D) (s : Sto) | bk (r : En) (s : Sto) | ct (r : En) (s : Sto)
  | exc (C : Str) (fs : List (Str × D)) (r : En) (s : Sto) | bad
abbrev DS := En → Sto → Fl
abbrev DG := D → En → Sto → Option (En × Sto)
def bindM {T U : Type} (m : DM T) (f : T → DM U) : DM U := fun r s => match m r s with
  | .ok a s' => f a r s'
  | .exc C fs s' => .exc C fs s'
  | .bad => .bad
def pureM {T : Type} (a : T) : DM T := fun _ s => .ok a s
/-! ### worlds -/
structure Wd where
  A : Nat → Option Addr
  Z : Addr → Prop
  P : Addr → Prop
  H : Hp
abbrev Frag := PySem.W.Frag
/-- a written list, tuple -/
def KL (K : Frag) (a : Addr) (xs : List V) : Prop := ∃ (o : Obj) (its : Array Value) (n : Nat), K.lookup a = some o ∧ o.cls = .type "list" ∧ o.dict = none ∧ o.data = .seq its n ∧ its.size ≤ sizeLine ∧ Vals xs its.toList
def KT (K : Frag) (a : Addr) (xs : List V) : Prop := ∃ (o : Obj) (its : Array Value) (n : Nat), K.lookup a = some o ∧ o.cls = .type "tuple" ∧ o.data = .seq its n ∧ its.size ≤ sizeLine ∧ Vals xs its.toList
def LAt (K : Frag) (w : Wd) (a : Addr) (xs : List V) : Prop := (w.Z a ∧ Rd w.H a (.lst xs)) ∨ KL K a xs
def TAt (K : Frag) (w : Wd) (a : Addr) (xs : List V) : Prop := (w.Z a ∧ Rd w.H a (.tup xs)) ∨ KT K a xs
theorem LAt.sq {K : Frag} {w : Wd} {a : Addr} {xs : List V} (h : LAt K w a xs) : SqL K w.H a xs := h.elim (fun h => .inl h.2) .inr
theorem TAt.sq {K : Frag} {w : Wd} {a : Addr} {xs : List V} (h : TAt K w a xs) : SqT K w.H a xs := h.elim (fun h => .inl h.2) .inr
/-- all that Rep leans on is kept -/
structure Ex0 (w w' : Wd) : Prop where
  A : ∀ n a, w.A n = some a → w'.A n = some a
  Z : ∀ a, w.Z a → w'.Z a
  H : ∀ a, w.Z a → w'.H a = w.H a
/-- .. and what is pinned -/
structure Ext (w w' : Wd) : Prop extends Ex0 w w' where
  P : ∀ a, w.P a → w'.P a
  HP : ∀ a, w.P a → w'.H a = w.H a
theorem Ext.refl (w : Wd) : Ext w w := ⟨⟨fun _ _ h => h, fun _ h => h, fun _ _ => rfl⟩, fun _ h => h, fun _ _ => rfl⟩
theorem Ext.trans {a b c : Wd} (h : Ext a b) (k : Ext b c) : Ext a c := ⟨⟨fun n x e => k.A n x (h.A n x e), fun x e => k.Z x (h.Z x e), fun x e => (k.H x (h.Z x e)).trans (h.H x e)⟩, fun x e => k.P x (h.P x e), fun x e => (k.HP x (h.P x e)).trans (h.HP x e)⟩
theorem Ex0.rd {w w' : Wd} (e : Ex0 w w') {a : Addr} {u : HO} (z : w.Z a) (h : Rd w.H a u) : Rd w'.H a u := by
  unfold Rd at h ⊢
  rw [e.H a z]
  exact h
theorem LAt.ex0 {K : Frag} {w w' : Wd} (e : Ex0 w w') {a : Addr} {xs : List V} (h : LAt K w a xs) : LAt K w' a xs := h.elim (fun h => .inl ⟨e.Z a h.1, e.rd h.1 h.2⟩) .inr
theorem TAt.ex0 {K : Frag} {w w' : Wd} (e : Ex0 w w') {a : Addr} {xs : List V} (h : TAt K w a xs) : TAt K w' a xs := h.elim (fun h => .inl ⟨e.Z a h.1, e.rd h.1 h.2⟩) .inr
theorem LAt.ext {K : Frag} {w w' : Wd} (e : Ext w w') {a : Addr} {xs : List V} (h : LAt K w a xs) : LAt K w' a xs := h.ex0 e.toEx0
theorem TAt.ext {K : Frag} {w w' : Wd} (e : Ext w w') {a : Addr} {xs : List V} (h : TAt K w a xs) : TAt K w' a xs := h.ex0 e.toEx0
mutual
inductive Rep (K : Frag) (w : Wd) : V → D → Prop
  | non : Rep K w .non .non
  | bl (b : Bool) : Rep K w (.bl b) (.bl b)
  | int (i : Int) : Rep K w (.int i) (.int i)
  | str (z : Str) : Rep K w (.str z) (.str z)
  | ty (n : String) : Rep K w (.ty n) (.ty n)
  | glo (x : Str) : Rep K w (.ref (He.ga K x)) (.glo x)
  | tup {a : Addr} {vs : List V} {ds : List D} : TAt K w a vs → Reps K w vs ds → Rep K w (.ref a) (.tup ds)
  | lst {a : Addr} {vs : List V} {ds : List D} : w.Z a → w.H a = some (.lst vs) → Reps K w vs ds → Rep K w (.ref a) (.lst ds)
  | rol {a : Addr} {vs : List V} {ds : List D} : LAt K w a vs → Reps K w vs ds → Rep K w (.ref a) (.rol ds)
  | dct {a : Addr} {o : Obj} {ks : List Key} {vs : List V} {ds : List D} : w.Z a → w.H a = some (.frz o (.dK (ks.zip vs))) → ks.length = vs.length → Reps K w vs ds → Rep K w (.ref a) (.dct (ks.zip ds))
  | ins {a dx : Addr} {C : Str} {ks : List Str} {vs : List V} {ds : List D} : w.Z a → w.H a = some (.ins (He.ga K C) dx (ks.zip vs)) → ks.length = vs.length → Reps K w vs ds → Rep K w (.ref a) (.ins C (ks.zip ds))
  | exn0 {a : Addr} {C : Str} : Rep K w (.ref a) (.exn a none C [])
  | exn {a dx : Addr} {C : Str} {ks : List Str} {vs : List V} {ds : List D} : w.Z dx → w.H dx = some (.xd (ks.zip vs)) → ks.length = vs.length → Reps K w vs ds → Rep K w (.ref a) (.exn a (some dx) C (ks.zip ds))
  | cel {n : Nat} {a : Addr} : w.A n = some a → Rep K w (.ref a) (.cel n)
  | clo {f c : Addr} {q : Str} {t : L2.St} {r : List (Option D)} : w.Z c → w.H c = some (LamX.CodeO c q) → RepE K w t r → Rep K w (.ref f) (.clo f c q t r)
inductive Reps (K : Frag) (w : Wd) : List V → List D → Prop
  | nil : Reps K w [] []
  | cons {v : V} {d : D} {vs : List V} {ds : List D} : Rep K w v d → Reps K w vs ds → Reps K w (v :: vs) (d :: ds)
inductive RepE (K : Frag) (w : Wd) : List (Option V) → List (Option D) → Prop
  | nil : RepE K w [] []
  | non {v : Option V} {t : List (Option V)} {r : List (Option D)} : RepE K w t r → RepE K w (v :: t) (none :: r)
  | som {v : V} {d : D} {t : List (Option V)} {r : List (Option D)} : Rep K w v d → RepE K w t r → RepE K w (some v :: t) (some d :: r)
end
mutual
theorem Rep.ex0 {K : Frag} {w w' : Wd} (e : Ex0 w w') : ∀ {v : V} {d : D}, Rep K w v d → Rep K w' v d
  | _, _, .non => .non
  | _, _, .bl b => .bl b
  | _, _, .int i => .int i
  | _, _, .str z => .str z
  | _, _, .ty n => .ty n
  | _, _, .glo x => .glo x
  | _, _, .tup h r => .tup (h.ex0 e) (r.ex0 e)
  | _, _, .lst z h r => .lst (e.Z _ z) ((e.H _ z).trans h) (r.ex0 e)
  | _, _, .rol h r => .rol (h.ex0 e) (r.ex0 e)
  | _, _, .dct z h l r => .dct (e.Z _ z) ((e.H _ z).trans h) l (r.ex0 e)
  | _, _, .ins z h l r => .ins (e.Z _ z) ((e.H _ z).trans h) l (r.ex0 e)
  | _, _, .exn0 => .exn0
  | _, _, .exn z h l r => .exn (e.Z _ z) ((e.H _ z).trans h) l (r.ex0 e)
  | _, _, .cel h => .cel (e.A _ _ h)
  | _, _, .clo z h r => .clo (e.Z _ z) ((e.H _ z).trans h) (r.ex0 e)
theorem Reps.ex0 {K : Frag} {w w' : Wd} (e : Ex0 w w') : ∀ {vs : List V} {ds : List D}, Reps K w vs ds → Reps K w' vs ds
  | _, _, .nil => .nil
  | _, _, .cons h r => .cons (h.ex0 e) (r.ex0 e)
theorem RepE.ex0 {K : Frag} {w w' : Wd} (e : Ex0 w w') : ∀ {t : List (Option V)} {r : List (Option D)}, RepE K w t r → RepE K w' t r
  | _, _, .nil => .nil
  | _, _, .non h => .non (h.ex0 e)
  | _, _, .som h r => .som (h.ex0 e) (r.ex0 e)
end
theorem Rep.ext {K : Frag} {w w' : Wd} (e : Ext w w') {v : V} {d : D} (h : Rep K w v d) : Rep K w' v d := h.ex0 e.toEx0
theorem Reps.ext {K : Frag} {w w' : Wd} (e : Ext w w') {v : List V} {d : List D} (h : Reps K w v d) : Reps K w' v d := h.ex0 e.toEx0
theorem Reps.length {K : Frag} {w : Wd} : ∀ {vs : List V} {ds : List D}, Reps K w vs ds → vs.length = ds.length
  | _, _, .nil => rfl
  | _, _, .cons _ r => congrArg (· + 1) r.length
theorem Reps.get {K : Frag} {w : Wd} : ∀ {vs : List V} {ds : List D} {i : Nat} {d : D}, Reps K w vs ds → ds[i]? = some d → ∃ v, vs[i]? = some v ∧ Rep K w v d
  | _, _, _, _, .nil, h => by simp at h
  | _, _, 0, _, .cons h _, e => by
    simp at e
    subst e
    exact ⟨_, rfl, h⟩
  | _, _, i + 1, _, .cons _ r, e => by
    simp at e
    obtain ⟨v, h1, h2⟩ := r.get e
    exact ⟨v, by simpa using h1, h2⟩
theorem Reps.append {K : Frag} {w : Wd} : ∀ {vs us : List V} {ds es : List D}, Reps K w vs ds → Reps K w us es → Reps K w (vs ++ us) (ds ++ es)
  | _, _, _, _, .nil, r => r
  | _, _, _, _, .cons h t, r => .cons h (t.append r)
theorem Reps.set {K : Frag} {w : Wd} {v : V} {d : D} (r : Rep K w v d) : ∀ {vs : List V} {ds : List D} (i : Nat), Reps K w vs ds → Reps K w (vs.set i v) (ds.set i d)
  | _, _, _, .nil => .nil
  | _, _, 0, .cons _ t => .cons r t
  | _, _, i + 1, .cons h t => .cons h (t.set r i)
theorem Reps.drop {K : Frag} {w : Wd} : ∀ {vs : List V} {ds : List D} (n : Nat), Reps K w vs ds → Reps K w (vs.drop n) (ds.drop n)
  | _, _, 0, r => r
  | _, _, _ + 1, .nil => .nil
  | _, _, n + 1, .cons _ t => t.drop n
theorem Reps.take {K : Frag} {w : Wd} : ∀ {vs : List V} {ds : List D} (n : Nat), Reps K w vs ds → Reps K w (vs.take n) (ds.take n)
  | _, _, 0, _ => .nil
  | _, _, _ + 1, .nil => .nil
  | _, _, n + 1, .cons h t => .cons h (t.take n)
/-! ### pairs -/
inductive KVR (K : Frag) (w : Wd) {T : Type} : List (T × V) → List (T × D) → Prop
  | nil : KVR K w [] []
  | cons {k : T} {v : V} {d : D} {l : List (T × V)} {m : List (T × D)} : Rep K w v d → KVR K w l m → KVR K w ((k, v) :: l) ((k, d) :: m)
section
variable {K : Frag} {w w' : Wd} {T : Type}
theorem KVR.ex0 (e : Ex0 w w') : ∀ {l : List (T × V)} {m : List (T × D)}, KVR K w l m → KVR K w' l m
  | _, _, .nil => .nil
  | _, _, .cons h r => .cons (h.ex0 e) (r.ex0 e)
theorem KVR.ext (e : Ext w w') {l : List (T × V)} {m : List (T × D)} (h : KVR K w l m) : KVR K w' l m := h.ex0 e.toEx0
theorem KVR.of_zip : ∀ {ks : List T} {vs : List V} {ds : List D}, ks.length = vs.length → Reps K w vs ds → KVR K w (ks.zip vs) (ks.zip ds)
  | [], _, _, _, _ => .nil
  | k :: ks, _, _, hl, .nil => by cases hl
  | k :: ks, _, _, hl, .cons h r => .cons h (KVR.of_zip (by simpa using hl) r)
theorem KVR.to_zip : ∀ {l : List (T × V)} {m : List (T × D)}, KVR K w l m → ∃ (ks : List T) (vs : List V) (ds : List D), l = ks.zip vs ∧ m = ks.zip ds ∧ ks.length = vs.length ∧ Reps K w vs ds
  | _, _, .nil => ⟨[], [], [], rfl, rfl, rfl, .nil⟩
  | _, _, .cons (k := k) h r => by
    obtain ⟨ks, vs, ds, rfl, rfl, hl, hr⟩ := r.to_zip
    exact ⟨k :: ks, _ :: vs, _ :: ds, rfl, rfl, by simp [hl], .cons h hr⟩
theorem KVR.length : ∀ {l : List (T × V)} {m : List (T × D)}, KVR K w l m → l.length = m.length
  | _, _, .nil => rfl
  | _, _, .cons _ r => congrArg (· + 1) r.length
theorem KVR.keys : ∀ {l : List (T × V)} {m : List (T × D)}, KVR K w l m → l.map (·.1) = m.map (·.1)
  | _, _, .nil => rfl
  | _, _, .cons _ r => by simp [r.keys]
theorem Rep.dctK {a : Addr} {o : Obj} {l : List (Key × V)} {m : List (Key × D)} (z : w.Z a) (h : w.H a = some (.frz o (.dK l))) (r : KVR K w l m) : Rep K w (.ref a) (.dct m) := by
  obtain ⟨ks, vs, ds, rfl, rfl, hl, hr⟩ := r.to_zip
  exact .dct z h hl hr
theorem Rep.insK {a dx : Addr} {C : Str} {l : List (Str × V)} {m : List (Str × D)} (z : w.Z a) (h : w.H a = some (.ins (He.ga K C) dx l)) (r : KVR K w l m) : Rep K w (.ref a) (.ins C m) := by
  obtain ⟨ks, vs, ds, rfl, rfl, hl, hr⟩ := r.to_zip
  exact .ins z h hl hr
theorem Rep.dct_inv {v : V} {m : List (Key × D)} (h : Rep K w v (.dct m)) : ∃ a o l, v = .ref a ∧ w.Z a ∧ w.H a = some (.frz o (.dK l)) ∧ KVR K w l m := by
  cases h with
  | dct z h hl r => exact ⟨_, _, _, rfl, z, h, KVR.of_zip hl r⟩
theorem Rep.ins_inv {v : V} {C : Str} {m : List (Str × D)} (h : Rep K w v (.ins C m)) : ∃ a dx l, v = .ref a ∧ w.Z a ∧ w.H a = some (.ins (He.ga K C) dx l) ∧ KVR K w l m := by
  cases h with
  | ins z h hl r => exact ⟨_, _, _, rfl, z, h, KVR.of_zip hl r⟩
end
/-! ### the store, the slots -/
/-- the code object of a def of the module, its table, the name of the lambdas in it -/
def codeV (K : Frag) (x : Str) : Value := match K.lookup (He.ga K x) with
  | some ⟨_, _, .func fd, _⟩ => fd.code
  | _ => .none
def codeA (K : Frag) (x : Str) : Addr := match codeV K x with
  | .ref c => c
  | _ => 0
def tabA (K : Frag) (x : Str) : Addr := match K.lookup (codeA K x) with
  | some ⟨_, _, .fields vs, _⟩ => (match (vs[11]? : Option Value) with
    | some (.ref P) => P
    | _ => 0)
  | _ => 0
def lamQ (x : Str) : Str := x ++ ".<locals>." ++ "<lambda>"
def CtR (K : Frag) (w : Wd) (a : Addr) : Ct → Prop
  | .lst ds => ∃ vs, w.H a = some (.lst vs) ∧ Reps K w vs ds
  | .dct m => ∃ l, w.H a = some (.dK l) ∧ KVR K w l m
  | .ins C m => ∃ (dx : Addr) (l : List (Str × V)), w.H a = some (.ins (He.ga K C) dx l) ∧ KVR K w l m
  | .rod m => ∃ (o : Obj) (l : List (Key × V)), w.Z a ∧ w.H a = some (.frz o (.dK l)) ∧ KVR K w l m
  | .tab x => a = tabA K x ∧ ∃ ps : Array Value, w.H a = some (.tbl ps) ∧ TriplesOk ps.toList ∧ ∀ (pos : Pos) (cv : Value), codeAmong pos ps.toList = some cv → ∃ c, cv = .ref c ∧ w.Z c ∧ w.H c = some (LamX.CodeO c (lamQ x))
/-- but for read-only ones, cells are not frozen -/
def NZ (w : Wd) (a : Addr) : Ct → Prop
  | .rod _ => True
  | _ => ¬ w.Z a
theorem NZ.mono {w w' : Wd} {a : Addr} (k : w'.Z a → w.Z a) : ∀ {c : Ct}, NZ w a c → NZ w' a c
  | .lst _, h => fun z => h (k z)
  | .dct _, h => fun z => h (k z)
  | .ins _ _, h => fun z => h (k z)
  | .tab _, h => fun z => h (k z)
  | .rod _, _ => trivial
theorem NZ.of {w : Wd} {a : Addr} (h : ¬ w.Z a) : ∀ {c : Ct}, NZ w a c
  | .lst _ => h
  | .dct _ => h
  | .ins _ _ => h
  | .tab _ => h
  | .rod _ => trivial
structure StR (K : Frag) (w : Wd) (s : Sto) : Prop where
  at_ : ∀ n ct, s[n]? = some (some ct) → ∃ a, w.A n = some a ∧ NZ w a ct ∧ CtR K w a ct
  np : ∀ n ct a, s[n]? = some (some ct) → w.A n = some a → ¬ w.P a
  pz : ∀ a, w.P a → ¬ w.Z a ∧ w.H a ≠ none
  inj : ∀ n m a c d, s[n]? = some (some c) → s[m]? = some (some d) → w.A n = some a → w.A m = some a → n = m
  fz : ∀ a, w.Z a → w.H a ≠ none
  new : ∀ n, s.length ≤ n → w.A n = none
def EnvR (K : Frag) (w : Wd) (r : En) (t : L2.St) : Prop := r.length = t.length ∧ ∀ (i : Nat) (d : D), r[i]? = some (some d) → ∃ v, t[i]? = some (some v) ∧ Rep K w v d
theorem EnvR.ex0 {K : Frag} {w w' : Wd} (e : Ex0 w w') {r : En} {t : L2.St} (h : EnvR K w r t) : EnvR K w' r t := ⟨h.1, fun i d q => let ⟨v, h1, h2⟩ := h.2 i d q; ⟨v, h1, h2.ex0 e⟩⟩
theorem EnvR.ext {K : Frag} {w w' : Wd} (e : Ext w w') {r : En} {t : L2.St} (h : EnvR K w r t) : EnvR K w' r t := h.ex0 e.toEx0
theorem EnvR.set {K : Frag} {w : Wd} {r : En} {t : L2.St} (h : EnvR K w r t) {v : V} {d : D} (q : Rep K w v d) (i : Nat) : EnvR K w (r.set i (some d)) (t.set i (some v)) := by
  refine ⟨by rw [List.length_set, List.length_set, h.1], fun j e hj => ?_⟩
  by_cases hij : i = j
  · subst hij
    by_cases hl : i < r.length
    · rw [List.getElem?_set_self hl] at hj
      cases hj
      exact ⟨v, by rw [List.getElem?_set_self (h.1 ▸ hl)], q⟩
    · rw [List.getElem?_eq_none (by rw [List.length_set]; omega)] at hj
      cases hj
  · rw [List.getElem?_set_ne hij] at hj
    obtain ⟨u, h1, h2⟩ := h.2 j e hj
    exact ⟨u, by rw [List.getElem?_set_ne hij]; exact h1, h2⟩
theorem EnvR.unset {K : Frag} {w : Wd} {r : En} {t : L2.St} (h : EnvR K w r t) (i : Nat) : EnvR K w (r.set i none) (t.set i none) := by
  refine ⟨by rw [List.length_set, List.length_set, h.1], fun j e hj => ?_⟩
  by_cases hij : i = j
  · subst hij
    by_cases hl : i < r.length
    · rw [List.getElem?_set_self hl] at hj
      cases hj
    · rw [List.getElem?_eq_none (by rw [List.length_set]; omega)] at hj
      cases hj
  · rw [List.getElem?_set_ne hij] at hj
    obtain ⟨u, h1, h2⟩ := h.2 j e hj
    exact ⟨u, by rw [List.getElem?_set_ne hij]; exact h1, h2⟩
/-! ### worlds that go on -/
/-- a new object, frozen at once -/
def Wd.frz (w : Wd) (p : Addr) (o : HO) : Wd := ⟨w.A, fun a => w.Z a ∨ a = p, w.P, upd w.H p o⟩
theorem Wd.frz_ext {K : Frag} {w : Wd} {s : Sto} (st : StR K w s) {p : Addr} {o : HO} (h : w.H p = none) : Ext w (w.frz p o) :=
  ⟨⟨fun _ _ h => h, fun _ h => .inl h, fun a z => upd_ne fun e => st.fz a z (e ▸ h)⟩, fun _ h => h, fun a z => upd_ne fun e => (st.pz a z).2 (e ▸ h)⟩
theorem CtR.sam0 {K : Frag} {w w' : Wd} (e : Ex0 w w') {a : Addr} (h : w'.H a = w.H a) : ∀ {c : Ct}, CtR K w a c → CtR K w' a c
  | .lst _, ⟨vs, h1, h2⟩ => ⟨vs, h.trans h1, h2.ex0 e⟩
  | .dct _, ⟨l, h1, h2⟩ => ⟨l, h.trans h1, h2.ex0 e⟩
  | .ins _ _, ⟨dx, l, h1, h2⟩ => ⟨dx, l, h.trans h1, h2.ex0 e⟩
  | .rod _, ⟨o, l, z, h1, h2⟩ => ⟨o, l, e.Z _ z, h.trans h1, h2.ex0 e⟩
  | .tab _, ⟨e0, ps, h1, h2, h3⟩ => ⟨e0, ps, h.trans h1, h2, fun pos cv hc => let ⟨c, c1, c2, c3⟩ := h3 pos cv hc; ⟨c, c1, e.Z _ c2, (e.H _ c2).trans c3⟩⟩
theorem CtR.same {K : Frag} {w w' : Wd} (e : Ext w w') {a : Addr} (h : w'.H a = w.H a) {c : Ct} (q : CtR K w a c) : CtR K w' a c := q.sam0 e.toEx0 h
theorem CtR.some {K : Frag} {w : Wd} {a : Addr} : ∀ {c : Ct}, CtR K w a c → ∃ o, w.H a = some o ∧ True
  | .lst _, ⟨_, h, _⟩ => ⟨_, h, trivial⟩
  | .dct _, ⟨_, h, _⟩ => ⟨_, h, trivial⟩
  | .ins _ _, ⟨_, _, h, _⟩ => ⟨_, h, trivial⟩
  | .rod _, ⟨_, _, _, h, _⟩ => ⟨_, h, trivial⟩
  | .tab _, ⟨_, _, h, _⟩ => ⟨_, h, trivial⟩
theorem Wd.frz_st {K : Frag} {w : Wd} {s : Sto} (st : StR K w s) {p : Addr} {o : HO} (h : w.H p = none) : StR K (w.frz p o) s := by
  have e := Wd.frz_ext st (o := o) h
  refine ⟨fun n ct q => ?_, st.np, fun a z => ?_, st.inj, fun a z => ?_, st.new⟩
  · obtain ⟨a, h1, h2, h3⟩ := st.at_ n ct q
    obtain ⟨ob, ho, _⟩ := h3.some
    have ne : a ≠ p := ne_of_none ho h
    exact ⟨a, h1, h2.mono (w' := w.frz p o) fun (z : w.Z a ∨ a = p) => Or.elim z id fun q => absurd q ne, h3.same e (upd_ne ne)⟩
  · have ne : a ≠ p := fun q => (st.pz a z).2 (q ▸ h)
    exact ⟨fun q => q.elim (st.pz a z).1 ne, by rw [show (w.frz p o).H a = w.H a from upd_ne ne]; exact (st.pz a z).2⟩
  · by_cases hp : a = p
    · show upd w.H p o a ≠ none
      rw [hp, upd_same]
      exact fun z => nomatch z
    · show upd w.H p o a ≠ none
      rw [upd_ne hp]
      exact st.fz a (z.elim id fun z => absurd z hp)
theorem Wd.frz_z {w : Wd} {p : Addr} {o : HO} : (w.frz p o).Z p := .inr rfl
theorem Wd.frz_h {w : Wd} {p : Addr} {o : HO} : (w.frz p o).H p = some o := upd_same
/-- a new object that is nobody's (an own dict) -/
def Wd.put (w : Wd) (p : Addr) (o : HO) : Wd := ⟨w.A, w.Z, w.P, upd w.H p o⟩
theorem Wd.put_ext {K : Frag} {w : Wd} {s : Sto} (st : StR K w s) {p : Addr} {o : HO} (h : w.H p = none) : Ext w (w.put p o) :=
  ⟨⟨fun _ _ h => h, fun _ h => h, fun a z => upd_ne fun e => st.fz a z (e ▸ h)⟩, fun _ h => h, fun a z => upd_ne fun e => (st.pz a z).2 (e ▸ h)⟩
theorem Wd.put_st {K : Frag} {w : Wd} {s : Sto} (st : StR K w s) {p : Addr} {o : HO} (h : w.H p = none) : StR K (w.put p o) s := by
  have e := Wd.put_ext st (o := o) h
  refine ⟨fun n ct q => ?_, st.np, fun a z => ?_, st.inj, fun a z => ?_, st.new⟩
  · obtain ⟨a, h1, h2, h3⟩ := st.at_ n ct q
    obtain ⟨ob, ho, _⟩ := h3.some
    have ne : a ≠ p := ne_of_none ho h
    exact ⟨a, h1, h2, h3.same e (upd_ne ne)⟩
  · have ne : a ≠ p := fun q => (st.pz a z).2 (q ▸ h)
    exact ⟨(st.pz a z).1, by rw [show (w.put p o).H a = w.H a from upd_ne ne]; exact (st.pz a z).2⟩
  · show upd w.H p o a ≠ none
    by_cases hp : a = p
    · rw [hp, upd_same]
      exact fun z => nomatch z
    · rw [upd_ne hp]
      exact st.fz a z
/-- a cell's object is changed -/
theorem Wd.mut_ext {w : Wd} {a : Addr} {o : HO} (h : ¬ w.Z a) (hP : ¬ w.P a) : Ext w (w.put a o) :=
  ⟨⟨fun _ _ h => h, fun _ h => h, fun b z => upd_ne fun e => h (e ▸ z)⟩, fun _ h => h, fun b z => upd_ne fun e => hP (e ▸ z)⟩
theorem Wd.mut_st {K : Frag} {w : Wd} {s : Sto} (st : StR K w s) {n : Nat} {c c' : Ct} {a : Addr} {o : HO} (hn : s[n]? = some (some c)) (ha : w.A n = some a) (hz : ¬ w.Z a) (hc : CtR K (w.put a o) a c') : StR K (w.put a o) (s.set n (some c')) := by
  obtain ⟨a', h1, h2, h3⟩ := st.at_ n c hn
  have ea : a' = a := Option.some.inj (h1.symm.trans ha)
  subst ea
  have hl : n < s.length := (List.getElem?_eq_some_iff.mp hn).1
  have hP := st.np n c a' hn ha
  have e : Ext w (w.put a' o) := Wd.mut_ext hz hP
  have back : ∀ m d, (s.set n (some c'))[m]? = some (some d) → ∃ d', s[m]? = some (some d') := fun m d q => by
    by_cases hm : n = m
    · subst hm
      exact ⟨c, hn⟩
    · rw [List.getElem?_set_ne hm] at q
      exact ⟨d, q⟩
  refine ⟨fun m ct q => ?_, fun m ct b q hb => (back m ct q).elim fun d' q' => st.np m d' b q' hb, fun b z => ⟨(st.pz b z).1, ?_⟩, fun m k b x y qm qk => ?_, fun b z => ?_, fun m hm => st.new m (by rw [List.length_set] at hm; exact hm)⟩
  · by_cases hm : n = m
    · subst hm
      rw [List.getElem?_set_self hl] at q
      cases q
      exact ⟨a', ha, NZ.of hz, hc⟩
    · rw [List.getElem?_set_ne hm] at q
      obtain ⟨b, k1, k2, k3⟩ := st.at_ m ct q
      have ne : b ≠ a' := fun z => hm (st.inj n m a' c ct hn q ha (z ▸ k1))
      exact ⟨b, k1, k2, k3.same e (upd_ne ne)⟩
  · rw [show (w.put a' o).H b = w.H b from upd_ne fun q => hP (q ▸ z)]
    exact (st.pz b z).2
  · obtain ⟨x', qx⟩ := back m x qm
    obtain ⟨y', qy⟩ := back k y qk
    exact st.inj m k b x' y' qx qy
  · show upd w.H a' o b ≠ none
    by_cases hb : b = a'
    · rw [hb, upd_same]
      exact fun z => nomatch z
    · rw [upd_ne hb]
      exact st.fz b z
/-- a new cell -/
def Wd.cell (w : Wd) (n : Nat) (p : Addr) (o : HO) : Wd := ⟨fun m => if m = n then some p else w.A m, w.Z, w.P, upd w.H p o⟩
theorem Wd.cell_ext {K : Frag} {w : Wd} {s : Sto} (st : StR K w s) {p : Addr} {o : HO} (h : w.H p = none) : Ext w (w.cell s.length p o) :=
  ⟨⟨fun m a q => by
    have ne : ¬ m = s.length := fun z => by
      rw [st.new m (by omega)] at q
      exact nomatch q
    show (if m = s.length then some p else w.A m) = some a
    rw [if_neg ne]
    exact q, fun _ h => h, fun a z => upd_ne fun e => st.fz a z (e ▸ h)⟩, fun _ h => h, fun a z => upd_ne fun e => (st.pz a z).2 (e ▸ h)⟩
theorem Wd.cell_st {K : Frag} {w : Wd} {s : Sto} (st : StR K w s) {p : Addr} {o : HO} {c : Ct} (h : w.H p = none) (hc : CtR K (w.cell s.length p o) p c) : StR K (w.cell s.length p o) (s ++ [some c]) := by
  have e := Wd.cell_ext st (o := o) h
  have old : ∀ m ct, m < s.length → s[m]? = some (some ct) → ∃ a, w.A m = some a ∧ NZ w a ct ∧ CtR K w a ct ∧ a ≠ p := fun m ct _ q => by
    obtain ⟨a, h1, h2, h3⟩ := st.at_ m ct q
    obtain ⟨ob, ho, _⟩ := h3.some
    exact ⟨a, h1, h2, h3, ne_of_none ho h⟩
  have at' : ∀ m ct, (s ++ [some c])[m]? = some (some ct) → (m < s.length ∧ s[m]? = some (some ct)) ∨ (m = s.length ∧ ct = c) := fun m ct q => by
    by_cases hm : m < s.length
    · rw [List.getElem?_append_left hm] at q
      exact .inl ⟨hm, q⟩
    · rw [List.getElem?_append_right (by omega)] at q
      by_cases h0 : m - s.length = 0
      · rw [h0] at q
        exact .inr ⟨by omega, by simpa using q.symm⟩
      · rw [List.getElem?_eq_none (by simp; omega)] at q
        cases q
  have nz : ¬ w.Z p := fun z => st.fz p z h
  have AtN : (w.cell s.length p o).A s.length = some p := if_pos rfl
  have AtO : ∀ m, m < s.length → (w.cell s.length p o).A m = w.A m := fun m hm => if_neg (by omega)
  refine ⟨fun m ct q => ?_, fun m ct b q hb => ?_, fun b z => ⟨(st.pz b z).1, ?_⟩, fun m k b x y qm qk hm hk => ?_, fun b z => ?_, fun m hm => ?_⟩
  · rcases at' m ct q with ⟨hm, q⟩ | ⟨rfl, rfl⟩
    · obtain ⟨a, h1, h2, h3, ne⟩ := old m ct hm q
      exact ⟨a, (AtO m hm).trans h1, h2, h3.same e (upd_ne ne)⟩
    · exact ⟨p, AtN, NZ.of nz, hc⟩
  · rcases at' m ct q with ⟨lm, q'⟩ | ⟨rfl, rfl⟩
    · rw [AtO m lm] at hb
      exact st.np m ct b q' hb
    · rw [AtN] at hb
      cases hb
      exact fun z => (st.pz p z).2 h
  · rw [show (w.cell s.length p o).H b = w.H b from upd_ne fun q => (st.pz b z).2 (q ▸ h)]
    exact (st.pz b z).2
  · rcases at' m x qm with ⟨lm, qm'⟩ | ⟨rfl, rfl⟩
    · rcases at' k y qk with ⟨lk, qk'⟩ | ⟨rfl, rfl⟩
      · rw [AtO m lm] at hm
        rw [AtO k lk] at hk
        exact st.inj m k b x y qm' qk' hm hk
      · obtain ⟨a, h1, _, _, ne⟩ := old m x lm qm'
        rw [AtO m lm, h1] at hm
        rw [AtN] at hk
        exact absurd ((Option.some.inj hm).trans (Option.some.inj hk).symm) ne
    · rcases at' k y qk with ⟨lk, qk'⟩ | ⟨rfl, rfl⟩
      · obtain ⟨a, h1, _, _, ne⟩ := old k y lk qk'
        rw [AtO k lk, h1] at hk
        rw [AtN] at hm
        exact absurd ((Option.some.inj hk).trans (Option.some.inj hm).symm) ne
      · rfl
  · show upd w.H p o b ≠ none
    by_cases hb : b = p
    · rw [hb, upd_same]
      exact fun z => nomatch z
    · rw [upd_ne hb]
      exact st.fz b z
  · have hm' : s.length + 1 ≤ m := by
      rw [List.length_append] at hm
      exact hm
    show (if m = s.length then some p else w.A m) = none
    rw [if_neg (by omega)]
    exact st.new m (by omega)
/-- a cell is frozen -/
def Wd.ice (w : Wd) (a : Addr) : Wd := ⟨w.A, fun b => w.Z b ∨ b = a, w.P, w.H⟩
theorem Wd.ice_ext {w : Wd} {a : Addr} : Ext w (w.ice a) := ⟨⟨fun _ _ h => h, fun _ h => .inl h, fun _ _ => rfl⟩, fun _ h => h, fun _ _ => rfl⟩
theorem Wd.ice_st {K : Frag} {w : Wd} {s : Sto} (st : StR K w s) {n : Nat} {c : Ct} {a : Addr} (hn : s[n]? = some (some c)) (ha : w.A n = some a) : StR K (w.ice a) (s.set n none) := by
  obtain ⟨a', h1, h2, h3⟩ := st.at_ n c hn
  have ea : a' = a := Option.some.inj (h1.symm.trans ha)
  subst ea
  have hl : n < s.length := (List.getElem?_eq_some_iff.mp hn).1
  have back : ∀ m d, (s.set n none)[m]? = some (some d) → m ≠ n ∧ s[m]? = some (some d) := fun m d q => by
    by_cases hm : n = m
    · subst hm
      rw [List.getElem?_set_self hl] at q
      cases q
    · rw [List.getElem?_set_ne hm] at q
      exact ⟨fun z => hm z.symm, q⟩
  refine ⟨fun m ct q => ?_, fun m ct b q => st.np m ct b (back m ct q).2, fun b z => ⟨fun q => q.elim (st.pz b z).1 fun e => st.np n c a' hn ha (e ▸ z), (st.pz b z).2⟩, fun m k b x y qm qk => st.inj m k b x y (back m x qm).2 (back k y qk).2, fun b z => ?_, fun m hm => st.new m (by rw [List.length_set] at hm; exact hm)⟩
  · obtain ⟨hm, q⟩ := back m ct q
    obtain ⟨b, k1, k2, k3⟩ := st.at_ m ct q
    have ne : b ≠ a' := fun z => hm (st.inj m n a' ct c q hn (z ▸ k1) ha)
    exact ⟨b, k1, k2.mono (w' := w.ice a') fun (z : w.Z b ∨ b = a') => Or.elim z id fun q => absurd q ne, k3.same Wd.ice_ext rfl⟩
  · rcases z with z | z
    · exact st.fz b z
    · obtain ⟨ob, ho, _⟩ := h3.some
      show w.H b ≠ none
      rw [z, ho]
      exact fun z => nomatch z
/-- a cell is locked: read by everybody, written by nobody -/
def Wd.lock (w : Wd) (a : Addr) (o : HO) : Wd := ⟨w.A, fun b => w.Z b ∨ b = a, w.P, upd w.H a o⟩
theorem Wd.lock_ext {w : Wd} {a : Addr} {o : HO} (h : ¬ w.Z a) (hP : ¬ w.P a) : Ext w (w.lock a o) :=
  ⟨⟨fun _ _ h => h, fun _ h => .inl h, fun b z => upd_ne fun e => h (e ▸ z)⟩, fun _ h => h, fun b z => upd_ne fun e => hP (e ▸ z)⟩
theorem Wd.lock_st {K : Frag} {w : Wd} {s : Sto} (st : StR K w s) {n : Nat} {c : Ct} {m : List (Key × D)} {a : Addr} {o : HO} (hn : s[n]? = some (some c)) (ha : w.A n = some a) (hz : ¬ w.Z a) (hc : CtR K (w.lock a o) a (.rod m)) : StR K (w.lock a o) (s.set n (some (.rod m))) := by
  have hl : n < s.length := (List.getElem?_eq_some_iff.mp hn).1
  have hP := st.np n c a hn ha
  have e : Ext w (w.lock a o) := Wd.lock_ext hz hP
  have back : ∀ m' d, (s.set n (some (.rod m)))[m']? = some (some d) → ∃ d', s[m']? = some (some d') := fun m' d q => by
    by_cases hm : n = m'
    · subst hm
      exact ⟨c, hn⟩
    · rw [List.getElem?_set_ne hm] at q
      exact ⟨d, q⟩
  refine ⟨fun m' ct q => ?_, fun m' ct b q hb => (back m' ct q).elim fun d' q' => st.np m' d' b q' hb, fun b z => ⟨fun q => Or.elim q (st.pz b z).1 fun e => hP (e ▸ z), ?_⟩, fun m' k b x y qm qk => ?_, fun b z => ?_, fun m' hm => st.new m' (by rw [List.length_set] at hm; exact hm)⟩
  · by_cases hm : n = m'
    · subst hm
      rw [List.getElem?_set_self hl] at q
      cases q
      exact ⟨a, ha, trivial, hc⟩
    · rw [List.getElem?_set_ne hm] at q
      obtain ⟨b, k1, k2, k3⟩ := st.at_ m' ct q
      have ne : b ≠ a := fun z => hm (st.inj n m' a c ct hn q ha (z ▸ k1))
      exact ⟨b, k1, k2.mono (w' := w.lock a o) fun (z : w.Z b ∨ b = a) => Or.elim z id fun q => absurd q ne, k3.same e (upd_ne ne)⟩
  · rw [show (w.lock a o).H b = w.H b from upd_ne fun q => hP (q ▸ z)]
    exact (st.pz b z).2
  · obtain ⟨x', qx⟩ := back m' x qm
    obtain ⟨y', qy⟩ := back k y qk
    exact st.inj m' k b x' y' qx qy
  · show upd w.H a o b ≠ none
    by_cases hb : b = a
    · rw [hb, upd_same]
      exact fun z => nomatch z
    · rw [upd_ne hb]
      exact st.fz b (Or.elim z id fun q => absurd q hb)
/-! ### what is wanted behind -/
/-- an exception's own dict: its fields -/
def ExR (K : Frag) (w : Wd) : Option Addr → List (Str × D) → Prop
  | none, fs => fs = []
  | some a, fs => w.Z a ∧ ∃ l, w.H a = some (.xd l) ∧ KVR K w l fs
def Post {T U : Type} (K : Frag) (R : Wd → U → T → Prop) (w : Wd) (E : XK) (Q : U → Hp → Prop) : Res T → Prop
  | .ok a s' => ∀ x w', Ext w w' → StR K w' s' → R w' x a → Q x w'.H
  | .exc C fs s' => ∀ ed w', Ext w w' → StR K w' s' → ExR K w' ed fs → E (.ref (He.ga K C)) ed w'.H
  | .bad => False
theorem Post.ext {T U : Type} {K : Frag} {R : Wd → U → T → Prop} {w w1 : Wd} {E : XK} {Q : U → Hp → Prop} (e : Ext w w1) : ∀ {r : Res T}, Post K R w E Q r → Post K R w1 E Q r
  | .ok _ _, h => fun x w' e' => h x w' (e.trans e')
  | .exc _ _ _, h => fun x w' e' => h x w' (e.trans e')
  | .bad, h => h
def tM {T U : Type} (K : Frag) (R : Wd → U → T → Prop) (W : WX) (m : DM T) : L2.St → Hp → (U → Hp → Prop) → Prop := fun t H Q =>
  ∃ r s w, w.H = H ∧ EnvR K w r t ∧ StR K w s ∧ Post K R w (fun c d H' => W c d t H') Q (m r s)
abbrev tE (K : Frag) (W : WX) (m : DE) : TE := tM K (Rep K) W m
abbrev tT (K : Frag) (W : WX) (m : DM Bool) : TT := tM K (fun _ (b c : Bool) => b = c) W m
abbrev tA (K : Frag) (W : WX) (m : DM (List D)) : TA := tM K (Reps K) W m
theorem Post.bind {T T' U U' : Type} {K : Frag} {R : Wd → U → T → Prop} {R' : Wd → U' → T' → Prop} {w : Wd} {r : En} {t : L2.St} {s : Sto} {W : WX} {Q : U' → Hp → Prop} {P : U → Hp → Prop} {m : DM T} {f : T → DM T'}
    (hp : Post K R' w (fun c d H' => W c d t H') Q (bindM m f r s)) (env : EnvR K w r t) (st : StR K w s)
    (k : ∀ x a s1 w1, Ext w w1 → StR K w1 s1 → R w1 x a → Post K R' w1 (fun c d H' => W c d t H') Q (f a r s1) → P x w1.H) : tM K R W m t w.H P := by
  refine ⟨r, s, w, rfl, env, st, ?_⟩
  unfold bindM at hp
  cases e : m r s with
  | ok a s1 =>
    rw [e] at hp
    exact fun x w1 e1 st1 r1 => k x a s1 w1 e1 st1 r1 (Post.ext e1 hp)
  | exc C fs s1 =>
    rw [e] at hp
    exact hp
  | bad =>
    rw [e] at hp
    exact hp
theorem Post.pure {T U : Type} {K : Frag} {R : Wd → U → T → Prop} {w : Wd} {E : XK} {Q : U → Hp → Prop} {a : T} {s : Sto} {x : U} (hp : Post K R w E Q (.ok a s)) (st : StR K w s) (h : R w x a) : Q x w.H := hp x w (Ext.refl w) st h
section
variable {X : Cx} {e : Expr} {es : List Expr}
theorem PE.imp {t t' : TE} (h : PE X e t) (i : ∀ σ H Q, t' σ H Q → t σ H Q) : PE X e t' := ⟨fun pins s σ H Q I q => h.run pins s σ H Q I (i _ _ _ q)⟩
theorem PT.imp {t t' : TT} (h : PT X e t) (i : ∀ σ H Q, t' σ H Q → t σ H Q) : PT X e t' := ⟨fun pins s σ H Q I q => h.run pins s σ H Q I (i _ _ _ q)⟩
theorem PA.imp {t t' : TA} (h : PA X es t) (i : ∀ σ H Q, t' σ H Q → t σ H Q) : PA X es t' := ⟨fun pos pins s σ H Q I q => h.run pos pins s σ H Q I (i _ _ _ q)⟩
theorem PS.imp {st : Stmt} {t t' : TS} (h : PS X st t) (i : ∀ D σ H, t' D σ H → t D σ H) : PS X st t' := ⟨fun pins s σ H D I q => h.run pins s σ H D I (i _ _ _ q)⟩
theorem PSs.imp {st : List Stmt} {t t' : TS} (h : PSs X st t) (i : ∀ D σ H, t' D σ H → t D σ H) : PSs X st t' := ⟨fun pins s σ H D I q => h.run pins s σ H D I (i _ _ _ q)⟩
theorem OpR.or {f : Value → Value → Sem Value} {r1 r2 : R2} (h1 : OpR X f r1) (h2 : OpR X f r2) : OpR X f (fun x y H Q => r1 x y H Q ∨ r2 x y H Q) := fun pins s σ H x y v u Q I rx ry h =>
  h.elim (h1 pins s σ H x y v u Q I rx ry) (h2 pins s σ H x y v u Q I rx ry)
theorem CallR.or {f : Value} {r1 r2 : List V → Hp → VK → Prop} (h1 : CallR X f r1) (h2 : CallR X f r2) : CallR X f (fun x H Q => r1 x H Q ∨ r2 x H Q) := fun pins s σ H x v Q I rx h =>
  h.elim (h1 pins s σ H x v Q I rx) (h2 pins s σ H x v Q I rx)
theorem PE.or {t1 t2 : TE} (h1 : PE X e t1) (h2 : PE X e t2) : PE X e (fun σ H Q => t1 σ H Q ∨ t2 σ H Q) := ⟨fun pins s σ H Q I q => q.elim (h1.run pins s σ H Q I) (h2.run pins s σ H Q I)⟩
end
/-! ### statements -/
def PostS (K : Frag) (w : Wd) (W : WX) (E : Ends) : Fl → Prop
  | .nx r' s' => ∀ t' w', Ext w w' → EnvR K w' r' t' → StR K w' s' → E.nx t' w'.H
  | .rt d s' => ∀ v w', Ext w w' → StR K w' s' → Rep K w' v d → E.rt v w'.H
  | .bk r' s' => ∀ t' w', Ext w w' → EnvR K w' r' t' → StR K w' s' → E.bk t' w'.H
  | .ct r' s' => ∀ t' w', Ext w w' → EnvR K w' r' t' → StR K w' s' → E.ct t' w'.H
  | .exc C fs r' s' => ∀ t' ed w', Ext w w' → EnvR K w' r' t' → StR K w' s' → ExR K w' ed fs → W (.ref (He.ga K C)) ed t' w'.H
  | .bad => False
theorem PostS.ext {K : Frag} {w w1 : Wd} {W : WX} {E : Ends} (e : Ext w w1) : ∀ {r : Fl}, PostS K w W E r → PostS K w1 W E r
  | .nx _ _, h => fun x w' e' => h x w' (e.trans e')
  | .rt _ _, h => fun x w' e' => h x w' (e.trans e')
  | .bk _ _, h => fun x w' e' => h x w' (e.trans e')
  | .ct _ _, h => fun x w' e' => h x w' (e.trans e')
  | .exc _ _ _ _, h => fun x y w' e' => h x y w' (e.trans e')
  | .bad, h => h
def tS (K : Frag) (W : WX) (m : DS) : TS := fun E t H => ∃ r s w, w.H = H ∧ EnvR K w r t ∧ StR K w s ∧ PostS K w W E (m r s)
/-- a statement that goes on with what an expression gives -/
def thenS {T : Type} (m : DM T) (f : T → DS) : DS := fun r s => match m r s with
  | .ok a s' => f a r s'
  | .exc C fs s' => .exc C fs r s'
  | .bad => .bad
theorem PostS.bind {T U : Type} {K : Frag} {R : Wd → U → T → Prop} {w : Wd} {r : En} {t : L2.St} {s : Sto} {W : WX} {E : Ends} {P : U → Hp → Prop} {m : DM T} {f : T → DS}
    (hp : PostS K w W E (thenS m f r s)) (env : EnvR K w r t) (st : StR K w s)
    (k : ∀ x a s1 w1, Ext w w1 → StR K w1 s1 → R w1 x a → PostS K w1 W E (f a r s1) → P x w1.H) : tM K R W m t w.H P := by
  refine ⟨r, s, w, rfl, env, st, ?_⟩
  unfold thenS at hp
  cases e : m r s with
  | ok a s1 =>
    rw [e] at hp
    exact fun x w1 e1 st1 r1 => k x a s1 w1 e1 st1 r1 (PostS.ext e1 hp)
  | exc C fs s1 =>
    rw [e] at hp
    exact fun ed w1 e1 st1 x1 => hp t ed w1 e1 (env.ext e1) st1 x1
  | bad =>
    rw [e] at hp
    exact hp
end Mp
set_option Elab.async false
set_option linter.all false
set_option maxRecDepth 100000
set_option maxHeartbeats 4000000
/-! Mp: expressions without own objects. -/
namespace Mp
open PySem PySem.Spec PyProof.Rows L2
/-! ### on data -/
def vM (i : Nat) : DE := fun r s => match r[i]? with
  | some (some d) => .ok d s
  | _ => .bad
def cM (d : D) : DE := fun _ s => .ok d s
def binM (f : D → D → Sto → Res D) (a b : DE) : DE := bindM a fun x => bindM b fun y => fun _ s => f x y s
def unM (f : D → Sto → Res D) (a : DE) : DE := bindM a fun x => fun _ s => f x s
/-- a list of one's own: frozen, a cell's -/
def lstX (s : Sto) : D → Option (List D)
  | .lst l => some l
  | .cel n => (match s[n]? with
    | some (some (.lst l)) => some l
    | _ => none)
  | _ => none
/-- a list that is read -/
def lstOf (s : Sto) : D → Option (List D)
  | .rol l => some l
  | x => lstX s x
def dctOf (s : Sto) : D → Option (List (Key × D))
  | .dct l => some l
  | .cel n => (match s[n]? with
    | some (some (.dct l)) => some l
    | some (some (.rod l)) => some l
    | _ => none)
  | _ => none
def insOf (s : Sto) : D → Option (Str × List (Str × D))
  | .ins C l => some (C, l)
  | .cel n => (match s[n]? with
    | some (some (.ins C l)) => some (C, l)
    | _ => none)
  | _ => none
def addD (x y : D) (s : Sto) : Res D := match x with
  | .int i => (match y with
    | .int j => .ok (.int (i + j)) s
    | _ => .bad)
  | .str i => (match y with
    | .str j => if i.length + j.length ≤ sizeLine then .ok (.str (i ++ j)) s else .bad
    | _ => .bad)
  | .tup i => (match y with
    | .tup j => if i.length + j.length ≤ sizeLine then .ok (.tup (i ++ j)) s else .bad
    | _ => .bad)
  | x => (match lstX s x with
    | some i => (match lstX s y with
      | some j => if i.length + j.length ≤ sizeLine then .ok (.lst (i ++ j)) s else .bad
      | none => .bad)
    | none => .bad)
def subD (x y : D) (s : Sto) : Res D := match x with
  | .int i => (match y with
    | .int j => .ok (.int (i - j)) s
    | _ => .bad)
  | _ => .bad
def mulC (i j : Int) : Bool := decide (i.natAbs.log2 + j.natAbs.log2 < 1000000)
@[irreducible] def mulD (x y : D) (s : Sto) : Res D := match x with
  | .int i => (match y with
    | .int j => if mulC i j = true then .ok (.int (i * j)) s else .bad
    | _ => .bad)
  | x => (match lstX s x with
    | none => .bad
    | some l => match y with
    | .int k => if 0 ≤ k ∧ k < 2 ^ 62 ∧ l.length * k.toNat ≤ sizeLine then .ok (.lst (List.replicate k.toNat l).flatten) s else .bad
    | _ => .bad)
@[irreducible] def divD (x y : D) (s : Sto) : Res D := match x with
  | .int i => (match y with
    | .int j => if 0 < j ∧ j.natAbs.log2 < 9000 then .ok (.int (i / j)) s else if j < 0 ∧ j.natAbs.log2 < 9000 then .ok (.int (i.fdiv j)) s else .bad
    | _ => .bad)
  | _ => .bad
def modD (x y : D) (s : Sto) : Res D := match x with
  | .int i => (match y with
    | .int j => if 0 < j then .ok (.int (i % j)) s else if j < 0 then .ok (.int (i.fmod j)) s else .bad
    | _ => .bad)
  | _ => .bad
@[irreducible] def powD (x y : D) (s : Sto) : Res D := match x with
  | .int i => (match y with
    | .int j => if 0 ≤ j ∧ j ≤ 1000000 ∧ i.natAbs < 2 ^ 64 then .ok (.int (i ^ j.toNat)) s else .bad
    | _ => .bad)
  | _ => .bad
def negD (x : D) (s : Sto) : Res D := match x with
  | .int i => .ok (.int (-i)) s
  | _ => .bad
/-- truth -/
def truD (s : Sto) : D → Option Bool
  | .non => some false
  | .bl b => some b
  | .int i => some (i != 0)
  | .str z => if z.length ≤ sizeLine then some ((z.length : Int) != 0) else none
  | .tup l => some (!l.isEmpty)
  | x => (lstOf s x).map fun l => !l.isEmpty
def truM (a : DE) : DM Bool := bindM a fun x => fun _ s => match truD s x with
  | some b => .ok b s
  | none => .bad
def notV (a : DE) : DE := bindM (truM a) fun b => pureM (.bl (!b))
def andV (a b : DE) : DE := bindM a fun x => bindM (truM (cM x)) fun k => if k = true then b else pureM x
def orV (a b : DE) : DE := bindM a fun x => bindM (truM (cM x)) fun k => if k = true then pureM x else b
def notT (a : DM Bool) : DM Bool := bindM a fun b => pureM (!b)
def andT (a b : DM Bool) : DM Bool := bindM a fun k => if k = true then b else pureM false
def orT (a b : DM Bool) : DM Bool := bindM a fun k => if k = true then pureM true else b
def ifM (c : DM Bool) (a b : DE) : DE := bindM c fun k => if k = true then a else b
/-- a test that a value's own bool makes -/
def blM (a : DE) : DM Bool := bindM a fun x => fun _ s => match x with
  | .bl b => .ok b s
  | _ => .bad
def ltD (g : Int → Int → Bool) (h : List Nat → List Nat → Bool) (x y : D) (s : Sto) : Res D := match x with
  | .int i => (match y with
    | .int j => .ok (.bl (g i j)) s
    | _ => .bad)
  | .str i => (match y with
    | .str j => .ok (.bl (h i.cps.toList j.cps.toList)) s
    | _ => .bad)
  | _ => .bad
abbrev ltI : D → D → Sto → Res D := ltD (fun i j => decide (i < j)) (fun i j => decide (i < j))
abbrev leI : D → D → Sto → Res D := ltD (fun i j => decide (i ≤ j)) (fun i j => !decide (j < i))
abbrev gtI : D → D → Sto → Res D := ltD (fun i j => decide (j < i)) (fun i j => decide (j < i))
abbrev geI : D → D → Sto → Res D := ltD (fun i j => decide (j ≤ i)) (fun i j => !decide (i < j))
def isNotNoneD (x y : D) (s : Sto) : Res D := match y with
  | .non => (match x with
    | .non => .ok (.bl false) s
    | _ => .ok (.bl true) s)
  | _ => .bad
/-! ### soundness -/
section
variable {K : Frag} {w : Wd} {s : Sto} {x : V} {d : D}
theorem lstX_ok {l : List D} (st : StR K w s) (r : Rep K w x d) (h : lstX s d = some l) : ∃ p vs, x = .ref p ∧ w.H p = some (.lst vs) ∧ Reps K w vs l := by
  cases r with
  | lst z hh rs =>
    cases h
    exact ⟨_, _, rfl, hh, rs⟩
  | @cel n a0 ha =>
    have h' : (match s[n]? with
      | some (some (.lst l)) => some l
      | _ => none) = some l := h
    cases e : s[n]? with
    | none => rw [e] at h'; cases h'
    | some o =>
      rw [e] at h'
      cases o with
      | none => cases h'
      | some c =>
        cases c with
        | lst l1 =>
          cases h'
          obtain ⟨a1, h1, _, vs, hh, rs⟩ := st.at_ n _ e
          have ea : a1 = a0 := Option.some.inj (h1.symm.trans ha)
          subst ea
          exact ⟨_, vs, rfl, hh, rs⟩
        | _ => cases h'
  | _ => cases h
theorem lstOf_ok {l : List D} (st : StR K w s) (r : Rep K w x d) (h : lstOf s d = some l) : ∃ p vs, x = .ref p ∧ SqL K w.H p vs ∧ Reps K w vs l := by
  have key : lstX s d = some l → ∃ p vs, x = .ref p ∧ SqL K w.H p vs ∧ Reps K w vs l := fun h => by
    obtain ⟨p, vs, h1, h2, h3⟩ := lstX_ok st r h
    exact ⟨p, vs, h1, SqL.of h2, h3⟩
  cases d with
  | rol l1 =>
    cases h
    cases r with
    | rol hh rs => exact ⟨_, _, rfl, hh.sq, rs⟩
  | _ => exact key h
theorem dctOf_ok {m : List (Key × D)} (st : StR K w s) (r : Rep K w x d) (h : dctOf s d = some m) : ∃ p l, x = .ref p ∧ Rd w.H p (.dK l) ∧ KVR K w l m := by
  cases d with
  | dct m1 =>
    cases h
    obtain ⟨a, o, l, rfl, _, h1, h2⟩ := r.dct_inv
    exact ⟨a, l, rfl, .inr ⟨o, h1⟩, h2⟩
  | cel n =>
    have h' : (match s[n]? with
      | some (some (.dct l)) => some l
      | some (some (.rod l)) => some l
      | _ => none) = some m := h
    cases r with
    | cel ha =>
      cases e : s[n]? with
      | none => rw [e] at h'; cases h'
      | some o =>
        rw [e] at h'
        cases o with
        | none => cases h'
        | some c =>
          cases c with
          | dct l1 =>
            cases h'
            obtain ⟨a1, h1, _, l, hh, rs⟩ := st.at_ n _ e
            have ea := Option.some.inj (h1.symm.trans ha)
            subst ea
            exact ⟨_, l, rfl, .inl hh, rs⟩
          | rod l1 =>
            cases h'
            obtain ⟨a1, h1, _, o, l, _, hh, rs⟩ := st.at_ n _ e
            have ea := Option.some.inj (h1.symm.trans ha)
            subst ea
            exact ⟨_, l, rfl, .inr ⟨o, hh⟩, rs⟩
          | _ => cases h'
  | _ => cases h
theorem insOf_ok {C : Str} {m : List (Str × D)} (st : StR K w s) (r : Rep K w x d) (h : insOf s d = some (C, m)) : ∃ p dx l, x = .ref p ∧ w.H p = some (.ins (He.ga K C) dx l) ∧ KVR K w l m := by
  cases d with
  | ins C1 m1 =>
    cases h
    obtain ⟨a, dx, l, rfl, _, h1, h2⟩ := r.ins_inv
    exact ⟨a, dx, l, rfl, h1, h2⟩
  | cel n =>
    have h' : (match s[n]? with
      | some (some (.ins C l)) => some (C, l)
      | _ => none) = some (C, m) := h
    cases r with
    | cel ha =>
      cases e : s[n]? with
      | none => rw [e] at h'; cases h'
      | some o =>
        rw [e] at h'
        cases o with
        | none => cases h'
        | some c =>
          cases c with
          | ins C1 l1 =>
            cases h'
            obtain ⟨a1, h1, _, dx, l, hh, rs⟩ := st.at_ n _ e
            have ea := Option.some.inj (h1.symm.trans ha)
            subst ea
            exact ⟨_, dx, l, rfl, hh, rs⟩
          | _ => cases h'
  | _ => cases h
end
section
variable {X : Cx} {W : WX} {a b c : Expr} {pos : Pos} {ma mb mc : DE}
theorem e_var {i : Nat} {x : Str} (hN : X.N[i]? = some x) (hv : Vis X.env.scope x) (hd : (x == ("__debug__" : Str)) = false) (hcd : (x == ("__classdict__" : Str)) = false) : PE X (.Name x pos) (tE X.K W (vM i)) :=
  PE.imp (pe_var hN hv hd hcd) fun t H Q h => by
    obtain ⟨r, s, w, rfl, env, st, hp⟩ := h
    unfold vM at hp
    cases e : r[i]? with
    | none =>
      rw [e] at hp
      exact hp.elim
    | some o =>
      cases o with
      | none =>
        rw [e] at hp
        exact hp.elim
      | some d =>
        rw [e] at hp
        obtain ⟨v, h1, h2⟩ := env.2 i d e
        exact ⟨v, h1, hp.pure st h2⟩
theorem ev (i : Nat) {x : Str} (hN : X.N[i]? = some x := by rfl) (hv : Vis X.env.scope x := by first | exact Or.inl rfl | exact Or.inr (Or.inl rfl) | exact Or.inr (Or.inr rfl)) (hd : (x == ("__debug__" : Str)) = false := by decide)
    (hcd : (x == ("__classdict__" : Str)) = false := by decide) : PE X (.Name x pos) (tE X.K W (vM i)) := e_var hN hv hd hcd
theorem e_c {e : Expr} {v : V} {d : D} (h : PE X e (tC v)) (hr : ∀ w, Rep X.K w v d) : PE X e (tE X.K W (cM d)) := PE.imp h fun t H Q h => by
  obtain ⟨r, s, w, rfl, env, st, hp⟩ := h
  exact hp.pure st (hr w)
theorem e_int {i : Int} {j : Nat} : PE X (.Constant (.int i) j pos) (tE X.K W (cM (.int i))) := e_c pe_int fun _ => .int i
theorem e_bl {i : Bool} {j : Nat} : PE X (.Constant (.bool i) j pos) (tE X.K W (cM (.bl i))) := e_c pe_bl fun _ => .bl i
theorem e_non {j : Nat} : PE X (.Constant .none j pos) (tE X.K W (cM .non)) := e_c pe_non fun _ => .non
theorem e_str {z : Str} {j : Nat} : PE X (.Constant (.str z) j pos) (tE X.K W (cM (.str z))) := e_c pe_str fun _ => .str z
theorem e_gint {x : Str} {i : Int} (hg : Gl X x) (hm : ∃ t, X.mg x = some (.int i t)) (hd : (x == ("__debug__" : Str)) = false := by decide) : PE X (.Name x pos) (tE X.K W (cM (.int i))) := by
  obtain ⟨t, hm⟩ := hm
  exact e_c (pe_glob (v := .int i) hg hm ⟨_, rfl⟩ hd) fun _ => .int i
theorem e_gstr {x z : Str} (hg : Gl X x) (hm : ∃ t, X.mg x = some (.str z t)) (hd : (x == ("__debug__" : Str)) = false := by decide) : PE X (.Name x pos) (tE X.K W (cM (.str z))) := by
  obtain ⟨t, hm⟩ := hm
  exact e_c (pe_glob (v := .str z) hg hm ⟨_, rfl⟩ hd) fun _ => .str z
/-- a built-in class as a value -/
theorem e_ty {x : Str} {n : String} (hg : Gl X x) (hm : X.mg x = none) (hv : bootBuiltins x = some (.type n)) (hn : x ≠ "__name__" := by decide) (hd : (x == ("__debug__" : Str)) = false := by decide) : PE X (.Name x pos) (tE X.K W (cM (.ty n))) :=
  e_c (pe_bltn (v := .ty n) hg hm hv rfl hn hd) fun _ => .ty n
/-- what an operation on values asks, from what the data's operation gives -/
def VR2 (K : Frag) (r : R2) (f : D → D → Sto → Res D) : Prop := ∀ w s x y a b Q E, StR K w s → Rep K w x a → Rep K w y b → Post K (Rep K) w E Q (f a b s) → r x y w.H Q
theorem e_bin {op : Operator} {f : D → D → Sto → Res D} {r : R2} (ho : OpR X (binaryOp op) r) (hv : VR2 X.K r f) (ha : PE X a (tE X.K W ma)) (hb : PE X b (tE X.K W mb)) : PE X (.BinOp a op b pos) (tE X.K W (binM f ma mb)) :=
  PE.imp (pe_op ho ha hb) fun t H Q h => by
    obtain ⟨r, s, w, rfl, env, st, hp⟩ := h
    exact hp.bind env st fun x d s1 w1 e1 st1 r1 hp1 => hp1.bind (env.ext e1) st1 fun y d2 s2 w2 e2 st2 r2 hp2 => hv w2 s2 x y d d2 Q _ st2 (r1.ext e2) r2 hp2
theorem e_cmp {op : CmpOp} {f : D → D → Sto → Res D} {r : R2} (ho : OpR X (compareOp op) r) (hv : VR2 X.K r f) (ha : PE X a (tE X.K W ma)) (hb : PE X b (tE X.K W mb)) (hm : behindInMarks op b = false) : PE X (.Compare a [op] [b] pos) (tE X.K W (binM f ma mb)) :=
  PE.imp (pe_cmpR ho ha hb hm) fun t H Q h => by
    obtain ⟨r, s, w, rfl, env, st, hp⟩ := h
    exact hp.bind env st fun x d s1 w1 e1 st1 r1 hp1 => hp1.bind (env.ext e1) st1 fun y d2 s2 w2 e2 st2 r2 hp2 => hv w2 s2 x y d d2 Q _ st2 (r1.ext e2) r2 hp2
/-- the value of a comparison is a bool -/
theorem Post.toBl {K : Frag} {w : Wd} {E : XK} {Q : Bool → Hp → Prop} {x : D} {s : Sto} (hp : Post K (fun _ (b c : Bool) => b = c) w E Q (match x with | .bl b => .ok b s | _ => .bad)) : Post K (Rep K) w E (fun v H' => ∃ k, v = V.bl k ∧ Q k H') (.ok x s) := fun v w' e st r => by
  cases r with
  | bl b => exact ⟨b, rfl, hp b w' e st rfl⟩
  | _ => exact hp.elim
theorem bind_assoc {T U Z : Type} (m : DM T) (f : T → DM U) (g : U → DM Z) : bindM (bindM m f) g = bindM m fun x => bindM (f x) g := by
  funext r s
  unfold bindM
  cases m r s <;> rfl
theorem t_cmp {op : CmpOp} {f : D → D → Sto → Res D} {r : R2} (ho : OpR X (compareOp op) r) (hv : VR2 X.K r f) (ha : PE X a (tE X.K W ma)) (hb : PE X b (tE X.K W mb)) (hm : behindInMarks op b = false) : PT X (.Compare a [op] [b] pos) (tT X.K W (blM (binM f ma mb))) :=
  PT.imp (pt_cmpR ho ha hb hm) fun t H Q h => by
    obtain ⟨r, s, w, rfl, env, st, hp⟩ := h
    have hp' : Post X.K (fun _ (b c : Bool) => b = c) w (fun c d H' => W c d t H') Q (bindM ma (fun x => bindM mb fun y => bindM (fun _ s => f x y s) fun z => fun _ s => match z with | .bl b => .ok b s | _ => .bad) r s) := by
      have e : blM (binM f ma mb) = bindM ma (fun x => bindM mb fun y => bindM (fun _ s => f x y s) fun z => fun _ s => match z with | .bl b => .ok b s | _ => .bad) := by
        unfold blM binM
        rw [bind_assoc]
        congr 1
        funext x
        rw [bind_assoc]
      rw [← e]
      exact hp
    exact hp'.bind env st fun x d s1 w1 e1 st1 r1 hp1 => hp1.bind (env.ext e1) st1 fun y d2 s2 w2 e2 st2 r2 hp2 => hv w2 s2 x y d d2 _ (fun c d H' => W c d t H') st2 (r1.ext e2) r2 (by
      unfold bindM at hp2
      dsimp only at hp2
      cases e : f d d2 s2 with
      | ok z s3 =>
        rw [e] at hp2
        exact Post.toBl hp2
      | exc C fs s3 =>
        rw [e] at hp2
        exact hp2
      | bad =>
        rw [e] at hp2
        exact hp2)
theorem tru_ok {w : Wd} {s : Sto} {x : V} {d : D} {k : Bool} (st : StR X.K w s) (r : Rep X.K w x d) (h : truD s d = some k) : TruV X.K x w.H k := by
  have seq : (lstOf s d).map (fun l => !l.isEmpty) = some k → TruV X.K x w.H k := fun h => by
    cases e : lstOf s d with
    | none => rw [e] at h; cases h
    | some l =>
      rw [e] at h
      obtain ⟨p, vs, rfl, hs, rs⟩ := lstOf_ok st r e
      refine .inl ⟨vs, hs, ?_⟩
      rw [← Option.some.inj h]
      cases rs <;> rfl
  cases d with
  | non =>
    cases r
    exact (Option.some.inj h).symm
  | bl b =>
    cases r
    exact (Option.some.inj h).symm
  | int i =>
    cases r
    exact (Option.some.inj h).symm
  | str z =>
    cases r
    have h' : (if z.length ≤ sizeLine then some ((z.length : Int) != 0) else none) = some k := h
    by_cases hl : z.length ≤ sizeLine
    · rw [if_pos hl] at h'
      exact ⟨hl, (Option.some.inj h').symm⟩
    · rw [if_neg hl] at h'
      cases h'
  | tup l =>
    cases r with
    | tup hh rs =>
      refine .inr (.inl ⟨_, hh.sq, ?_⟩)
      rw [← Option.some.inj h]
      cases rs <;> rfl
  | _ => exact seq h
theorem truM_bind {w : Wd} {r : En} {s : Sto} {t : L2.St} {d : D} {x : V} {T U : Type} {R : Wd → U → T → Prop} {E : XK} {Q : U → Hp → Prop} {f : Bool → DM T} (st : StR X.K w s) (hr : Rep X.K w x d) (hp : Post X.K R w E Q (bindM (truM (cM d)) f r s)) :
    ∃ k, TruV X.K x w.H k ∧ Post X.K R w E Q (f k r s) := by
  unfold truM bindM cM at hp
  dsimp only at hp
  cases e : truD s d with
  | none =>
    rw [e] at hp
    exact hp.elim
  | some k =>
    rw [e] at hp
    exact ⟨k, tru_ok st hr e, hp⟩
theorem t_truth (ha : PE X a (tE X.K W ma)) (he : ∀ whole, isTrue a X.env whole = (do let v ← whole; standAt a.pos; holding [v] (truthy v)) := by intro _; rfl) : PT X a (tT X.K W (truM ma)) :=
  PT.imp (pt_truth ha he) fun t H Q h => by
    obtain ⟨r, s, w, rfl, env, st, hp⟩ := h
    exact hp.bind env st fun x d s1 w1 e1 st1 r1 hp1 => by
      cases e : truD s1 d with
      | none =>
        rw [e] at hp1
        exact hp1.elim
      | some k =>
        rw [e] at hp1
        exact ⟨k, tru_ok st1 r1 e, hp1 k w1 (Ext.refl w1) st1 rfl⟩
theorem t_not {mt : DM Bool} (ha : PT X a (tT X.K W mt)) : PT X (.UnaryOp .Not a pos) (tT X.K W (notT mt)) := PT.imp (pt_not ha) fun t H Q h => by
  obtain ⟨r, s, w, rfl, env, st, hp⟩ := h
  exact hp.bind env st fun x d s1 w1 e1 st1 r1 hp1 => by
    subst r1
    exact hp1 _ w1 (Ext.refl w1) st1 rfl
theorem w_and1 {mt : DM Bool} (ha : PT X a (tT X.K W mt)) : PW X (.BoolOp .And [a] pos) (tT X.K W mt) := pw_and1 ha
theorem w_or1 {mt : DM Bool} (ha : PT X a (tT X.K W mt)) : PW X (.BoolOp .Or [a] pos) (tT X.K W mt) := pw_or1 ha
theorem PW.imp {e : Expr} {t t' : TT} (h : PW X e t) (i : ∀ σ H Q, t' σ H Q → t σ H Q) : PW X e t' := ⟨fun whole pins s σ H Q I q => h.run whole pins s σ H Q I (i _ _ _ q)⟩
theorem w_and {rest : List Expr} {mt mu : DM Bool} (ha : PT X a (tT X.K W mt)) (hb : PW X (.BoolOp .And (b :: rest) pos) (tT X.K W mu)) : PW X (.BoolOp .And (a :: b :: rest) pos) (tT X.K W (andT mt mu)) := PW.imp (pw_and ha hb) fun t H Q h => by
  obtain ⟨r, s, w, rfl, env, st, hp⟩ := h
  exact hp.bind env st fun x d s1 w1 e1 st1 r1 hp1 => by
    subst r1
    cases x with
    | true => exact ⟨r, s1, w1, rfl, env.ext e1, st1, hp1⟩
    | false => exact hp1 _ w1 (Ext.refl w1) st1 rfl
theorem w_or {rest : List Expr} {mt mu : DM Bool} (ha : PT X a (tT X.K W mt)) (hb : PW X (.BoolOp .Or (b :: rest) pos) (tT X.K W mu)) : PW X (.BoolOp .Or (a :: b :: rest) pos) (tT X.K W (orT mt mu)) := PW.imp (pw_or ha hb) fun t H Q h => by
  obtain ⟨r, s, w, rfl, env, st, hp⟩ := h
  exact hp.bind env st fun x d s1 w1 e1 st1 r1 hp1 => by
    subst r1
    cases x with
    | true => exact hp1 _ w1 (Ext.refl w1) st1 rfl
    | false => exact ⟨r, s1, w1, rfl, env.ext e1, st1, hp1⟩
theorem e_not (ha : PE X a (tE X.K W ma)) : PE X (.UnaryOp .Not a pos) (tE X.K W (notV ma)) := PE.imp (pe_notT ha) fun t H Q h => by
  obtain ⟨r, s, w, rfl, env, st, hp⟩ := h
  have e : notV ma = bindM ma fun x => bindM (truM (cM x)) fun b => pureM (.bl (!b)) := by
    unfold notV truM
    rw [bind_assoc]
    rfl
  rw [e] at hp
  exact hp.bind env st fun x d s1 w1 e1 st1 r1 hp1 => by
    obtain ⟨k, h1, h2⟩ := truM_bind (t := t) st1 r1 hp1
    exact ⟨k, h1, h2.pure st1 (.bl _)⟩
theorem e_one {op : BoolOp} (ha : PE X a (tE X.K W ma)) : PE X (.BoolOp op [a] pos) (tE X.K W ma) := pe_one ha
theorem e_and {rest : List Expr} (ha : PE X a (tE X.K W ma)) (hb : PE X (.BoolOp .And (b :: rest) pos) (tE X.K W mb)) : PE X (.BoolOp .And (a :: b :: rest) pos) (tE X.K W (andV ma mb)) := PE.imp (pe_andT ha hb) fun t H Q h => by
  obtain ⟨r, s, w, rfl, env, st, hp⟩ := h
  exact hp.bind env st fun x d s1 w1 e1 st1 r1 hp1 => by
    obtain ⟨k, h1, h2⟩ := truM_bind (t := t) st1 r1 hp1
    refine ⟨k, h1, ?_⟩
    cases k with
    | true => exact ⟨r, s1, w1, rfl, env.ext e1, st1, h2⟩
    | false => exact h2.pure st1 r1
theorem e_if {mt : DM Bool} (hc : PT X c (tT X.K W mt)) (ha : PE X a (tE X.K W ma)) (hb : PE X b (tE X.K W mb)) : PE X (.IfExp c a b pos) (tE X.K W (ifM mt ma mb)) := PE.imp (pe_ifExp hc ha hb) fun t H Q h => by
  obtain ⟨r, s, w, rfl, env, st, hp⟩ := h
  exact hp.bind env st fun x d s1 w1 e1 st1 r1 hp1 => by
    subst r1
    cases x with
    | true => exact ⟨r, s1, w1, rfl, env.ext e1, st1, hp1⟩
    | false => exact ⟨r, s1, w1, rfl, env.ext e1, st1, hp1⟩
end
end Mp
set_option Elab.async false
set_option linter.all false
set_option maxRecDepth 100000
set_option maxHeartbeats 4000000
/-! Mp: operators on data. -/
namespace Mp
open PySem PySem.Spec PyProof.Rows L2
section
variable {X : Cx} {W : WX} {a b c : Expr} {pos : Pos} {ma mb mc : DE}
/-- a new frozen object -/
theorem Post.frz {K : Frag} {w : Wd} {s : Sto} {E : XK} {Q : VK} {d : D} (hp : Post K (Rep K) w E Q (.ok d s)) (st : StR K w s) {o : HO} (h : ∀ p, w.H p = none → Rep K (w.frz p o) (.ref p) d) : ∀ p, w.H p = none → Q (.ref p) (upd w.H p o) :=
  fun p np => hp (.ref p) (w.frz p o) (Wd.frz_ext st np) (Wd.frz_st st np) (h p np)
theorem rep_newL {K : Frag} {w : Wd} {s : Sto} (st : StR K w s) {vs : List V} {ds : List D} (r : Reps K w vs ds) {p : Addr} (np : w.H p = none) : Rep K (w.frz p (.lst vs)) (.ref p) (.lst ds) :=
  .lst Wd.frz_z Wd.frz_h (r.ext (Wd.frz_ext st np))
theorem rep_newT {K : Frag} {w : Wd} {s : Sto} (st : StR K w s) {vs : List V} {ds : List D} (r : Reps K w vs ds) {p : Addr} (np : w.H p = none) : Rep K (w.frz p (.tup vs)) (.ref p) (.tup ds) :=
  .tup (.inl ⟨Wd.frz_z, .inl Wd.frz_h⟩) (r.ext (Wd.frz_ext st np))
theorem v_add : VR2 X.K (fun x y H Q => (rI0 fun i j => .int (i + j)) x y H Q ∨ (∃ i j, x = .str i ∧ y = .str j ∧ i.length + j.length ≤ sizeLine ∧ Q (.str (i ++ j)) H) ∨ rCat x y H Q ∨ rCatA X.K x y H Q) addD := fun w s x y d e Q E st rx ry hp => by
  unfold addD at hp
  cases d with
  | int i =>
    cases rx
    cases ry with
    | int j => exact .inl ⟨i, j, rfl, rfl, hp.pure st (.int _)⟩
    | _ => exact hp.elim
  | str i =>
    cases rx
    cases ry with
    | str j =>
      dsimp only at hp
      split at hp
      · exact .inr (.inl ⟨i, j, rfl, rfl, by assumption, hp.pure st (.str _)⟩)
      · exact hp.elim
    | _ => exact hp.elim
  | tup l1 =>
    cases rx with | tup h1 r1 =>
    cases ry with
    | tup h2 r2 =>
      dsimp only at hp
      split at hp
      · rename_i hl
        rw [← r1.length, ← r2.length] at hl
        refine .inr (.inr (.inr ⟨_, _, _, _, rfl, rfl, h1.sq, h2.sq, hl, fun e => ?_, fun e0 e => ?_, fun e1 e2 => ?_⟩))
        · subst e
          cases r1
          exact hp.pure st (.tup h2 r2)
        · subst e
          cases r2
          exact hp.pure st (by rw [List.append_nil]; exact .tup h1 r1)
        · exact hp.frz st fun p np => rep_newT st (r1.append r2) np
      · exact hp.elim
    | _ => exact hp.elim
  | _ =>
    dsimp only at hp
    split at hp
    · rename_i e1
      split at hp
      · rename_i e2
        split at hp
        · rename_i hl
          obtain ⟨p1, v1, rfl, h1, r1⟩ := lstX_ok st rx e1
          obtain ⟨p2, v2, rfl, h2, r2⟩ := lstX_ok st ry e2
          rw [← r1.length, ← r2.length] at hl
          exact .inr (.inr (.inl ⟨_, _, _, _, rfl, rfl, h1, h2, hl, hp.frz st fun p np => rep_newL st (r1.append r2) np⟩))
        · exact hp.elim
      · exact hp.elim
    · exact hp.elim
theorem e_add (ha : PE X a (tE X.K W ma)) (hb : PE X b (tE X.K W mb)) : PE X (.BinOp a .Add b pos) (tE X.K W (binM addD ma mb)) := e_bin (OpR.or op_add (OpR.or op_add_str (OpR.or op_cat op_catA))) v_add ha hb
theorem v_sub : VR2 X.K (rI0 fun i j => .int (i - j)) subD := fun w s x y d e Q E st rx ry hp => by
  unfold subD at hp
  cases rx with
  | int i =>
    cases ry with
    | int j => exact ⟨i, j, rfl, rfl, hp.pure st (.int _)⟩
    | _ => exact hp.elim
  | _ => exact hp.elim
theorem e_sub (ha : PE X a (tE X.K W ma)) (hb : PE X b (tE X.K W mb)) : PE X (.BinOp a .Sub b pos) (tE X.K W (binM subD ma mb)) := e_bin op_sub v_sub ha hb
theorem reps_rep {K : Frag} {w : Wd} {vs : List V} {ds : List D} (r : Reps K w vs ds) : ∀ n : Nat, Reps K w (List.replicate n vs).flatten (List.replicate n ds).flatten
  | 0 => .nil
  | n + 1 => by
    rw [List.replicate_succ, List.replicate_succ, List.flatten_cons, List.flatten_cons]
    exact r.append (reps_rep r n)
theorem v_mul : VR2 X.K (fun x y H Q => (rI CMulW fun i j => .int (i * j)) x y H Q ∨ rRep x y H Q) mulD := fun w s x y d e Q E st rx ry hp => by
  unfold mulD at hp
  cases d with
  | int i =>
    cases rx
    cases ry with
    | int j =>
      dsimp only at hp
      split at hp
      · rename_i hc
        exact .inl ⟨i, j, rfl, rfl, of_decide_eq_true (p := i.natAbs.log2 + j.natAbs.log2 < 1000000) hc, hp.pure st (.int _)⟩
      · exact hp.elim
    | _ => exact hp.elim
  | _ =>
    dsimp only at hp
    split at hp
    · exact hp.elim
    · rename_i e1
      obtain ⟨p1, v1, rfl, h1, r1⟩ := lstX_ok st rx e1
      cases ry with
      | int k =>
        dsimp only at hp
        split at hp
        · rename_i hc
          rw [← r1.length] at hc
          exact .inr ⟨_, k, _, rfl, rfl, h1, by omega, by omega, hc.2.2, hp.frz st fun p np => rep_newL st (reps_rep r1 _) np⟩
        · exact hp.elim
      | _ => exact hp.elim
theorem e_mul (ha : PE X a (tE X.K W ma)) (hb : PE X b (tE X.K W mb)) : PE X (.BinOp a .Mult b pos) (tE X.K W (binM mulD ma mb)) := e_bin (OpR.or op_mulW op_rep) v_mul ha hb
def CDivX (_ j : Int) : Prop := j ≠ 0 ∧ j.natAbs.log2 < 9000
theorem op_fdivX : OpR X (binaryOp .FloorDiv) (rI CDivX fun i j => .int (i.fdiv j)) := opI fun _ _ _ _ _ _ _ hc q => floordiv_int hc.1 q (.inl (PyProof.noPylong_of_log2 hc.2))
theorem v_div : VR2 X.K (fun x y H Q => (rI CDivW fun i j => .int (i / j)) x y H Q ∨ (rI CDivX fun i j => .int (i.fdiv j)) x y H Q) divD := fun w s x y d e Q E st rx ry hp => by
  unfold divD at hp
  cases rx with
  | int i =>
    cases ry with
    | int j =>
      dsimp only at hp
      split at hp
      · rename_i hc
        exact .inl ⟨i, j, rfl, rfl, hc, hp.pure st (.int _)⟩
      · split at hp
        · rename_i hc
          exact .inr ⟨i, j, rfl, rfl, ⟨by omega, hc.2⟩, hp.pure st (.int _)⟩
        · exact hp.elim
    | _ => exact hp.elim
  | _ => exact hp.elim
theorem e_div (ha : PE X a (tE X.K W ma)) (hb : PE X b (tE X.K W mb)) : PE X (.BinOp a .FloorDiv b pos) (tE X.K W (binM divD ma mb)) := e_bin (OpR.or op_fdivW op_fdivX) v_div ha hb
theorem v_mod : VR2 X.K (fun x y H Q => (rI (fun _ j => 0 < j) fun i j => .int (i % j)) x y H Q ∨ (rI (fun _ j => j ≠ 0) fun i j => .int (i.fmod j)) x y H Q) modD := fun w s x y d e Q E st rx ry hp => by
  unfold modD at hp
  cases rx with
  | int i =>
    cases ry with
    | int j =>
      dsimp only at hp
      split at hp
      · rename_i hc
        exact .inl ⟨i, j, rfl, rfl, hc, hp.pure st (.int _)⟩
      · split at hp
        · rename_i hc
          exact .inr ⟨i, j, rfl, rfl, (by omega), hp.pure st (.int _)⟩
        · exact hp.elim
    | _ => exact hp.elim
  | _ => exact hp.elim
theorem e_mod (ha : PE X a (tE X.K W ma)) (hb : PE X b (tE X.K W mb)) : PE X (.BinOp a .Mod b pos) (tE X.K W (binM modD ma mb)) := e_bin (OpR.or op_mod op_modN) v_mod ha hb
theorem v_pow : VR2 X.K (rI CPow fun i j => .int (i ^ j.toNat)) powD := fun w s x y d e Q E st rx ry hp => by
  unfold powD at hp
  cases rx with
  | int i =>
    cases ry with
    | int j =>
      dsimp only at hp
      split at hp
      · rename_i hc
        exact ⟨i, j, rfl, rfl, hc, hp.pure st (.int _)⟩
      · exact hp.elim
    | _ => exact hp.elim
  | _ => exact hp.elim
theorem e_pow (ha : PE X a (tE X.K W ma)) (hb : PE X b (tE X.K W mb)) : PE X (.BinOp a .Pow b pos) (tE X.K W (binM powD ma mb)) := e_bin op_pow v_pow ha hb
theorem e_neg (ha : PE X a (tE X.K W ma)) : PE X (.UnaryOp .USub a pos) (tE X.K W (unM negD ma)) := PE.imp (pe_un un_neg ha) fun t H Q h => by
  obtain ⟨r, s, w, rfl, env, st, hp⟩ := h
  exact hp.bind env st fun x d s1 w1 e1 st1 r1 hp1 => by
    unfold negD at hp1
    cases r1 with
    | int i => exact ⟨i, rfl, hp1.pure st1 (.int _)⟩
    | _ => exact hp1.elim
/-! ### order -/
theorem v_ord {g : Int → Int → Bool} {k : List Nat → List Nat → Bool} : VR2 X.K (fun x y H Q => (rI0 fun i j => .bl (g i j)) x y H Q ∨ ∃ i j, x = .str i ∧ y = .str j ∧ Q (.bl (k i.cps.toList j.cps.toList)) H) (ltD g k) := fun w s x y d e Q E st rx ry hp => by
  unfold ltD at hp
  cases rx with
  | int i =>
    cases ry with
    | int j => exact .inl ⟨i, j, rfl, rfl, hp.pure st (.bl _)⟩
    | _ => exact hp.elim
  | str i =>
    cases ry with
    | str j => exact .inr ⟨i, j, rfl, rfl, hp.pure st (.bl _)⟩
    | _ => exact hp.elim
  | _ => exact hp.elim
theorem o_lt : OpR X (compareOp .Lt) (fun x y H Q => (rI0 fun i j => .bl (decide (i < j))) x y H Q ∨ ∃ i j, x = .str i ∧ y = .str j ∧ Q (.bl (decide (i.cps.toList < j.cps.toList))) H) := OpR.or op_lt op_lt_str
theorem o_le : OpR X (compareOp .LtE) (fun x y H Q => (rI0 fun i j => .bl (decide (i ≤ j))) x y H Q ∨ ∃ i j, x = .str i ∧ y = .str j ∧ Q (.bl (!decide (j.cps.toList < i.cps.toList))) H) := OpR.or op_le op_le_str
theorem o_gt : OpR X (compareOp .Gt) (fun x y H Q => (rI0 fun i j => .bl (decide (j < i))) x y H Q ∨ ∃ i j, x = .str i ∧ y = .str j ∧ Q (.bl (decide (j.cps.toList < i.cps.toList))) H) := OpR.or op_gt op_gt_str
theorem o_ge : OpR X (compareOp .GtE) (fun x y H Q => (rI0 fun i j => .bl (decide (j ≤ i))) x y H Q ∨ ∃ i j, x = .str i ∧ y = .str j ∧ Q (.bl (!decide (i.cps.toList < j.cps.toList))) H) := OpR.or op_ge op_ge_str
theorem e_lt (ha : PE X a (tE X.K W ma)) (hb : PE X b (tE X.K W mb)) : PE X (.Compare a [.Lt] [b] pos) (tE X.K W (binM ltI ma mb)) := e_cmp o_lt v_ord ha hb (nomark _)
theorem e_gt (ha : PE X a (tE X.K W ma)) (hb : PE X b (tE X.K W mb)) : PE X (.Compare a [.Gt] [b] pos) (tE X.K W (binM gtI ma mb)) := e_cmp o_gt v_ord ha hb (nomark _)
theorem e_ge (ha : PE X a (tE X.K W ma)) (hb : PE X b (tE X.K W mb)) : PE X (.Compare a [.GtE] [b] pos) (tE X.K W (binM geI ma mb)) := e_cmp o_ge v_ord ha hb (nomark _)
theorem t_lt (ha : PE X a (tE X.K W ma)) (hb : PE X b (tE X.K W mb)) : PT X (.Compare a [.Lt] [b] pos) (tT X.K W (blM (binM ltI ma mb))) := t_cmp o_lt v_ord ha hb (nomark _)
theorem t_le (ha : PE X a (tE X.K W ma)) (hb : PE X b (tE X.K W mb)) : PT X (.Compare a [.LtE] [b] pos) (tT X.K W (blM (binM leI ma mb))) := t_cmp o_le v_ord ha hb (nomark _)
theorem t_gt (ha : PE X a (tE X.K W ma)) (hb : PE X b (tE X.K W mb)) : PT X (.Compare a [.Gt] [b] pos) (tT X.K W (blM (binM gtI ma mb))) := t_cmp o_gt v_ord ha hb (nomark _)
theorem t_ge (ha : PE X a (tE X.K W ma)) (hb : PE X b (tE X.K W mb)) : PT X (.Compare a [.GtE] [b] pos) (tT X.K W (blM (binM geI ma mb))) := t_cmp o_ge v_ord ha hb (nomark _)
/-! ### None -/
theorem v_notN : VR2 X.K (fun x y H Q => y = .non ∧ Q (.bl (!decide (x = .non))) H) isNotNoneD := fun w s x y d e Q E st rx ry hp => by
  unfold isNotNoneD at hp
  cases ry with
  | non =>
    refine ⟨rfl, ?_⟩
    cases rx with
    | non => exact hp.pure st (.bl _)
    | _ => exact hp.pure st (by first | exact .bl _ | (rw [decide_eq_false (by intro z; cases z)]; exact .bl _))
  | _ => exact hp.elim
theorem t_notN (ha : PE X a (tE X.K W ma)) (hb : PE X b (tE X.K W mb)) : PT X (.Compare a [.IsNot] [b] pos) (tT X.K W (blM (binM isNotNoneD ma mb))) := t_cmp op_notN v_notN ha hb (nomark _)
end
/-! ### equality of plain data -/
mutual
def toPy : D → Option PyData
  | .non => some .none
  | .bl b => some (.bool b)
  | .int i => some (.int i)
  | .str z => some (.str z)
  | .tup l => (toPys l).map .tuple
  | .lst l => (toPys l).map .list
  | .rol l => (toPys l).map .list
  | .ty _ => none
  | .glo _ => none
  | .dct _ => none
  | .ins _ _ => none
  | .exn _ _ _ _ => none
  | .cel _ => none
  | .clo _ _ _ _ _ => none
def toPys : List D → Option (List PyData)
  | [] => some []
  | d :: r => (toPy d).bind fun x => (toPys r).map fun y => x :: y
end
mutual
theorem Rep.dp {K : Frag} {w : Wd} : ∀ {d : D} {v : V} {p : PyData}, Rep K w v d → toPy d = some p → Dp K w.H v p
  | .non, _, _, h, e => by
    cases h
    rw [toPy] at e
    cases e
    exact .non
  | .bl b, _, _, h, e => by
    cases h
    rw [toPy] at e
    cases e
    exact .bl b
  | .int i, _, _, h, e => by
    cases h
    rw [toPy] at e
    cases e
    exact .int i
  | .str z, _, _, h, e => by
    cases h
    rw [toPy] at e
    cases e
    exact .str z
  | .tup l, _, _, h, e => by
    cases h with
    | tup h1 r =>
      rw [toPy] at e
      cases q : toPys l with
      | none => rw [q] at e; cases e
      | some ps =>
        rw [q] at e
        cases e
        exact .tup h1.sq (Reps.dp r q)
  | .lst l, _, _, h, e => by
    cases h with
    | lst z h1 r =>
      rw [toPy] at e
      cases q : toPys l with
      | none => rw [q] at e; cases e
      | some ps =>
        rw [q] at e
        cases e
        exact .lst (SqL.of h1) (Reps.dp r q)
  | .rol l, _, _, h, e => by
    cases h with
    | rol h1 r =>
      rw [toPy] at e
      cases q : toPys l with
      | none => rw [q] at e; cases e
      | some ps =>
        rw [q] at e
        cases e
        exact .lst h1.sq (Reps.dp r q)
  | .ty _, _, _, _, e => by rw [toPy] at e; cases e
  | .glo _, _, _, _, e => by rw [toPy] at e; cases e
  | .dct _, _, _, _, e => by rw [toPy] at e; cases e
  | .ins _ _, _, _, _, e => by rw [toPy] at e; cases e
  | .exn _ _ _ _, _, _, _, e => by rw [toPy] at e; cases e
  | .cel _, _, _, _, e => by rw [toPy] at e; cases e
  | .clo _ _ _ _ _, _, _, _, e => by rw [toPy] at e; cases e
theorem Reps.dp {K : Frag} {w : Wd} : ∀ {ds : List D} {vs : List V} {ps : List PyData}, Reps K w vs ds → toPys ds = some ps → DpAll K w.H vs ps
  | [], _, _, h, e => by
    cases h
    rw [toPys] at e
    cases e
    exact .nil
  | d :: r, _, _, h, e => by
    cases h with
    | cons h1 h2 =>
      rw [toPys] at e
      cases q1 : toPy d with
      | none => rw [q1] at e; cases e
      | some p =>
        cases q2 : toPys r with
        | none => rw [q1, q2] at e; cases e
        | some ps =>
          rw [q1, q2] at e
          cases e
          exact .cons (Rep.dp h1 q1) (Reps.dp h2 q2)
end
def eqG0 (neg : Bool) (x y : D) (s : Sto) : Res D := match toPy x with
  | none => .bad
  | some p => match toPy y with
    | none => .bad
    | some q => if (SeqAt.shaped p && SeqAt.shaped q) = true then .ok (.bl (if neg then !PyData.eqv p q else PyData.eqv p q)) s else .bad
def eqG (neg : Bool) (x y : D) (s : Sto) : Res D := match x with
  | .int i => (match y with
    | .int j => .ok (.bl (if neg then !decide (i = j) else decide (i = j))) s
    | y => eqG0 neg (.int i) y s)
  | .str i => (match y with
    | .str j => .ok (.bl (if neg then !decide (i = j) else decide (i = j))) s
    | y => eqG0 neg (.str i) y s)
  | .cel n => (match s[n]? with
    | some (some (.lst l)) => eqG0 neg (.lst l) y s
    | _ => .bad)
  | x => eqG0 neg x y s
abbrev eqD : D → D → Sto → Res D := eqG false
abbrev neD : D → D → Sto → Res D := eqG true
section
variable {X : Cx} {W : WX} {a b c : Expr} {pos : Pos} {ma mb mc : DE}
theorem v_eqG0 {neg : Bool} : VR2 X.K (fun x y H Q => ∃ d e, Dp X.K H x d ∧ Dp X.K H y e ∧ SeqAt.shaped d = true ∧ SeqAt.shaped e = true ∧ Q (.bl (if neg then !PyData.eqv d e else PyData.eqv d e)) H) (eqG0 neg) := fun w s x y d e Q E st rx ry hp => by
  unfold eqG0 at hp
  cases e1 : toPy d with
  | none => rw [e1] at hp; exact hp.elim
  | some p =>
    rw [e1] at hp
    dsimp only at hp
    cases e2 : toPy e with
    | none => rw [e2] at hp; exact hp.elim
    | some q =>
      rw [e2] at hp
      dsimp only at hp
      split at hp
      · rename_i hs
        obtain ⟨h1, h2⟩ := Bool.and_eq_true_iff.mp hs
        exact ⟨p, q, Rep.dp rx e1, Rep.dp ry e2, h1, h2, hp.pure st (.bl _)⟩
      · exact hp.elim
theorem v_eqG {neg : Bool} : VR2 X.K (fun x y H Q => (scal x y = true ∧ Q (.bl (if neg then !decide (x = y) else decide (x = y))) H) ∨ ∃ d e, Dp X.K H x d ∧ Dp X.K H y e ∧ SeqAt.shaped d = true ∧ SeqAt.shaped e = true ∧ Q (.bl (if neg then !PyData.eqv d e else PyData.eqv d e)) H) (eqG neg) := fun w s x y d e Q E st rx ry hp => by
  have key : Post X.K (Rep X.K) w E Q (eqG0 neg d e s) → _ := fun h => v_eqG0 w s x y d e Q E st rx ry h
  unfold eqG at hp
  cases d with
  | int i =>
    cases e with
    | int j =>
      cases rx
      cases ry
      refine .inl ⟨rfl, ?_⟩
      rw [show decide (V.int i = V.int j) = decide (i = j) from decide_eq_decide.mpr ⟨fun z => by cases z; rfl, fun z => by rw [z]⟩]
      exact hp.pure st (.bl _)
    | _ => exact .inr (key hp)
  | str i =>
    cases e with
    | str j =>
      cases rx
      cases ry
      refine .inl ⟨rfl, ?_⟩
      rw [show decide (V.str i = V.str j) = decide (i = j) from decide_eq_decide.mpr ⟨fun z => by cases z; rfl, fun z => by rw [z]⟩]
      exact hp.pure st (.bl _)
    | _ => exact .inr (key hp)
  | cel n =>
    dsimp only at hp
    split at hp
    · rename_i _ l el
      cases rx with
      | @cel _ a0 hA =>
        obtain ⟨a1, h1, _, vs, hh, rs⟩ := st.at_ n _ el
        have ea : a1 = a0 := Option.some.inj (h1.symm.trans hA)
        subst ea
        unfold eqG0 at hp
        cases e1 : toPys l with
        | none => rw [toPy, e1] at hp; exact hp.elim
        | some ps =>
          rw [toPy, e1] at hp
          dsimp only [Option.map] at hp
          cases e2 : toPy e with
          | none => rw [e2] at hp; exact hp.elim
          | some q =>
            rw [e2] at hp
            dsimp only at hp
            split at hp
            · rename_i hs
              obtain ⟨k1, k2⟩ := Bool.and_eq_true_iff.mp hs
              exact .inr ⟨.list ps, q, .lst (SqL.of hh) (Reps.dp rs e1), Rep.dp ry e2, k1, k2, hp.pure st (.bl _)⟩
            · exact hp.elim
    · exact hp.elim
  | _ => exact .inr (key hp)
theorem e_eq (hu : X.A.units + 64 < cLine) (ha : PE X a (tE X.K W ma)) (hb : PE X b (tE X.K W mb)) : PE X (.Compare a [.Eq] [b] pos) (tE X.K W (binM eqD ma mb)) := e_cmp (OpR.or op_eq (op_eqD hu)) v_eqG ha hb (nomark _)
theorem t_eq (hu : X.A.units + 64 < cLine) (ha : PE X a (tE X.K W ma)) (hb : PE X b (tE X.K W mb)) : PT X (.Compare a [.Eq] [b] pos) (tT X.K W (blM (binM eqD ma mb))) := t_cmp (OpR.or op_eq (op_eqD hu)) v_eqG ha hb (nomark _)
theorem t_ne (hu : X.A.units + 64 < cLine) (ha : PE X a (tE X.K W ma)) (hb : PE X b (tE X.K W mb)) : PT X (.Compare a [.NotEq] [b] pos) (tT X.K W (blM (binM neD ma mb))) := t_cmp (OpR.or op_ne (op_neD hu)) v_eqG ha hb (nomark _)
end
end Mp
set_option Elab.async false
set_option linter.all false
set_option maxRecDepth 100000
set_option maxHeartbeats 4000000
/-! Mp: displays, subscripts, slices, membership, built-in calls. -/
namespace Mp
open PySem PySem.Spec PyProof.Rows L2
/-! ### new lists: frozen, or a cell -/
def newL (c : Bool) (ds : List D) (s : Sto) : Res D := if c = true then .ok (.cel s.length) (s ++ [some (.lst ds)]) else .ok (.lst ds) s
theorem Post.newL {K : Frag} {w : Wd} {s : Sto} {E : XK} {Q : VK} {c : Bool} {ds : List D} {vs : List V} (hp : Post K (Rep K) w E Q (newL c ds s)) (st : StR K w s) (r : Reps K w vs ds) : ∀ p, w.H p = none → Q (.ref p) (upd w.H p (.lst vs)) := by
  cases c with
  | false => exact Post.frz (d := .lst ds) hp st fun p np => rep_newL st r np
  | true =>
    intro p np
    have e := Wd.cell_ext st (o := .lst vs) np
    have hp' : Post K (Rep K) w E Q (.ok (.cel s.length) (s ++ [some (.lst ds)])) := hp
    exact hp' (.ref p) (w.cell s.length p (.lst vs)) e (Wd.cell_st st np ⟨vs, upd_same, r.ext e⟩) (.cel (if_pos rfl))
def argM (f : List D → Sto → Res D) (a : DM (List D)) : DE := bindM a fun ds => fun _ s => f ds s
def nilA : DM (List D) := pureM []
def consA (a : DE) (b : DM (List D)) : DM (List D) := bindM a fun x => bindM b fun r => pureM (x :: r)
def lstD (c : Bool) (ds : List D) (s : Sto) : Res D := if ds.length ≤ sizeLine then newL c ds s else .bad
def tupD (ds : List D) (s : Sto) : Res D := if ds.length ≤ sizeLine then .ok (.tup ds) s else .bad
def getK {T U : Type} [DecidableEq T] (l : List (T × U)) (k : T) : Option U := (l.find? fun p => decide (p.1 = k)).map (·.2)
def keyD : D → Option Key
  | .int i => some (.inl i)
  | .str z => some (.inr z)
  | _ => none
def okO {T : Type} (s : Sto) : Option T → Res T
  | some d => .ok d s
  | none => .bad
def idxD (x y : D) (s : Sto) : Res D := match dctOf s x with
  | some m => (match keyD y with
    | some k => okO s (getK m k)
    | none => .bad)
  | none => (match y with
    | .int i => (match x with
      | .str z => if z.length ≤ sizeLine then okO s ((atI z.cps.toList i).map fun c => .str ⟨#[c]⟩) else .bad
      | .tup l => okO s (atI l i)
      | x => (match lstOf s x with
        | some l => okO s (atI l i)
        | none => .bad))
    | _ => .bad)
def optM (a : DE) : DM (Option Int) := bindM a fun x => fun _ s => match x with
  | .int i => .ok (some i) s
  | _ => .bad
def cutD (xs : List D) (lo hi : Option Int) : List D := (xs.drop (HT.sIx xs.length 0 lo)).take (HT.sIx xs.length xs.length hi - HT.sIx xs.length 0 lo)
def sliD (c : Bool) (x : D) (lo hi : Option Int) (s : Sto) : Res D := match x with
  | .str z => if z.length ≤ sizeLine then .ok (.str (cutS z lo hi)) s else .bad
  | .tup l => .ok (.tup (cutD l lo hi)) s
  | x => (match lstOf s x with
    | some l => newL c (cutD l lo hi) s
    | none => .bad)
def sliM (c : Bool) (a : DE) (l h : DM (Option Int)) : DE := bindM a fun x => bindM l fun lo => bindM h fun hi => fun _ s => sliD c x lo hi s
def flatD : D → Bool
  | .non => true
  | .bl _ => true
  | .int _ => true
  | .str _ => true
  | _ => false
def eqF : D → D → Bool
  | .non, .non => true
  | .bl a, .bl b => a == b
  | .bl a, .int b => (if a then 1 else 0) == b
  | .int a, .bl b => a == (if b then 1 else 0)
  | .int a, .int b => a == b
  | .str a, .str b => a == b
  | _, _ => false
def inF (x : D) (xs : List D) : Bool := xs.any fun y => eqF y x
def seqOf (s : Sto) : D → Option (List D)
  | .tup l => some l
  | x => lstOf s x
def inStr (i j : Str) : Bool := match i.cps.toList with
  | [c] => decide (c ∈ j.cps.toList)
  | _ => !(Builtin.Str.occurrences j i 0 j.length 1).isEmpty
def inD (neg : Bool) (x y : D) (s : Sto) : Res D := match dctOf s y with
  | some m => (match keyD x with
    | some k => .ok (.bl (if neg then !(getK m k).isSome else (getK m k).isSome)) s
    | none => .bad)
  | none => (match y with
    | .str j => (match x with
      | .str i => .ok (.bl (if neg then !inStr i j else inStr i j)) s
      | _ => .bad)
    | y => (match seqOf s y with
      | some l => if (flatD x && l.all flatD) = true then .ok (.bl (if neg then !inF x l else inF x l)) s else .bad
      | none => .bad))
/-! ### soundness -/
section
variable {K : Frag} {w : Wd}
theorem getK_ok {T : Type} [DecidableEq T] {k : T} : ∀ {l : List (T × V)} {m : List (T × D)}, KVR K w l m → (match getK m k with | some d => ∃ v, valV l k = some v ∧ Rep K w v d | none => valV l k = none)
  | _, _, .nil => rfl
  | _, _, .cons (k := j) h r => by
    have ih := getK_ok (k := k) r
    by_cases e : j = k
    · rw [valV_pos e]
      simp only [getK, List.find?_cons, e, decide_true, Option.map_some]
      exact ⟨_, rfl, h⟩
    · rw [valV_neg e]
      simp only [getK, List.find?_cons, e, decide_false]
      exact ih
theorem flat_ok {x : V} {d : D} (r : Rep K w x d) (h : flatD d = true) : flatV x = true := by
  cases r <;> first | rfl | cases h
theorem flats_ok : ∀ {xs : List V} {ds : List D}, Reps K w xs ds → ds.all flatD = true → xs.all flatV = true
  | _, _, .nil, _ => rfl
  | _, _, .cons h r, e => by
    rw [List.all_cons, Bool.and_eq_true_iff] at e ⊢
    exact ⟨flat_ok h e.1, flats_ok r e.2⟩
theorem eqF_ok {x y : V} {d e : D} (r : Rep K w x d) (q : Rep K w y e) (h1 : flatD d = true) (h2 : flatD e = true) : eqV x y = eqF d e := by
  cases r <;> first | (cases h1; done) | (cases q <;> first | rfl | cases h2)
theorem inF_ok {x : V} {d : D} (r : Rep K w x d) (h1 : flatD d = true) : ∀ {xs : List V} {ds : List D}, Reps K w xs ds → ds.all flatD = true → inV x xs = inF d ds
  | _, _, .nil, _ => rfl
  | _, _, .cons h t, e => by
    rw [List.all_cons, Bool.and_eq_true_iff] at e
    show (eqV _ x || inV x _) = (eqF _ d || inF d _)
    rw [eqF_ok h r e.1 h1, inF_ok r h1 t e.2]
theorem cutD_ok {xs : List V} {ds : List D} (r : Reps K w xs ds) (lo hi : Option Int) : Reps K w (cutV xs lo hi) (cutD ds lo hi) := by
  unfold cutV cutD
  rw [r.length]
  exact (r.drop _).take _
theorem atI_ok {xs : List V} {ds : List D} (r : Reps K w xs ds) {i : Int} {d : D} (h : atI ds i = some d) : ∃ v, atI xs i = some v ∧ Rep K w v d := by
  unfold atI at h ⊢
  rw [r.length]
  cases e : ixN ds.length i with
  | none => rw [e] at h; cases h
  | some j =>
    rw [e] at h
    exact r.get h
theorem seqOf_ok {s : Sto} {x : V} {d : D} {l : List D} (st : StR K w s) (r : Rep K w x d) (h : seqOf s d = some l) : ∃ p vs, x = .ref p ∧ (SqL K w.H p vs ∨ SqT K w.H p vs) ∧ Reps K w vs l := by
  have key : lstOf s d = some l → ∃ p vs, x = .ref p ∧ (SqL K w.H p vs ∨ SqT K w.H p vs) ∧ Reps K w vs l := fun h => by
    obtain ⟨p, vs, h1, h2, h3⟩ := lstOf_ok st r h
    exact ⟨p, vs, h1, .inl h2, h3⟩
  cases d with
  | tup l1 =>
    cases h
    cases r with
    | tup hh rs => exact ⟨_, _, rfl, .inr hh.sq, rs⟩
  | _ => exact key h
theorem keyD_ok {y : V} {d : D} {k : Key} (r : Rep K w y d) (h : keyD d = some k) : y = kV k := by
  cases r <;> first | (cases h; done) | (cases h; rfl)
end
section
variable {X : Cx} {W : WX} {a b c : Expr} {es : List Expr} {pos : Pos} {ma mb mc : DE} {mr : DM (List D)}
theorem a_nil : PA X [] (tA X.K W nilA) := PA.imp pa_nil fun t H Q h => by
  obtain ⟨r, s, w, rfl, env, st, hp⟩ := h
  exact hp.pure st .nil
theorem a_cons (ha : PE X a (tE X.K W ma)) (hr : PA X es (tA X.K W mr)) (hs : starEach (a :: es) X.env = (false, eval a X.env) :: starEach es X.env := by rfl) : PA X (a :: es) (tA X.K W (consA ma mr)) := PA.imp (pa_cons ha hr hs) fun t H Q h => by
  obtain ⟨r, s, w, rfl, env, st, hp⟩ := h
  exact hp.bind env st fun x d s1 w1 e1 st1 r1 hp1 => hp1.bind (env.ext e1) st1 fun y d2 s2 w2 e2 st2 r2 hp2 => hp2.pure st2 (.cons (r1.ext e2) r2)
theorem e_tup {x1 : Nat} (hr : PA X es (tA X.K W mr)) : PE X (.Tuple es x1 pos) (tE X.K W (argM tupD mr)) := PE.imp (pe_tup hr) fun t H Q h => by
  obtain ⟨r, s, w, rfl, env, st, hp⟩ := h
  exact hp.bind env st fun x d s1 w1 e1 st1 r1 hp1 => by
    unfold tupD at hp1
    split at hp1
    · rename_i hl
      exact ⟨by rw [r1.length]; exact hl, hp1.frz st1 fun p np => rep_newT st1 r1 np⟩
    · exact hp1.elim
theorem e_lst (k : Bool) (hr : PA X es (tA X.K W mr)) : PE X (.List es pos) (tE X.K W (argM (lstD k) mr)) := PE.imp (pe_lst hr) fun t H Q h => by
  obtain ⟨r, s, w, rfl, env, st, hp⟩ := h
  exact hp.bind env st fun x d s1 w1 e1 st1 r1 hp1 => by
    unfold lstD at hp1
    split at hp1
    · rename_i hl
      exact ⟨by rw [r1.length]; exact hl, hp1.newL st1 r1⟩
    · exact hp1.elim
theorem ix_dict (hu : X.A.units + 1 < cLine) : IxR X (fun x y H Q => ∃ a v, x = .ref a ∧ DGet H a y (some v) ∧ Q v H) := fun value slice pins s t H x y v u Q I rx ry h hs => by
  obtain ⟨p, v', rfl, g, q⟩ := h
  obtain rfl : v = Value.ref p := rx
  exact tail_any (dict_typeIs I g) PySem.F.slot_dict_getitem.lookup (d_getItem hu I g ry fun z s3 I3 rz => ⟨v', H, I3, rz, q⟩) hs
theorem op_inDict (hu : X.A.units + 1 < cLine) : OpR X (compareOp .In) (fun x y H Q => ∃ a o, y = .ref a ∧ DGet H a x o ∧ Q (.bl o.isSome) H) := fun pins s t H x y v u Q I rx ry h => by
  obtain ⟨p, o, rfl, g, q⟩ := h
  obtain rfl : u = Value.ref p := ry
  exact d_in hu I g rx fun s3 I3 => ⟨.bl o.isSome, H, I3, rfl, q⟩
theorem op_notInDict (hu : X.A.units + 1 < cLine) : OpR X (compareOp .NotIn) (fun x y H Q => ∃ a o, y = .ref a ∧ DGet H a x o ∧ Q (.bl (!o.isSome)) H) := fun pins s t H x y v u Q I rx ry h => by
  obtain ⟨p, o, rfl, g, q⟩ := h
  obtain rfl : u = Value.ref p := ry
  exact d_notIn hu I g rx fun s3 I3 => ⟨.bl (!o.isSome), H, I3, rfl, q⟩
theorem v_idx : VR2 X.K (fun x y H Q => rIx X.K x y H Q ∨ ∃ a v, x = .ref a ∧ DGet H a y (some v) ∧ Q v H) idxD := fun w s x y d e Q E st rx ry hp => by
  unfold idxD at hp
  split at hp
  · rename_i m hm
    obtain ⟨p, l, rfl, hd, kv⟩ := dctOf_ok st rx hm
    split at hp
    · rename_i k hk
      have ey := keyD_ok ry hk
      have g := getK_ok (k := k) kv
      cases eg : getK m k with
      | none => rw [eg] at hp; exact hp.elim
      | some d3 =>
        rw [eg] at g hp
        obtain ⟨v, hv, rv⟩ := g
        exact .inr ⟨p, v, rfl, .inl ⟨l, k, hd, ey, hv.symm⟩, hp.pure st rv⟩
    · exact hp.elim
  · rename_i nd
    cases ry with
    | int i =>
      dsimp only at hp
      cases d with
      | str z =>
        cases rx
        dsimp only at hp
        split at hp
        · rename_i hl
          cases ec : atI z.cps.toList i with
          | none => rw [ec] at hp; exact hp.elim
          | some c0 =>
            rw [ec] at hp
            exact .inl (.inr (.inr ⟨z, i, c0, rfl, rfl, hl, ec, hp.pure st (.str _)⟩))
        · exact hp.elim
      | tup l =>
        cases rx with
        | tup hh rs =>
          dsimp only at hp
          cases ec : atI l i with
          | none => rw [ec] at hp; exact hp.elim
          | some d3 =>
            rw [ec] at hp
            obtain ⟨v, hv, rv⟩ := atI_ok rs ec
            exact .inl (.inr (.inl ⟨_, _, i, v, rfl, rfl, hh.sq, hv, hp.pure st rv⟩))
      | _ =>
        dsimp only at hp
        split at hp
        · rename_i l el
          obtain ⟨p, vs, rfl, hh, rs⟩ := lstOf_ok st rx el
          cases ec : atI l i with
          | none => rw [ec] at hp; exact hp.elim
          | some d3 =>
            rw [ec] at hp
            obtain ⟨v, hv, rv⟩ := atI_ok rs ec
            exact .inl (.inl ⟨_, _, i, v, rfl, rfl, hh, hv, hp.pure st rv⟩)
        · exact hp.elim
    | _ => exact hp.elim
theorem e_idx (hu : X.A.units + 1 < cLine) (ha : PE X a (tE X.K W ma)) (hb : PE X b (tE X.K W mb)) (hs : PlainIx b := by exact fun _ _ => rfl) : PE X (.Subscript a b pos) (tE X.K W (binM idxD ma mb)) :=
  PE.imp (pe_ix (IxR.or ix_seq (ix_dict hu)) ha hb hs) fun t H Q h => by
    obtain ⟨r, s, w, rfl, env, st, hp⟩ := h
    exact hp.bind env st fun x d s1 w1 e1 st1 r1 hp1 => hp1.bind (env.ext e1) st1 fun y d2 s2 w2 e2 st2 r2 hp2 => v_idx w2 s2 x y d d2 Q _ st2 (r1.ext e2) r2 hp2
/-! ### slices -/
abbrev tO (K : Frag) (W : WX) (m : DM (Option Int)) : TO := tM K (fun _ (b c : Option Int) => b = c) W m
theorem PO.imp {e : Option Expr} {t t' : TO} (h : PO X e t) (i : ∀ σ H Q, t' σ H Q → t σ H Q) : PO X e t' := ⟨fun pins s σ H Q I q => h.run pins s σ H Q I (i _ _ _ q)⟩
theorem o_none : PO X none (tO X.K W (pureM none)) := PO.imp po_none fun t H Q h => by
  obtain ⟨r, s, w, rfl, env, st, hp⟩ := h
  exact hp.pure st rfl
theorem o_some (ha : PE X a (tE X.K W ma)) : PO X (some a) (tO X.K W (optM ma)) := PO.imp (po_some ha) fun t H Q h => by
  obtain ⟨r, s, w, rfl, env, st, hp⟩ := h
  exact hp.bind env st fun x d s1 w1 e1 st1 r1 hp1 => by
    cases r1 with
    | int i => exact ⟨i, rfl, hp1.pure st1 rfl⟩
    | _ => exact hp1.elim
theorem SlR.or {r r' : V → Option Int → Option Int → Hp → VK → Prop} (h : SlR X r) (h' : SlR X r') : SlR X (fun x l u H Q => r x l u H Q ∨ r' x l u H Q) := by
  unfold SlR at h h' ⊢
  intros
  rename_i q
  rcases q with q | q
  · apply h <;> assumption
  · apply h' <;> assumption
theorem e_sli {lo hi : Option Expr} {p2 : Pos} {ml mh : DM (Option Int)} (k : Bool) (ha : PE X a (tE X.K W ma)) (hl : PO X lo (tO X.K W ml)) (hh : PO X hi (tO X.K W mh)) : PE X (.Subscript a (.Slice lo hi none p2) pos) (tE X.K W (sliM k ma ml mh)) :=
  PE.imp (pe_slice (SlR.or sl_list (SlR.or sl_tupA sl_str)) ha hl hh) fun t H Q h => by
    obtain ⟨r, s, w, rfl, env, st, hp⟩ := h
    exact hp.bind env st fun x d s1 w1 e1 st1 r1 hp1 => hp1.bind (env.ext e1) st1 fun lo1 lo2 s2 w2 e2 st2 r2 hp2 => hp2.bind ((env.ext e1).ext e2) st2 fun hi1 hi2 s3 w3 e3 st3 r3 hp3 => by
      subst r2 r3
      have rx := (r1.ext e2).ext e3
      unfold sliD at hp3
      cases d with
      | str z =>
        cases rx
        dsimp only at hp3
        split at hp3
        · rename_i hl
          exact .inr (.inr ⟨z, rfl, hl, hp3.pure st3 (.str _)⟩)
        · exact hp3.elim
      | tup l =>
        cases rx with
        | tup hq rs =>
          refine .inr (.inl ⟨_, _, rfl, hq.sq, fun e => ?_, fun e => ?_⟩)
          · refine hp3.pure st3 (.tup hq ?_)
            have q := cutD_ok rs lo1 hi1
            unfold cutV at q
            rw [e.1, e.2, Nat.sub_zero, List.drop_zero, List.take_length] at q
            exact q
          · exact hp3.frz st3 fun p np => rep_newT st3 (cutD_ok rs lo1 hi1) np
      | _ =>
        dsimp only at hp3
        split at hp3
        · rename_i l el
          obtain ⟨p, vs, rfl, hq, rs⟩ := lstOf_ok st3 rx el
          exact .inl ⟨p, vs, rfl, hq, hp3.newL st3 (cutD_ok rs lo1 hi1)⟩
        · exact hp3.elim
/-! ### in, not in -/
theorem str_of_list {i : Str} {c : Nat} (h : i.cps.toList = [c]) : i = ⟨#[c]⟩ := by
  obtain ⟨a⟩ := i
  congr 1
  apply Array.ext'
  exact h
def rInG (K : Frag) (neg : Bool) : R2 := fun x y H Q => (∃ a o, y = .ref a ∧ DGet H a x o ∧ Q (.bl (if neg then !o.isSome else o.isSome)) H) ∨ (∃ (c : Nat) (z : Str), x = .str ⟨#[c]⟩ ∧ y = .str z ∧ Q (.bl (if neg then !decide (c ∈ z.cps.toList) else decide (c ∈ z.cps.toList))) H) ∨
  (∃ i j, x = .str i ∧ y = .str j ∧ Q (.bl (if neg then !(!(Builtin.Str.occurrences j i 0 j.length 1).isEmpty) else !(Builtin.Str.occurrences j i 0 j.length 1).isEmpty)) H) ∨ rIn K neg x y H Q
theorem v_in {neg : Bool} : VR2 X.K (rInG X.K neg) (inD neg) := fun w s x y d e Q E st rx ry hp => by
  unfold inD at hp
  split at hp
  · rename_i m hm
    obtain ⟨p, l, rfl, hd, kv⟩ := dctOf_ok st ry hm
    split at hp
    · rename_i k hk
      have ex := keyD_ok rx hk
      have g := getK_ok (k := k) kv
      refine .inl ⟨p, valV l k, rfl, .inl ⟨l, k, hd, ex, rfl⟩, ?_⟩
      cases eg : getK m k with
      | none =>
        rw [eg] at g hp
        have g' : valV l k = none := g
        rw [g']
        exact hp.pure st (.bl _)
      | some d3 =>
        rw [eg] at g hp
        obtain ⟨v, hv, rv⟩ := g
        rw [hv]
        exact hp.pure st (.bl _)
    · exact hp.elim
  · have seq : Post X.K (Rep X.K) w E Q (match seqOf s e with
      | some l => if (flatD d && l.all flatD) = true then .ok (.bl (if neg then !inF d l else inF d l)) s else .bad
      | none => .bad) → rIn X.K neg x y w.H Q := fun hp => by
      split at hp
      · rename_i l el
        obtain ⟨p, vs, rfl, hq, rs⟩ := seqOf_ok st ry el
        split at hp
        · rename_i hf
          obtain ⟨h1, h2⟩ := Bool.and_eq_true_iff.mp hf
          refine ⟨p, vs, rfl, hq, flat_ok rx h1, flats_ok rs h2, ?_⟩
          rw [inF_ok rx h1 rs h2]
          exact hp.pure st (.bl _)
        · exact hp.elim
      · exact hp.elim
    cases e with
    | str j =>
      cases ry
      cases d with
      | str i =>
        cases rx
        have q : Q (.bl (if neg then !inStr i j else inStr i j)) w.H := hp.pure st (.bl _)
        have alt : (∃ c0, i.cps.toList = [c0] ∧ inStr i j = decide (c0 ∈ j.cps.toList)) ∨ inStr i j = !(Builtin.Str.occurrences j i 0 j.length 1).isEmpty := by
          unfold inStr
          split
          · rename_i c0 hc
            exact .inl ⟨c0, hc, rfl⟩
          · exact .inr rfl
        rcases alt with ⟨c0, hc, e0⟩ | e0
        · rw [e0] at q
          have ei := str_of_list hc
          subst ei
          exact .inr (.inl ⟨c0, j, rfl, rfl, q⟩)
        · rw [e0] at q
          exact .inr (.inr (.inl ⟨i, j, rfl, rfl, q⟩))
      | _ => exact hp.elim
    | _ => exact .inr (.inr (.inr (seq hp)))
theorem o_in (hu : X.A.units + 1 < cLine) : OpR X (compareOp .In) (rInG X.K false) := OpR.or (op_inDict hu) (OpR.or op_in_sign (OpR.or op_in_str op_in_seq))
theorem o_notIn (hu : X.A.units + 1 < cLine) : OpR X (compareOp .NotIn) (rInG X.K true) := OpR.or (op_notInDict hu) (OpR.or op_notIn_sign (OpR.or op_notin_str op_notIn_seq))
theorem e_in (hu : X.A.units + 1 < cLine) (ha : PE X a (tE X.K W ma)) (hb : PE X b (tE X.K W mb)) (hm : behindInMarks .In b = false := by rfl) : PE X (.Compare a [.In] [b] pos) (tE X.K W (binM (inD false) ma mb)) := e_cmp (o_in hu) v_in ha hb hm
theorem t_notIn (hu : X.A.units + 1 < cLine) (ha : PE X a (tE X.K W ma)) (hb : PE X b (tE X.K W mb)) (hm : behindInMarks .NotIn b = false := by rfl) : PT X (.Compare a [.NotIn] [b] pos) (tT X.K W (blM (binM (inD true) ma mb))) := t_cmp (o_notIn hu) v_in ha hb hm
end
end Mp
set_option Elab.async false
set_option linter.all false
set_option maxRecDepth 100000
set_option maxHeartbeats 4000000
/-! Mp: statements, loops. -/
namespace Mp
open PySem PySem.Spec PyProof.Rows L2
/-! ### on data -/
def seqS (a b : DS) : DS := fun r s => match a r s with
  | .nx r' s' => b r' s'
  | f => f
def skipS : DS := fun r s => .nx r s
def brkS : DS := fun r s => .bk r s
def cntS : DS := fun r s => .ct r s
def setS (i : Nat) (m : DE) : DS := thenS m fun d => fun r s => .nx (r.set i (some d)) s
def exprS (m : DE) : DS := thenS m fun _ => fun r s => .nx r s
def retS (m : DE) : DS := thenS m fun d => fun _ s => .rt d s
def retN : DS := fun _ s => .rt .non s
def ifS (c : DM Bool) (a b : DS) : DS := thenS c fun k => if k = true then a else b
def nameG (i : Nat) : DG := fun d r s => some (r.set i (some d), s)
abbrev DGs := List D → En → Sto → Option (En × Sto)
def nilG : DGs := fun ds r s => match ds with
  | [] => some (r, s)
  | _ => none
def consG (g : DG) (h : DGs) : DGs := fun ds r s => match ds with
  | d :: l => (g d r s).bind fun p => h l p.1 p.2
  | [] => none
def tupG (n : Nat) (h : DGs) : DG := fun d r s => match seqOf s d with
  | some l => if l.length = n then h l r s else none
  | none => none
def asgS (m : DE) (g : DG) : DS := thenS m fun d => fun r s => match g d r s with
  | some p => .nx p.1 p.2
  | none => .bad
def par2S (i j : Nat) (m : DM (List D)) : DS := thenS m fun ds => fun r s => match ds with
  | [a, b] => .nx ((r.set i (some a)).set j (some b)) s
  | _ => .bad
def par3S (i j l : Nat) (m : DM (List D)) : DS := thenS m fun ds => fun r s => match ds with
  | [a, b, c] => .nx (((r.set i (some a)).set j (some b)).set l (some c)) s
  | _ => .bad
def augS (i : Nat) (f : D → D → Sto → Res D) (m : DE) : DS := thenS (binM f (vM i) m) fun d => fun r s => .nx (r.set i (some d)) s
def whileF (t : DM Bool) (b : DS) : Nat → DS
  | 0 => fun _ _ => .bad
  | n + 1 => fun r s => match t r s with
    | .ok k s1 => if k = true then (match b r s1 with
      | .nx r' s' => whileF t b n r' s'
      | .ct r' s' => whileF t b n r' s'
      | .bk r' s' => .nx r' s'
      | .rt d s' => .rt d s'
      | .exc C fs r' s' => .exc C fs r' s'
      | .bad => .bad) else .nx r s1
    | .exc C fs s1 => .exc C fs r s1
    | .bad => .bad
open Classical in
noncomputable def whileS (t : DM Bool) (b : DS) : DS := fun r s => if h : ∃ n, whileF t b n r s ≠ .bad then whileF t b (Classical.choose h) r s else .bad
/-- what a loop walks: its items; a cell that must stay as it is meanwhile -/
structure Src where
  its : List D
  cel : Option Nat
def SrcOk (c : Src) (s : Sto) : Prop := match c.cel with
  | none => True
  | some n => s[n]? = some (some (.lst c.its))
open Classical in
noncomputable def forF (c : Src) (g : DG) (b : DS) : List D → DS
  | [] => fun r s => if SrcOk c s then .nx r s else .bad
  | d :: l => fun r s => if SrcOk c s then (match g d r s with
    | none => .bad
    | some p => (match b p.1 p.2 with
      | .nx r' s' => forF c g b l r' s'
      | .ct r' s' => forF c g b l r' s'
      | .bk r' s' => .nx r' s'
      | .rt d s' => .rt d s'
      | .exc C fs r' s' => .exc C fs r' s'
      | .bad => .bad)) else .bad
noncomputable def forS (m : DM Src) (g : DG) (b : DS) : DS := thenS m fun c => forF c g b c.its
theorem whileF_mono {t : DM Bool} {b : DS} : ∀ {n : Nat} {r : En} {s : Sto}, whileF t b n r s ≠ .bad → ∀ m, n ≤ m → whileF t b m r s = whileF t b n r s
  | 0, _, _, h, _, _ => absurd rfl h
  | n + 1, r, s, h, 0, hm => by omega
  | n + 1, r, s, h, m + 1, hm => by
    unfold whileF at h ⊢
    cases e : t r s with
    | ok k s1 =>
      simp only [e] at h ⊢
      cases k with
      | false => rfl
      | true =>
        simp only [if_true] at h ⊢
        cases e2 : b r s1 with
        | nx r' s' =>
          simp only [e2] at h ⊢
          exact whileF_mono h m (by omega)
        | ct r' s' =>
          simp only [e2] at h ⊢
          exact whileF_mono h m (by omega)
        | _ => rfl
    | _ => rfl
theorem whileS_of {t : DM Bool} {b : DS} {n : Nat} {r : En} {s : Sto} (h : whileF t b n r s ≠ .bad) : whileS t b r s = whileF t b n r s := by
  unfold whileS
  have hx : ∃ n, whileF t b n r s ≠ .bad := ⟨n, h⟩
  rw [dif_pos hx]
  have h2 := Classical.choose_spec hx
  rcases Nat.le_total n (Classical.choose hx) with q | q
  · exact whileF_mono h _ q
  · exact (whileF_mono h2 _ q).symm
/-- one turn -/
theorem whileS_eq {t : DM Bool} {b : DS} {r : En} {s : Sto} : whileS t b r s = (match t r s with
    | .ok k s1 => if k = true then (match b r s1 with
      | .nx r' s' => whileS t b r' s'
      | .ct r' s' => whileS t b r' s'
      | .bk r' s' => .nx r' s'
      | .rt d s' => .rt d s'
      | .exc C fs r' s' => .exc C fs r' s'
      | .bad => .bad) else .nx r s1
    | .exc C fs s1 => .exc C fs r s1
    | .bad => .bad) := by
  have turn : ∀ r' s' n, whileF t b n r' s' = .bad ∨ whileF t b n r' s' = whileS t b r' s' := fun r' s' n => by
    by_cases h : whileF t b n r' s' = .bad
    · exact .inl h
    · exact .inr (whileS_of h).symm
  have nox : ∀ r' s', (∀ n, whileF t b n r' s' = .bad) → whileS t b r' s' = .bad := fun r' s' h => by
    unfold whileS
    rw [dif_neg]
    rintro ⟨n, hn⟩
    exact hn (h n)
  by_cases hx : ∃ n, whileF t b n r s ≠ .bad
  · obtain ⟨n, hn⟩ := hx
    rw [whileS_of hn]
    cases n with
    | zero => exact absurd rfl hn
    | succ n =>
      unfold whileF at hn ⊢
      cases e : t r s with
      | ok k s1 =>
        simp only [e] at hn ⊢
        cases k with
        | false => rfl
        | true =>
          simp only [if_true] at hn ⊢
          cases e2 : b r s1 with
          | nx r' s' =>
            simp only [e2] at hn ⊢
            exact (whileS_of hn).symm
          | ct r' s' =>
            simp only [e2] at hn ⊢
            exact (whileS_of hn).symm
          | _ => rfl
      | _ => rfl
  · have hb : ∀ n, whileF t b n r s = .bad := fun n => Classical.byContradiction fun h => hx ⟨n, h⟩
    rw [nox r s hb]
    have h1 := fun n => hb (n + 1)
    unfold whileF at h1
    cases e : t r s with
    | ok k s1 =>
      simp only [e] at h1 ⊢
      cases k with
      | false => exact (h1 0).symm
      | true =>
        simp only [if_true] at h1 ⊢
        cases e2 : b r s1 with
        | nx r' s' =>
          simp only [e2] at h1 ⊢
          exact (nox r' s' h1).symm
        | ct r' s' =>
          simp only [e2] at h1 ⊢
          exact (nox r' s' h1).symm
        | bk r' s' => simp only [e2] at h1; exact (h1 0).symm
        | rt d s' => simp only [e2] at h1; exact (h1 0).symm
        | exc C fs r' s' => simp only [e2] at h1; exact (h1 0).symm
        | bad => rfl
    | exc C fs s1 => simp only [e] at h1; exact (h1 0).symm
    | bad => rfl
/-! ### soundness -/
section
variable {X : Cx} {W : WX} {a b c : Expr} {es : List Expr} {pos : Pos} {ma mb mc : DE} {mr : DM (List D)} {st st2 : Stmt} {rest : List Stmt} {m1 m2 : DS}
theorem s_nil : PSs X [] (tS X.K W skipS) := PSs.imp pss_nil fun E t H h => by
  obtain ⟨r, s, w, rfl, env, st, hp⟩ := h
  exact hp t w (Ext.refl w) env st
theorem seq_imp {E : Ends} {t : L2.St} {H : Hp} {K : Frag} (h : tS K W (seqS m1 m2) E t H) : tSeq (tS K W m1) (tS K W m2) E t H := by
  obtain ⟨r, s, w, rfl, env, st, hp⟩ := h
  refine ⟨r, s, w, rfl, env, st, ?_⟩
  unfold seqS at hp
  cases e : m1 r s with
  | nx r' s' =>
    rw [e] at hp
    exact fun t' w' e' env' st' => ⟨r', s', w', rfl, env', st', hp.ext e'⟩
  | rt d s' => rw [e] at hp; exact hp
  | bk r' s' => rw [e] at hp; exact hp
  | ct r' s' => rw [e] at hp; exact hp
  | exc C fs r' s' => rw [e] at hp; exact hp
  | bad => rw [e] at hp; exact hp
theorem s_cons (h1 : PS X st (tS X.K W m1)) (h2 : PSs X rest (tS X.K W m2)) : PSs X (st :: rest) (tS X.K W (seqS m1 m2)) := PSs.imp (pss_cons h1 h2) fun E t H h => seq_imp h
theorem s_one (h1 : PS X st (tS X.K W m1)) : PSs X [st] (tS X.K W m1) := pss_one h1
theorem s_expr (he : PE X a (tE X.K W ma)) (hs : swapsWith a none pos.line X.env = pure false := by rfl) : PS X (.Expr a pos) (tS X.K W (exprS ma)) := PS.imp (ps_expr he hs) fun E t H h => by
  obtain ⟨r, s, w, rfl, env, st, hp⟩ := h
  exact hp.bind env st fun x d s1 w1 e1 st1 r1 hp1 => hp1 t w1 (Ext.refl w1) (env.ext e1) st1
theorem s_ret (he : PE X a (tE X.K W ma)) : PS X (.Return (some a) pos) (tS X.K W (retS ma)) := PS.imp (ps_ret he) fun E t H h => by
  obtain ⟨r, s, w, rfl, env, st, hp⟩ := h
  exact hp.bind env st fun x d s1 w1 e1 st1 r1 hp1 => hp1 x w1 (Ext.refl w1) st1 r1
theorem s_if {mt : DM Bool} {s1 s2 : List Stmt} (hc : PT X c (tT X.K W mt)) (ha : PSs X s1 (tS X.K W m1)) (hb : PSs X s2 (tS X.K W m2)) : PS X (.If c s1 s2 pos) (tS X.K W (ifS mt m1 m2)) := PS.imp (ps_if hc ha hb) fun E t H h => by
  obtain ⟨r, s, w, rfl, env, st, hp⟩ := h
  exact hp.bind env st fun x d s1 w1 e1 st1 r1 hp1 => by
    subst r1
    cases x with
    | true => exact ⟨r, s1, w1, rfl, env.ext e1, st1, hp1⟩
    | false => exact ⟨r, s1, w1, rfl, env.ext e1, st1, hp1⟩
theorem s_set {i : Nat} {x : Str} {pos' : Pos} (hN : X.N.Nodup) (hi : X.N[i]? = some x) (hx : Loc X.env.scope x) (he : PE X a (tE X.K W ma)) (hs : swapsWith a (some (.Name x pos')) pos.line X.env = pure false := by rfl)
    (hf : X.fn x = true ∨ X.env.scope.names.lookup x = some .local := by first | exact .inl rfl | exact .inr rfl | assumption) : PS X (.Assign [.Name x pos'] a pos) (tS X.K W (setS i ma)) := PS.imp (ps_set hN hi hx he hs hf) fun E t H h => by
  obtain ⟨r, s, w, rfl, env, st, hp⟩ := h
  exact hp.bind env st fun x d s1 w1 e1 st1 r1 hp1 => hp1 _ w1 (Ext.refl w1) ((env.ext e1).set r1 i) st1
/-! targets -/
def tG (K : Frag) (g : DG) : TG := fun v t H Q => ∃ r s w d, w.H = H ∧ EnvR K w r t ∧ StR K w s ∧ Rep K w v d ∧ (match g d r s with
  | some p => ∀ t' w', Ext w w' → EnvR K w' p.1 t' → StR K w' p.2 → Q t' w'.H
  | none => False)
def tGs (K : Frag) (g : DGs) : TGs := fun vs t H Q => ∃ r s w ds, w.H = H ∧ EnvR K w r t ∧ StR K w s ∧ Reps K w vs ds ∧ (match g ds r s with
  | some p => ∀ t' w', Ext w w' → EnvR K w' p.1 t' → StR K w' p.2 → Q t' w'.H
  | none => False)
theorem PG.imp {tg : Expr} {t t' : TG} (h : PG X tg t) (i : ∀ v σ H Q, t' v σ H Q → t v σ H Q) : PG X tg t' := ⟨fun pins s σ H v u Q I r q => h.run pins s σ H v u Q I r (i _ _ _ _ q)⟩
theorem PGs.imp {tg : List Expr} {t t' : TGs} (h : PGs X tg t) (i : ∀ v σ H Q, t' v σ H Q → t v σ H Q) : PGs X tg t' := ⟨fun pins s σ H v u Q I r q => h.run pins s σ H v u Q I r (i _ _ _ _ q)⟩
theorem PG.or {tg : Expr} {t t' : TG} (h : PG X tg t) (h' : PG X tg t') : PG X tg (fun v σ H Q => t v σ H Q ∨ t' v σ H Q) := ⟨fun pins s σ H v u Q I r q => q.elim (h.run pins s σ H v u Q I r) (h'.run pins s σ H v u Q I r)⟩
theorem g_name {i : Nat} {x : Str} (hN : X.N.Nodup) (hi : X.N[i]? = some x) (hx : Loc X.env.scope x) (hf : X.fn x = true ∨ X.env.scope.names.lookup x = some .local := by first | exact .inl rfl | exact .inr rfl | assumption) : PG X (.Name x pos) (tG X.K (nameG i)) :=
  PG.imp (pg_name hN hi hx hf) fun v t H Q h => by
    obtain ⟨r, s, w, d, rfl, env, st, rv, hp⟩ := h
    exact hp _ w (Ext.refl w) (env.set rv i) st
theorem gs_nil : PGs X [] (tGs X.K nilG) := PGs.imp pgs_nil fun v t H Q h => by
  obtain ⟨r, s, w, ds, rfl, env, st, rv, hp⟩ := h
  cases rv with
  | nil => exact ⟨rfl, hp _ w (Ext.refl w) env st⟩
  | cons _ _ => exact hp.elim
theorem gs_cons {g : DG} {g2 : DGs} (h1 : PG X a (tG X.K g)) (h2 : PGs X es (tGs X.K g2)) (hs : (assignEach (a :: es) X.env).map (·.2) = assign a X.env :: (assignEach es X.env).map (·.2) := by rfl) : PGs X (a :: es) (tGs X.K (consG g g2)) :=
  PGs.imp (pgs_cons h1 h2 hs) fun v t H Q h => by
    obtain ⟨r, s, w, ds, rfl, env, st, rv, hp⟩ := h
    cases rv with
    | nil => exact hp.elim
    | @cons v d vs ds r1 r2 =>
      refine ⟨v, vs, rfl, r, s, w, d, rfl, env, st, r1, ?_⟩
      unfold consG at hp
      dsimp only at hp
      cases e : g d r s with
      | none => rw [e] at hp; exact hp.elim
      | some p =>
        rw [e] at hp
        refine fun t' w' e' env' st' => ⟨p.1, p.2, w', ds, rfl, env', st', r2.ext e', ?_⟩
        have hp' : (match g2 ds p.1 p.2 with
          | some p => ∀ t' w', Ext w w' → EnvR X.K w' p.1 t' → StR X.K w' p.2 → Q t' w'.H
          | none => False) := hp
        cases e2 : g2 ds p.1 p.2 with
        | none => rw [e2] at hp'; exact hp'.elim
        | some p2 =>
          rw [e2] at hp'
          exact fun t2 w2 x2 => hp' t2 w2 (e'.trans x2)
theorem g_tup {k n : Nat} {g : DGs} (hc : X.calm = true) (h : PGs X es (tGs X.K g)) (hn : (assignEach es X.env).length = n := by rfl) (hst : (assignEach es X.env).findIdx? (·.1) = none := by rfl) : PG X (.Tuple es k pos) (tG X.K (tupG n g)) :=
  PG.imp (PG.or (pg_tup hc h hn hst) (pg_lst hc h hn hst)) fun v t H Q h => by
    obtain ⟨r, s, w, d, rfl, env, st, rv, hp⟩ := h
    unfold tupG at hp
    cases e : seqOf s d with
    | none => rw [e] at hp; exact hp.elim
    | some l =>
      rw [e] at hp
      dsimp only at hp
      obtain ⟨p, vs, rfl, hq, rs⟩ := seqOf_ok st rv e
      by_cases hl : l.length = n
      · rw [if_pos hl] at hp
        have hin : tGs X.K g vs t w.H Q := ⟨r, s, w, l, rfl, env, st, rs, hp⟩
        rcases hq with hq | hq
        · exact .inr ⟨p, vs, rfl, hq, by rw [rs.length, hl], hin⟩
        · exact .inl ⟨p, vs, rfl, hq, by rw [rs.length, hl], hin⟩
      · rw [if_neg hl] at hp
        exact hp.elim
theorem s_asg {tg : Expr} {g : DG} (he : PE X a (tE X.K W ma)) (hg : PG X tg (tG X.K g)) (hs : swapsWithSole [tg] a pos.line X.env = pure false := by rfl) (hw : swappedStores [tg] a X.env = pure none := by rfl)
    (h1 : (assignEach [tg] X.env).map (·.2) = [assign tg X.env] := by rfl) : PS X (.Assign [tg] a pos) (tS X.K W (asgS ma g)) := PS.imp (ps_asg he hg hs hw h1) fun E t H h => by
  obtain ⟨r, s, w, rfl, env, st, hp⟩ := h
  exact hp.bind env st fun x d s1 w1 e1 st1 r1 hp1 => by
    refine ⟨r, s1, w1, d, rfl, env.ext e1, st1, r1, ?_⟩
    cases e : g d r s1 with
    | none => rw [e] at hp1; exact hp1.elim
    | some p =>
      rw [e] at hp1
      exact hp1
theorem s_par2 {i j : Nat} {x y : Str} {px py pt : Pos} {kt k2 : Nat} {pt2 : Pos} (hc : X.calm = true) (hN : X.N.Nodup) (hi : X.N[i]? = some x) (hj : X.N[j]? = some y) (hij : i ≠ j) (hx : X.env.scope.names.lookup x = some .local) (hy : X.env.scope.names.lookup y = some .local)
    (ha : PA X [a, b] (tA X.K W mr)) (hw : swappedStores [.Tuple [.Name x px, .Name y py] kt pt] (.Tuple [a, b] k2 pt2) X.env = pure (some [x, y]) := by rfl)
    (hs : swapsWithSole [.Tuple [.Name x px, .Name y py] kt pt] (.Tuple [a, b] k2 pt2) pos.line X.env = pure false := by rfl) :
    PS X (.Assign [.Tuple [.Name x px, .Name y py] kt pt] (.Tuple [a, b] k2 pt2) pos) (tS X.K W (par2S i j mr)) := PS.imp (ps_par hc hN hi hj hij hx hy ha hw hs) fun E t H h => by
  obtain ⟨r, s, w, rfl, env, st, hp⟩ := h
  exact hp.bind env st fun vs ds s1 w1 e1 st1 r1 hp1 => by
    cases r1 with
    | nil => exact hp1.elim
    | cons q1 r2 =>
      cases r2 with
      | nil => exact hp1.elim
      | cons q2 r3 =>
        cases r3 with
        | nil => exact ⟨_, _, rfl, hp1 _ w1 (Ext.refl w1) (((env.ext e1).set q1 i).set q2 j) st1⟩
        | cons _ _ => exact hp1.elim
/-! while -/
theorem s_while {mt : DM Bool} {body : List Stmt} {mb : DS} (hp : PassesOwn (model X.prog X.w) X.A X.env X.xe) (hc : PT X c (tT X.K W mt)) (hb : PSs X body (tS X.K W mb)) : PS X (.While c body [] pos) (tS X.K W (whileS mt mb)) :=
  PS.imp (ps_while hp hc hb) fun E t H h => by
    obtain ⟨r, s, w, rfl, env, st, hp⟩ := h
    have hx : ∃ n, whileF mt mb n r s ≠ .bad := by
      apply Classical.byContradiction
      intro hx
      unfold whileS at hp
      rw [dif_neg hx] at hp
      exact hp.elim
    obtain ⟨n, hn⟩ := hx
    rw [whileS_of hn] at hp
    refine ⟨fun m t H => ∃ r s w, w.H = H ∧ EnvR X.K w r t ∧ StR X.K w s ∧ PostS X.K w W E (whileF mt mb m r s), ⟨n, r, s, w, rfl, env, st, hp⟩, fun m t H h => ?_⟩
    obtain ⟨r, s, w, rfl, env, st, hp⟩ := h
    cases m with
    | zero => exact hp.elim
    | succ m =>
      have hp' : PostS X.K w W E (thenS mt (fun k => if k = true then (fun r s => match mb r s with
        | .nx r' s' => whileF mt mb m r' s'
        | .ct r' s' => whileF mt mb m r' s'
        | .bk r' s' => .nx r' s'
        | .rt d s' => .rt d s'
        | .exc C fs r' s' => .exc C fs r' s'
        | .bad => .bad) else fun r s => .nx r s) r s) := by
        unfold whileF at hp
        unfold thenS
        cases e : mt r s with
        | ok k s1 =>
          rw [e] at hp
          cases k with
          | true => exact hp
          | false => exact hp
        | exc C fs s1 => rw [e] at hp; exact hp
        | bad => rw [e] at hp; exact hp
      exact hp'.bind env st fun x d s1 w1 e1 st1 r1 hp1 => by
        subst r1
        cases x with
        | false => exact hp1 t w1 (Ext.refl w1) (env.ext e1) st1
        | true =>
          have hp2 : PostS X.K w1 W E (match mb r s1 with
            | .nx r' s' => whileF mt mb m r' s'
            | .ct r' s' => whileF mt mb m r' s'
            | .bk r' s' => .nx r' s'
            | .rt d s' => .rt d s'
            | .exc C fs r' s' => .exc C fs r' s'
            | .bad => .bad) := hp1
          show (if true = true then _ else _)
          rw [if_pos rfl]
          refine ⟨fun t' H' => ∃ r s w, w.H = H' ∧ EnvR X.K w r t' ∧ StR X.K w s ∧ PostS X.K w W E (whileF mt mb m r s), fun t' H' q => ⟨m, Nat.lt_succ_self m, q⟩, r, s1, w1, rfl, env.ext e1, st1, ?_⟩
          cases e : mb r s1 with
          | nx r' s' =>
            rw [e] at hp2
            exact fun t' w' x' env' st' => ⟨r', s', w', rfl, env', st', hp2.ext x'⟩
          | ct r' s' =>
            rw [e] at hp2
            exact fun t' w' x' env' st' => ⟨r', s', w', rfl, env', st', hp2.ext x'⟩
          | bk r' s' => rw [e] at hp2; exact hp2
          | rt d s' => rw [e] at hp2; exact hp2
          | exc C fs r' s' => rw [e] at hp2; exact hp2
          | bad => rw [e] at hp2; exact hp2
/-! for -/
/-- an iterator that yields these -/
structure ItR (K : Frag) (w0 : Wd) (J : It) (c : Src) : Prop where
  go : ∀ (i : Nat) (d : D) (w : Wd) (s : Sto), c.its[i]? = some d → Ext w0 w → StR K w s → SrcOk c s → J.go i w.H ∧ ∀ x H', J.yld i w.H x H' → ∃ w', Ext w w' ∧ w'.H = H' ∧ StR K w' s ∧ Rep K w' x d
  stop : ∀ (w : Wd) (s : Sto), Ext w0 w → StR K w s → SrcOk c s → J.stop c.its.length w.H
abbrev tI (K : Frag) (W : WX) (m : DM Src) : TI := tM K (ItR K) W m
theorem PI.imp {tg iter : Expr} {t t' : TI} (h : PI X tg iter t) (i : ∀ σ H Q, t' σ H Q → t σ H Q) : PI X tg iter t' := ⟨fun pins s σ H Q I q => h.run pins s σ H Q I (i _ _ _ q)⟩
theorem PI.or {tg iter : Expr} {t t' : TI} (h : PI X tg iter t) (h' : PI X tg iter t') : PI X tg iter (fun σ H Q => t σ H Q ∨ t' σ H Q) := ⟨fun pins s σ H Q I q => q.elim (h.run pins s σ H Q I) (h'.run pins s σ H Q I)⟩
theorem s_for {tg iter : Expr} {body : List Stmt} {mi : DM Src} {g : DG} {mb : DS} (hp : PassesOwn (model X.prog X.w) X.A X.env X.xe) (hc : X.calm = true) (hi : PI X tg iter (tI X.K W mi)) (hg : PG X tg (tG X.K g)) (hb : PSs X body (tS X.K W mb))
    (hs : ∀ x, foldedSetIterable iter X.env x = pure x := by intro _; rfl) : PS X (.For tg iter body [] pos) (tS X.K W (forS mi g mb)) := PS.imp (ps_for hp hc hi hg hb hs) fun E t H h => by
  obtain ⟨r, s, w, rfl, env, st, hp⟩ := h
  exact hp.bind env st fun J sc s1 w1 e1 st1 r1 hp1 => by
    obtain ⟨its, cl⟩ := sc
    refine ⟨fun i m t H => i + m = its.length ∧ ∃ r s w, w.H = H ∧ Ext w1 w ∧ EnvR X.K w r t ∧ StR X.K w s ∧ PostS X.K w W E (forF ⟨its, cl⟩ g mb (its.drop i) r s), ⟨its.length, Nat.zero_add _, r, s1, w1, rfl, Ext.refl w1, env.ext e1, st1, hp1⟩, fun i m t H h => ?_⟩
    obtain ⟨him, r, s, w, rfl, ex, env, st, hp⟩ := h
    cases m with
    | zero =>
      have hi : i = its.length := by omega
      subst hi
      rw [List.drop_length] at hp
      unfold forF at hp
      by_cases ck : SrcOk ⟨its, cl⟩ s
      · rw [if_pos ck] at hp
        exact .inl ⟨r1.stop w s ex st ck, hp t w (Ext.refl w) env st⟩
      · rw [if_neg ck] at hp
        exact hp.elim
    | succ m =>
      have hlt : i < its.length := by omega
      have hd : its[i]? = some its[i] := List.getElem?_eq_getElem hlt
      rw [List.drop_eq_getElem_cons hlt] at hp
      unfold forF at hp
      by_cases ck : SrcOk ⟨its, cl⟩ s
      rotate_left
      · rw [if_neg ck] at hp
        exact hp.elim
      rw [if_pos ck] at hp
      obtain ⟨hgo, hy⟩ := r1.go i _ w s hd ex st ck
      refine .inr ⟨hgo, fun t' H' => i + 1 + m = its.length ∧ ∃ r s w, w.H = H' ∧ Ext w1 w ∧ EnvR X.K w r t' ∧ StR X.K w s ∧ PostS X.K w W E (forF ⟨its, cl⟩ g mb (its.drop (i + 1)) r s), fun t' H' q => ⟨m, Nat.lt_succ_self m, q⟩, fun x H' yl => ?_⟩
      obtain ⟨w2, x2, rfl, st2, rx⟩ := hy x H' yl
      refine ⟨r, s, w2, its[i], rfl, env.ext x2, st2, rx, ?_⟩
      cases eg : g its[i] r s with
      | none => rw [eg] at hp; exact hp.elim
      | some p =>
        rw [eg] at hp
        have hp3 := hp.ext x2
        refine fun t3 w3 x3 env3 st3 => ⟨p.1, p.2, w3, rfl, env3, st3, ?_⟩
        have hp4 := hp3.ext x3
        dsimp only at hp4
        cases e : mb p.1 p.2 with
        | nx r' s' =>
          rw [e] at hp4
          exact fun t' w' x' env' st' => ⟨by omega, r', s', w', rfl, ((ex.trans x2).trans x3).trans x', env', st', hp4.ext x'⟩
        | ct r' s' =>
          rw [e] at hp4
          exact fun t' w' x' env' st' => ⟨by omega, r', s', w', rfl, ((ex.trans x2).trans x3).trans x', env', st', hp4.ext x'⟩
        | bk r' s' => rw [e] at hp4; exact hp4
        | rt d s' => rw [e] at hp4; exact hp4
        | exc C fs r' s' => rw [e] at hp4; exact hp4
        | bad => rw [e] at hp4; exact hp4
end
end Mp
set_option Elab.async false
set_option linter.all false
set_option maxRecDepth 100000
set_option maxHeartbeats 4000000
/-! Mp: what is walked; comprehensions. -/
namespace Mp
open PySem PySem.Spec PyProof.Rows L2
def chars (z : Str) : List D := z.cps.toList.map fun c => .str ⟨#[c]⟩
def keyV : Key → D
  | .inl i => .int i
  | .inr z => .str z
/-- what a plain value yields -/
def srcD (s : Sto) : D → Option Src
  | .tup l => some ⟨l, none⟩
  | .lst l => some ⟨l, none⟩
  | .rol l => some ⟨l, none⟩
  | .str z => some ⟨chars z, none⟩
  | .dct m => some ⟨m.map fun p => keyV p.1, none⟩
  | .cel n => (match s[n]? with
    | some (some (.lst l)) => some ⟨l, some n⟩
    | _ => none)
  | _ => none
/-- a dict that is walked is locked from now on -/
def lockD (s : Sto) : D → Option (List (Key × D) × Sto)
  | .dct m => some (m, s)
  | .cel n => (match s[n]? with
    | some (some (.dct m)) => some (m, s.set n (some (.rod m)))
    | some (some (.rod m)) => some (m, s)
    | _ => none)
  | _ => none
def srcM (s : Sto) (x : D) : Res Src := match lockD s x with
  | some p => .ok ⟨p.1.map fun p => keyV p.1, none⟩ p.2
  | none => okO s (srcD s x)
def seqI (a : DE) : DM Src := bindM a fun x => fun _ s => srcM s x
def intL (lo : Int) (n : Nat) : List D := (List.range n).map fun k => .int (lo + (k : Nat))
@[irreducible] def rangeD1 (ds : List D) (s : Sto) : Res Src := match ds with
  | [.int j] => if -(2 ^ 62) ≤ j ∧ j < 2 ^ 62 then .ok ⟨intL 0 j.toNat, none⟩ s else .bad
  | _ => .bad
@[irreducible] def rangeD2 (ds : List D) (s : Sto) : Res Src := match ds with
  | [.int i, .int j] => if -(2 ^ 62) ≤ i ∧ i < 2 ^ 62 ∧ -(2 ^ 62) ≤ j ∧ j < 2 ^ 62 then .ok ⟨intL i (j - i).toNat, none⟩ s else .bad
  | _ => .bad
/-- with a step of -1 -/
@[irreducible] def rangeD3 (ds : List D) (s : Sto) : Res Src := match ds with
  | [.int i, .int j, .int c] => if c = -1 ∧ -(2 ^ 62) ≤ i ∧ i < 2 ^ 62 ∧ -(2 ^ 62) ≤ j ∧ j < 2 ^ 62 then .ok ⟨(List.range (i - j).toNat).map fun k => .int (i + (k : Nat) * -1), none⟩ s else .bad
  | _ => .bad
def argI (f : List D → Sto → Res Src) (m : DM (List D)) : DM Src := bindM m fun ds => fun _ s => f ds s
def frzL : D → Option (Bool × List D)
  | .tup l => some (false, l)
  | .lst l => some (true, l)
  | .rol l => some (true, l)
  | _ => none
def valuesI (a : DE) : DM Src := bindM a fun x => fun _ s => match lockD s x with
  | some p => .ok ⟨p.1.map fun p => p.2, none⟩ p.2
  | none => .bad
/-! ### soundness -/
section
variable {X : Cx} {tg : Expr} {pins : List (Addr × Obj)} {t : L2.St} {H : Hp} {s1 : Shared} {R : It → Hp → Prop} {E : Value → Shared → Prop}
theorem it_list {p : Addr} {xs : List V} (I : Inv X pins t H s1) (hq : SqL X.K H p xs) (q : R (Itl X.K p) H) : wpAny (model X.prog X.w) X.A (pyIter (.ref p)) (PIE X pins t tg R) E s1 := by
  obtain ⟨vs, _, pl, _⟩ := I.list hq
  refine wpAny_pyIter_list pl.isList ⟨s1.heap.objs.size, [s1.heap.objs.size], _, _, H, rfl, I.kept (t' := s1.toks) fun _ _ z => Heap.get?_push_of_some _ z, turn_list p _, ⟨_, Heap.get?_push_size _ rfl, rfl, rfl⟩, fun z hz => ?_, q⟩
  cases List.mem_singleton.mp hz
  exact I.fpOk (Nat.le_refl _) (I.hok.fresh (Nat.le_refl _))
theorem it_tup {p : Addr} {xs : List V} (I : Inv X pins t H s1) (hq : SqT X.K H p xs) (q : R (Itt X.K p) H) : wpAny (model X.prog X.w) X.A (pyIter (.ref p)) (PIE X pins t tg R) E s1 := by
  obtain ⟨vs, _, pl, _⟩ := I.tuple hq
  refine wpAny_pyIter_tuple (show s1.heap.IsTuple p vs.toArray from pl) ⟨s1.heap.objs.size, [s1.heap.objs.size], _, _, H, rfl, I.kept (t' := s1.toks) fun _ _ z => Heap.get?_push_of_some _ z, turn_tuple p _, ⟨_, Heap.get?_push_size _ rfl, rfl, rfl⟩, fun z hz => ?_, q⟩
  cases List.mem_singleton.mp hz
  exact I.fpOk (Nat.le_refl _) (I.hok.fresh (Nat.le_refl _))
theorem it_str {x : Str} {k : Tok} (I : Inv X pins t H s1) (q : R (Its x) H) : wpAny (model X.prog X.w) X.A (pyIter (.str x k)) (PIE X pins t tg R) E s1 := by
  cases ha : x.cps.all (· < 128)
  · refine wpAny_pyIter_wide ha (pi_one (tk := s1.toks) I _ (turn_str _ x k "str_iterator" (Or.inr rfl)) ⟨_, Heap.get?_push_size _ rfl, rfl, rfl⟩ q)
  · refine wpAny_pyIter_ascii ha (pi_one (tk := s1.toks) I _ (turn_str _ x k "str_ascii_iterator" (Or.inl rfl)) ⟨_, Heap.get?_push_size _ rfl, rfl, rfl⟩ q)
end
theorem it_keys {X : Cx} {tg : Expr} {pins : List (Addr × Obj)} {t : L2.St} {H : Hp} {s1 : Shared} {R : It → Hp → Prop} {E : Value → Shared → Prop} {p : Addr} {o : Obj} {l : List (Key × V)} (I : Inv X pins t H s1) (hd : H p = some (.frz o (.dK l))) (q : R (Itk p o l) H) : wpAny (model X.prog X.w) X.A (pyIter (.ref p)) (PIE X pins t tg R) E s1 := by
  obtain ⟨hs, hg, hx, es, ep, vs, hdt, hsz, _, _⟩ := I.frzK hd
  refine iter_keys hs hg hx hdt (pi_one (tk := s1.toks) I _ (turn_keys _ hdt) ⟨_, Heap.get?_push_size _ rfl, rfl, by rw [hsz] <;> rfl⟩ q)
section
variable {K : Frag} {w : Wd}
theorem itR_list {p : Addr} {vs : List V} {ds : List D} (h : LAt K w p vs) (rs : Reps K w vs ds) : ItR K w (Itl K p) ⟨ds, none⟩ where
  go := fun i d w' s hd e st _ => by
    obtain ⟨v, hv, rv⟩ := rs.get hd
    refine ⟨⟨vs, v, (h.ext e).sq, hv⟩, fun x H' y => ?_⟩
    obtain ⟨rfl, y⟩ := y
    have e2 := (y vs (h.ext e).sq).symm.trans hv
    cases e2
    exact ⟨w', Ext.refl w', rfl, st, rv.ext e⟩
  stop := fun w' s e st _ => ⟨vs, (h.ext e).sq, by rw [rs.length]; exact Nat.le_refl _⟩
theorem itR_cell {p : Addr} {n : Nat} {ds : List D} (h : w.A n = some p) : ItR K w (Itl K p) ⟨ds, some n⟩ where
  go := fun i d w' s hd e st ck => by
    obtain ⟨a1, h1, _, vs, hh, rs⟩ := st.at_ n _ ck
    have ea : a1 = p := Option.some.inj (h1.symm.trans (e.A n p h))
    subst ea
    obtain ⟨v, hv, rv⟩ := rs.get hd
    refine ⟨⟨vs, v, SqL.of hh, hv⟩, fun x H' y => ?_⟩
    obtain ⟨rfl, y⟩ := y
    have e2 := (y vs (SqL.of hh)).symm.trans hv
    cases e2
    exact ⟨w', Ext.refl w', rfl, st, rv⟩
  stop := fun w' s e st ck => by
    obtain ⟨a1, h1, _, vs, hh, rs⟩ := st.at_ n _ ck
    have ea : a1 = p := Option.some.inj (h1.symm.trans (e.A n p h))
    subst ea
    exact ⟨vs, SqL.of hh, by rw [rs.length]; exact Nat.le_refl _⟩
theorem itR_tup {p : Addr} {vs : List V} {ds : List D} (h : TAt K w p vs) (rs : Reps K w vs ds) : ItR K w (Itt K p) ⟨ds, none⟩ where
  go := fun i d w' s hd e st _ => by
    obtain ⟨v, hv, rv⟩ := rs.get hd
    refine ⟨⟨vs, v, (h.ext e).sq, hv⟩, fun x H' y => ?_⟩
    obtain ⟨rfl, y⟩ := y
    have e2 := (y vs (h.ext e).sq).symm.trans hv
    cases e2
    exact ⟨w', Ext.refl w', rfl, st, rv.ext e⟩
  stop := fun w' s e st _ => ⟨vs, (h.ext e).sq, by rw [rs.length]; exact Nat.le_refl _⟩
theorem itR_str {x : Str} : ItR K w (Its x) ⟨chars x, none⟩ where
  go := fun i d w' s hd e st _ => by
    have hd' : (x.cps.toList.map fun c => D.str ⟨#[c]⟩)[i]? = some d := hd
    rw [List.getElem?_map, Array.getElem?_toList] at hd'
    cases q : x.cps[i]? with
    | none => rw [q] at hd'; cases hd'
    | some c =>
      rw [q] at hd'
      have hl : i < x.cps.size := (Array.getElem?_eq_some_iff.mp q).1
      refine ⟨hl, fun y H' yl => ?_⟩
      obtain ⟨rfl, c2, q2, rfl⟩ := yl
      rw [q] at q2
      cases q2
      cases hd'
      exact ⟨w', Ext.refl w', rfl, st, .str _⟩
  stop := fun w' s e st _ => by
    show x.cps.size ≤ (x.cps.toList.map _).length
    rw [List.length_map, Array.length_toList]
    exact Nat.le_refl _
theorem itR_range {lo : Int} {n : Nat} : ItR K w (Itr lo n) ⟨intL lo n, none⟩ where
  go := fun i d w' s hd e st _ => by
    have hd' : ((List.range n).map fun k => D.int (lo + (k : Nat)))[i]? = some d := hd
    rw [List.getElem?_map] at hd'
    by_cases hi : i < n
    · rw [List.getElem?_range hi] at hd'
      cases hd'
      refine ⟨hi, fun x H' y => ?_⟩
      obtain ⟨rfl, rfl⟩ := y
      exact ⟨w', Ext.refl w', rfl, st, .int _⟩
    · rw [List.getElem?_eq_none (by rw [List.length_range]; omega)] at hd'
      cases hd'
  stop := fun w' s e st _ => by
    show n ≤ ((List.range n).map _).length
    rw [List.length_map, List.length_range]
    exact Nat.le_refl _
theorem itR_rangeC {lo c : Int} {n : Nat} : ItR K w (Itc lo c n) ⟨(List.range n).map fun k => .int (lo + (k : Nat) * c), none⟩ where
  go := fun i d w' s hd e st _ => by
    have hd' : ((List.range n).map fun k => D.int (lo + (k : Nat) * c))[i]? = some d := hd
    rw [List.getElem?_map] at hd'
    by_cases hi : i < n
    · rw [List.getElem?_range hi] at hd'
      cases hd'
      refine ⟨hi, fun x H' y => ?_⟩
      obtain ⟨rfl, rfl⟩ := y
      exact ⟨w', Ext.refl w', rfl, st, .int _⟩
    · rw [List.getElem?_eq_none (by rw [List.length_range]; omega)] at hd'
      cases hd'
  stop := fun w' s e st _ => by
    show n ≤ ((List.range n).map _).length
    rw [List.length_map, List.length_range]
    exact Nat.le_refl _
theorem rep_key {k : Key} : Rep K w (kV k) (keyV k) := by
  cases k with
  | inl i => exact .int i
  | inr z => exact .str z
theorem KVR.get {T : Type} : ∀ {l : List (T × V)} {m : List (T × D)} {i : Nat} {p : T × D}, KVR K w l m → m[i]? = some p → ∃ v, l[i]? = some (p.1, v) ∧ Rep K w v p.2
  | _, _, _, _, .nil, h => by simp at h
  | _, _, 0, _, .cons h _, e => by
    simp at e
    subst e
    exact ⟨_, rfl, h⟩
  | _, _, i + 1, _, .cons _ r, e => by
    simp at e
    obtain ⟨v, h1, h2⟩ := r.get e
    exact ⟨v, by simpa using h1, h2⟩
theorem itR_keys {p : Addr} {o : Obj} {l : List (Key × V)} {m : List (Key × D)} (z : w.Z p) (h : w.H p = some (.frz o (.dK l))) (r : KVR K w l m) : ItR K w (Itk p o l) ⟨m.map fun q => keyV q.1, none⟩ where
  go := fun i d w' s hd e st _ => by
    have hd' : (m.map fun q => keyV q.1)[i]? = some d := hd
    rw [List.getElem?_map] at hd'
    cases q : m[i]? with
    | none => rw [q] at hd'; cases hd'
    | some kd =>
      rw [q] at hd'
      cases hd'
      obtain ⟨v, hv, _⟩ := r.get q
      have hl : i < l.length := (List.getElem?_eq_some_iff.mp hv).1
      refine ⟨⟨(e.H p z).trans h, hl⟩, fun x H' y => ?_⟩
      obtain ⟨rfl, k2, v2, q2, rfl⟩ := y
      rw [hv] at q2
      cases q2
      exact ⟨w', Ext.refl w', rfl, st, rep_key⟩
  stop := fun w' s e st _ => ⟨(e.H p z).trans h, by
    show l.length ≤ (m.map _).length
    rw [List.length_map, r.length]
    exact Nat.le_refl _⟩
theorem itR_vals {p : Addr} {o : Obj} {l : List (Key × V)} {m : List (Key × D)} (z : w.Z p) (h : w.H p = some (.frz o (.dK l))) (r : KVR K w l m) : ItR K w (Itd p o l) ⟨m.map fun q => q.2, none⟩ where
  go := fun i d w' s hd e st _ => by
    have hd' : (m.map fun q => q.2)[i]? = some d := hd
    rw [List.getElem?_map] at hd'
    cases q : m[i]? with
    | none => rw [q] at hd'; cases hd'
    | some kd =>
      rw [q] at hd'
      cases hd'
      obtain ⟨v, hv, rv⟩ := r.get q
      have hl : i < l.length := (List.getElem?_eq_some_iff.mp hv).1
      refine ⟨⟨(e.H p z).trans h, hl⟩, fun x H' y => ?_⟩
      obtain ⟨rfl, k2, q2⟩ := y
      rw [hv] at q2
      cases q2
      exact ⟨w', Ext.refl w', rfl, st, rv.ext e⟩
  stop := fun w' s e st _ => ⟨(e.H p z).trans h, by
    show l.length ≤ (m.map _).length
    rw [List.length_map, r.length]
    exact Nat.le_refl _⟩
end
section
variable {X : Cx} {W : WX} {tg a b c : Expr} {es : List Expr} {pos p : Pos} {ma mb mc : DE} {mr : DM (List D)}
/-- a name, a call, an attribute .. that is walked -/
theorem pe_frz {e : Expr} {t : TE} (he : PE X e t) : PE X e (fun σ H Q => t σ H fun v H1 => Q v H1 ∨ ∃ d u, v = .ref d ∧ H1 d = some u ∧ Mut (some u) ∧ ∀ od, Q v (upd H1 d (.frz od u))) :=
  ⟨fun pins s σ H Q I h => thn (he.run pins s σ H _ I h) fun v s1 ⟨x, H1, I1, r1, q⟩ => q.elim (fun q => ⟨x, H1, I1, r1, q⟩) fun ⟨d, u, _, hd, mu, q⟩ => let ⟨od, I2⟩ := I1.lock hd mu; ⟨x, _, I2, r1, q od⟩⟩
/-- a dict that is locked -/
theorem lock_ok {w : Wd} {s s' : Sto} {x : V} {d : D} {m : List (Key × D)} (st : StR X.K w s) (r : Rep X.K w x d) (h : lockD s d = some (m, s')) :
    ∃ a l, x = .ref a ∧ ((∃ o, w.Z a ∧ w.H a = some (.frz o (.dK l)) ∧ KVR X.K w l m ∧ s' = s) ∨ (w.H a = some (.dK l) ∧ ∀ o, Ext w (w.lock a (.frz o (.dK l))) ∧ StR X.K (w.lock a (.frz o (.dK l))) s' ∧ KVR X.K (w.lock a (.frz o (.dK l))) l m)) := by
  cases d with
  | dct m1 =>
    cases h
    obtain ⟨a, o, l, rfl, z, h1, h2⟩ := r.dct_inv
    exact ⟨a, l, rfl, .inl ⟨o, z, h1, h2, rfl⟩⟩
  | cel n =>
    unfold lockD at h
    dsimp only at h
    cases r with
    | cel ha =>
      cases e : s[n]? with
      | none => rw [e] at h; cases h
      | some oc =>
        rw [e] at h
        cases oc with
        | none => cases h
        | some c =>
          cases c with
          | dct l1 =>
            cases h
            obtain ⟨a1, h1, hz, l, hh, rs⟩ := st.at_ n _ e
            have ea := Option.some.inj (h1.symm.trans ha)
            subst ea
            refine ⟨_, l, rfl, .inr ⟨hh, fun o => ?_⟩⟩
            have ex : Ext w (w.lock a1 (.frz o (.dK l))) := Wd.lock_ext hz (st.np n _ a1 e h1)
            exact ⟨ex, Wd.lock_st st e h1 hz ⟨o, l, .inr rfl, upd_same, rs.ext ex⟩, rs.ext ex⟩
          | rod l1 =>
            cases h
            obtain ⟨a1, h1, _, o, l, z, hh, rs⟩ := st.at_ n _ e
            have ea := Option.some.inj (h1.symm.trans ha)
            subst ea
            exact ⟨_, l, rfl, .inl ⟨o, z, hh, rs, rfl⟩⟩
          | _ => cases h
  | _ => cases h
theorem i_seq (ha : PE X a (tE X.K W ma)) : PI X tg a (tI X.K W (seqI ma)) := by
  refine ⟨fun pins s t H R I h => ?_⟩
  obtain ⟨r, so, w, rfl, env, st, hp⟩ := h
  refine thn (ha.run pins s t w.H (fun x H1 => ∃ d s1 w1, w1.H = H1 ∧ Ext w w1 ∧ StR X.K w1 s1 ∧ Rep X.K w1 x d ∧ Post X.K (ItR X.K) w1 (fun c d H' => W c d t H') R (srcM s1 d)) I (hp.bind env st fun x d s1 w1 e1 st1 r1 hp1 => ⟨d, s1, w1, rfl, e1, st1, r1, hp1⟩)) fun v s1 h => ?_
  obtain ⟨x, H1, I1, rx, d, so1, w1, rfl, e1, st1, r1, hp1⟩ := h
  unfold srcM at hp1
  cases el : lockD so1 d with
  | some ms =>
    obtain ⟨m, so2⟩ := ms
    rw [el] at hp1
    obtain ⟨a, l, rfl, q⟩ := lock_ok st1 r1 el
    cases rx
    rcases q with ⟨o, z, hh, kv, rfl⟩ | ⟨hh, q⟩
    · exact it_keys I1 hh (hp1.pure st1 (itR_keys z hh kv))
    · obtain ⟨od, I2⟩ := I1.lock hh trivial
      obtain ⟨ex, st2, kv⟩ := q od
      exact it_keys I2 upd_same (hp1 _ (w1.lock a (.frz od (.dK l))) ex st2 (itR_keys (.inr rfl) upd_same kv))
  | none =>
  rw [el] at hp1
  dsimp only at hp1
  cases r1 with
  | tup hh rs =>
    cases rx
    exact it_tup I1 hh.sq (hp1.pure st1 (itR_tup hh rs))
  | lst z hh rs =>
    cases rx
    exact it_list I1 (SqL.of hh) (hp1.pure st1 (itR_list (.inl ⟨z, .inl hh⟩) rs))
  | rol hh rs =>
    cases rx
    exact it_list I1 hh.sq (hp1.pure st1 (itR_list hh rs))
  | str z =>
    obtain ⟨k, rfl⟩ := rx
    exact it_str I1 (hp1.pure st1 itR_str)
  | dct z hh hl rs => cases el
  | @cel n a0 hA =>
    cases rx
    unfold srcD at hp1
    dsimp only at hp1
    cases e : so1[n]? with
    | none => rw [e] at hp1; exact hp1.elim
    | some o =>
      cases o with
      | none => rw [e] at hp1; exact hp1.elim
      | some ct =>
        cases ct with
        | lst l =>
          rw [e] at hp1
          obtain ⟨a1, h1, _, vs, hh, rs⟩ := st1.at_ n _ e
          have ea : a1 = a0 := Option.some.inj (h1.symm.trans hA)
          subst ea
          exact it_list I1 (SqL.of hh) (hp1.pure st1 (itR_cell hA))
        | _ => rw [e] at hp1; exact hp1.elim
  | _ => exact hp1.elim
theorem i_range1 (hg : Gl X "range") (hm : X.mg "range" = none) (ha : PA X [a] (tA X.K W mr)) (hs : starEach [a] X.env = [(false, eval a X.env)] := by rfl) : PI X tg (.Call (.Name "range" p) [a] [] pos) (tI X.K W (argI rangeD1 mr)) :=
  PI.imp (pi_range1 hg hm ha hs) fun t H Q h => by
    obtain ⟨r, s, w, rfl, env, st, hp⟩ := h
    exact hp.bind env st fun vs ds s1 w1 e1 st1 r1 hp1 => by
      unfold rangeD1 at hp1
      split at hp1
      · rename_i j
        cases r1 with
        | cons q1 r2 =>
          cases q1
          cases r2
          split at hp1
          · rename_i hb
            exact ⟨j, rfl, hb.1, hb.2, hp1.pure st1 itR_range⟩
          · exact hp1.elim
      · exact hp1.elim
theorem i_range2 (hg : Gl X "range") (hm : X.mg "range" = none) (ha : PA X [a, b] (tA X.K W mr)) (hs : starEach [a, b] X.env = [(false, eval a X.env), (false, eval b X.env)] := by rfl) (hs2 : starEach [b] X.env = [(false, eval b X.env)] := by rfl) :
    PI X tg (.Call (.Name "range" p) [a, b] [] pos) (tI X.K W (argI rangeD2 mr)) :=
  PI.imp (pi_range2 hg hm ha hs hs2) fun t H Q h => by
    obtain ⟨r, s, w, rfl, env, st, hp⟩ := h
    exact hp.bind env st fun vs ds s1 w1 e1 st1 r1 hp1 => by
      unfold rangeD2 at hp1
      split at hp1
      · rename_i i j
        cases r1 with
        | cons q1 r2 =>
          cases q1
          cases r2 with
          | cons q2 r3 =>
            cases q2
            cases r3
            split at hp1
            · rename_i hb
              exact ⟨i, j, rfl, hb, hp1.pure st1 itR_range⟩
            · exact hp1.elim
      · exact hp1.elim
theorem i_range3 (hg : Gl X "range") (hm : X.mg "range" = none) (ha : PA X [a, b, c] (tA X.K W mr)) (hs : starEach [a, b, c] X.env = (false, eval a X.env) :: starEach [b, c] X.env := by rfl) (hpl : (backTo pos (starEach [b, c] X.env)).any (·.1) = false := by rfl) :
    PI X tg (.Call (.Name "range" p) [a, b, c] [] pos) (tI X.K W (argI rangeD3 mr)) :=
  PI.imp (pi_range3 hg hm ha hs hpl) fun t H Q h => by
    obtain ⟨r, s, w, rfl, env, st, hp⟩ := h
    exact hp.bind env st fun vs ds s1 w1 e1 st1 r1 hp1 => by
      unfold rangeD3 at hp1
      split at hp1
      · rename_i i j k
        cases r1 with
        | cons q1 r2 =>
          cases q1
          cases r2 with
          | cons q2 r3 =>
            cases q2
            cases r3 with
            | cons q3 r4 =>
              cases q3
              cases r4
              split at hp1
              · rename_i hb
                obtain ⟨rfl, hb⟩ := hb
                exact ⟨i, j, -1, _, rfl, RgC.neg hb.1 hb.2.1 hb.2.2.1 hb.2.2.2, hp1.pure st1 itR_rangeC⟩
              · exact hp1.elim
      · exact hp1.elim
theorem frzL_ok {K : Frag} {w : Wd} {x : V} {d : D} {k : Bool} {l : List D} (r : Rep K w x d) (h : frzL d = some (k, l)) : ∃ q vs, x = .ref q ∧ Reps K w vs l ∧ (if k = true then LAt K w q vs else TAt K w q vs) := by
  cases r with
  | tup hh rs =>
    cases h
    exact ⟨_, _, rfl, rs, hh⟩
  | lst z hh rs =>
    cases h
    exact ⟨_, _, rfl, rs, .inl ⟨z, .inl hh⟩⟩
  | rol hh rs =>
    cases h
    exact ⟨_, _, rfl, rs, hh⟩
  | _ => cases h
theorem i_values {apos : Pos} (ha : PE X a (tE X.K W ma)) (hbase : attributeBase a "values" X.env (eval a X.env) = eval a X.env := by rfl) (hline : (apos.endLine == pos.line) = true := by rfl) :
    PI X tg (.Call (.Attribute a "values" apos) [] [] pos) (tI X.K W (valuesI ma)) :=
  PI.imp (pi_values (pe_frz ha) hbase hline) fun t H Q h => by
    obtain ⟨r, s, w, rfl, env, st, hp⟩ := h
    exact hp.bind env st fun x d s1 w1 e1 st1 r1 hp1 => by
      cases el : lockD s1 d with
      | none => rw [el] at hp1; exact hp1.elim
      | some ms =>
        obtain ⟨m, so2⟩ := ms
        rw [el] at hp1
        obtain ⟨a, l, rfl, q⟩ := lock_ok st1 r1 el
        rcases q with ⟨o, z, hh, kv, rfl⟩ | ⟨hh, q⟩
        · exact .inl ⟨a, o, l, rfl, hh, hp1.pure st1 (itR_vals z hh kv)⟩
        · refine .inr ⟨a, .dK l, rfl, hh, trivial, fun od => ⟨a, od, l, rfl, upd_same, ?_⟩⟩
          obtain ⟨ex, st2, kv⟩ := q od
          exact hp1 _ (w1.lock a (.frz od (.dK l))) ex st2 (itR_vals (.inr rfl) upd_same kv)
end
end Mp
set_option Elab.async false
set_option linter.all false
set_option maxRecDepth 100000
set_option maxHeartbeats 4000000
/-! Mp: comprehensions. -/
namespace Mp
open PySem PySem.Spec PyProof.Rows L2
def wipeE (r : En) : List Nat → En
  | [] => r
  | v :: vs => (wipeE r vs).set v none
open Classical in
noncomputable def lcF (c : Src) (g : DG) (tt : DM Bool) (te : DE) (r : En) : List D → List D → Sto → Res (List D)
  | [], acc, s => if SrcOk c s then .ok acc s else .bad
  | d :: l, acc, s => if SrcOk c s then (match g d r s with
    | none => .bad
    | some p => (match tt p.1 p.2 with
      | .ok k s1 => if k = true then (match te p.1 s1 with
        | .ok y s2 => if acc.length < sizeLine then lcF c g tt te r l (acc ++ [y]) s2 else .bad
        | _ => .bad) else lcF c g tt te r l acc s1
      | _ => .bad)) else .bad
noncomputable def lcM (k : Bool) (mi : DM Src) (g : DG) (tt : DM Bool) (te : DE) (vs : List Nat) : DE := bindM mi fun c => fun r s => match lcF c g tt te (wipeE r vs) c.its [] s with
  | .ok acc s' => newL k acc s'
  | _ => .bad
def yesM : DM Bool := pureM true
abbrev W0 : WX := fun _ _ _ _ => False
/-! ### targets that keep the rest -/
def tGw (K : Frag) (g : DG) (ns : List Nat) : TG := fun v t H Q => ∃ r s w d, w.H = H ∧ EnvR K w r t ∧ StR K w s ∧ Rep K w v d ∧ (match g d r s with
  | some p => ∀ t' w', Ext w w' → EnvR K w' p.1 t' → StR K w' p.2 → wipe t' ns = wipe t ns → Q t' w'.H
  | none => False)
theorem set_comm' {T : Type} {l : List T} {i j : Nat} {x y : T} (h : i ≠ j) : (l.set i x).set j y = (l.set j y).set i x := List.set_comm x y h
theorem wipe_set {t : L2.St} {i : Nat} {x : Option V} : ∀ {ns : List Nat}, i ∈ ns → wipe (t.set i x) ns = wipe t ns
  | [], h => by simp at h
  | n :: ns, h => by
    unfold wipe
    by_cases hn : i ∈ ns
    · rw [wipe_set hn]
    · have e : i = n := by
        rcases List.mem_cons.mp h with h | h
        · exact h
        · exact absurd h hn
      subst e
      have key : ∀ {ms : List Nat}, i ∉ ms → wipe (t.set i x) ms = (wipe t ms).set i x := by
        intro ms
        induction ms with
        | nil => intro _; rfl
        | cons m ms ih =>
          intro hm
          have h1 : m ≠ i := fun z => hm (z ▸ List.mem_cons_self)
          have h2 : i ∉ ms := fun z => hm (List.mem_cons_of_mem _ z)
          unfold wipe
          rw [ih h2, set_comm' h1.symm]
      rw [key hn, List.set_set]
theorem wipe_env {K : Frag} {w : Wd} {r : En} {t : L2.St} (h : EnvR K w r t) : ∀ ns : List Nat, EnvR K w (wipeE r ns) (wipe t ns)
  | [] => h
  | n :: ns => (wipe_env h ns).unset n
section
variable {X : Cx} {a : Expr} {es : List Expr} {pos : Pos} {ns : List Nat}
theorem gw_name {i : Nat} {x : Str} (hN : X.N.Nodup) (hi : X.N[i]? = some x) (hx : Loc X.env.scope x) (hm : i ∈ ns) (hf : X.fn x = true ∨ X.env.scope.names.lookup x = some .local := by first | exact .inl rfl | exact .inr rfl | assumption) : PG X (.Name x pos) (tGw X.K (nameG i) ns) :=
  PG.imp (pg_name hN hi hx hf) fun v t H Q h => by
    obtain ⟨r, s, w, d, rfl, env, st, rv, hp⟩ := h
    exact hp _ w (Ext.refl w) (env.set rv i) st (wipe_set hm)
theorem ts_nil {W : WX} : PTs X [] (tT X.K W yesM) := ⟨fun pins s t H Q I h => by
  obtain ⟨r, so, w, rfl, env, st, hp⟩ := h
  exact pts_nil.run pins s t w.H Q I (hp.pure st rfl)⟩
theorem ts_one {W : WX} {mt : DM Bool} (h : PT X a (tT X.K W mt)) : PTs X [a] (tT X.K W mt) := pts_one h
end
/-! ### a pinned list -/
def Wd.pin (w : Wd) (p : Addr) (o : HO) : Wd := ⟨w.A, w.Z, fun a => w.P a ∨ a = p, upd w.H p o⟩
section
variable {K : Frag} {w w0 : Wd} {s : Sto} {p : Addr} {o : HO}
theorem Wd.pin_ext (st : StR K w s) (h : w.H p = none) : Ext w (w.pin p o) :=
  ⟨⟨fun _ _ h => h, fun _ h => h, fun a z => upd_ne fun e => st.fz a z (e ▸ h)⟩, fun _ h => .inl h, fun a z => upd_ne fun e => (st.pz a z).2 (e ▸ h)⟩
theorem Wd.pin_st (st : StR K w s) (h : w.H p = none) : StR K (w.pin p o) s := by
  have e := Wd.pin_ext (o := o) st h
  refine ⟨fun n ct q => ?_, fun n ct a q ha z => ?_, fun a z => ?_, st.inj, fun a z => ?_, st.new⟩
  · obtain ⟨a, h1, h2, h3⟩ := st.at_ n ct q
    obtain ⟨ob, ho, _⟩ := h3.some
    exact ⟨a, h1, h2, h3.same e (upd_ne (ne_of_none ho h))⟩
  · obtain ⟨b, h1, h2, h3⟩ := st.at_ n ct q
    obtain ⟨ob, ho, _⟩ := h3.some
    have eb : b = a := Option.some.inj (h1.symm.trans ha)
    subst eb
    exact z.elim (st.np n ct b q ha) (ne_of_none ho h)
  · rcases z with z | z
    · have ne : a ≠ p := fun q => (st.pz a z).2 (q ▸ h)
      exact ⟨(st.pz a z).1, by rw [show (w.pin p o).H a = w.H a from upd_ne ne]; exact (st.pz a z).2⟩
    · subst z
      exact ⟨fun q => st.fz a q h, by rw [show (w.pin a o).H a = some o from upd_same]; exact fun q => nomatch q⟩
  · have ne : a ≠ p := fun q => st.fz a z (q ▸ h)
    rw [show (w.pin p o).H a = w.H a from upd_ne ne]
    exact st.fz a z
theorem Wd.turn_ex0 (st : StR K w s) (hP : w.P p) : Ex0 w (w.put p o) := ⟨fun _ _ h => h, fun _ h => h, fun a z => upd_ne fun e => (st.pz p hP).1 (e ▸ z)⟩
theorem Wd.turn_ext (e : Ext w0 w) (h1 : ¬ w0.Z p) (h2 : ¬ w0.P p) : Ext w0 (w.put p o) :=
  ⟨⟨e.A, e.Z, fun a z => (show upd w.H p o a = w.H a from upd_ne fun q => h1 (q ▸ z)).trans (e.H a z)⟩, e.P, fun a z => (show upd w.H p o a = w.H a from upd_ne fun q => h2 (q ▸ z)).trans (e.HP a z)⟩
theorem Wd.turn_st (st : StR K w s) (hP : w.P p) : StR K (w.put p o) s := by
  have e := Wd.turn_ex0 (o := o) st hP
  refine ⟨fun n ct q => ?_, st.np, fun a z => ⟨(st.pz a z).1, ?_⟩, st.inj, fun a z => ?_, st.new⟩
  · obtain ⟨a, h1, h2, h3⟩ := st.at_ n ct q
    have ne : a ≠ p := fun q2 => st.np n ct a q h1 (q2 ▸ hP)
    exact ⟨a, h1, h2, h3.sam0 e (upd_ne ne)⟩
  · show upd w.H p o a ≠ none
    by_cases ha : a = p
    · rw [ha, upd_same]; exact fun q => nomatch q
    · rw [upd_ne ha]; exact (st.pz a z).2
  · show upd w.H p o a ≠ none
    by_cases ha : a = p
    · rw [ha, upd_same]; exact fun q => nomatch q
    · rw [upd_ne ha]; exact st.fz a z
/-- the pinned list is let go: frozen, or a cell -/
theorem Post.unpin {E : XK} {Q : VK} {k : Bool} {ds : List D} {vs : List V} (hp : Post K (Rep K) w0 E Q (Mp.newL k ds s)) (e : Ext w0 w) (st : StR K w s) (h1 : ¬ w0.P p) (hP : w.P p) (hh : w.H p = some (.lst vs)) (rs : Reps K w vs ds) : Q (.ref p) w.H := by
  have nz := (st.pz p hP).1
  cases k with
  | false =>
    have hp' : Post K (Rep K) w0 E Q (.ok (.lst ds) s) := hp
    let w2 : Wd := ⟨w.A, fun a => w.Z a ∨ a = p, fun a => w.P a ∧ a ≠ p, w.H⟩
    have e0 : Ex0 w w2 := ⟨fun _ _ h => h, fun _ h => .inl h, fun _ _ => rfl⟩
    have e2 : Ext w0 w2 := ⟨⟨e.A, fun a z => .inl (e.Z a z), e.H⟩, fun a z => ⟨e.P a z, fun q => h1 (q ▸ z)⟩, e.HP⟩
    refine hp' (.ref p) w2 e2 ⟨fun n ct q => ?_, fun n ct a q ha z => st.np n ct a q ha z.1, fun a z => ⟨fun q => q.elim (st.pz a z.1).1 z.2, (st.pz a z.1).2⟩, st.inj, fun a z => ?_, st.new⟩ (.lst (.inr rfl) hh (rs.ex0 e0))
    · obtain ⟨a, k1, k2, k3⟩ := st.at_ n ct q
      exact ⟨a, k1, k2.mono (w' := w2) fun (z : w.Z a ∨ a = p) => Or.elim z id fun z => absurd (z ▸ hP) (st.np n ct a q k1), k3.sam0 e0 rfl⟩
    · rcases z with z | z
      · exact st.fz a z
      · rw [z, show w2.H p = some (.lst vs) from hh]
        exact fun q => nomatch q
  | true =>
    have hp' : Post K (Rep K) w0 E Q (.ok (.cel s.length) (s ++ [some (.lst ds)])) := hp
    let w2 : Wd := ⟨fun m => if m = s.length then some p else w.A m, w.Z, fun a => w.P a ∧ a ≠ p, w.H⟩
    have hA : ∀ m a, w.A m = some a → w2.A m = some a := fun m a q => by
      have ne : ¬ m = s.length := fun z => by
        rw [st.new m (by omega)] at q
        exact nomatch q
      show (if m = s.length then some p else w.A m) = some a
      rw [if_neg ne]
      exact q
    have e0 : Ex0 w w2 := ⟨hA, fun _ h => h, fun _ _ => rfl⟩
    have e2 : Ext w0 w2 := ⟨⟨fun n a q => hA n a (e.A n a q), e.Z, e.H⟩, fun a z => ⟨e.P a z, fun q => h1 (q ▸ z)⟩, e.HP⟩
    have at' : ∀ m ct, (s ++ [some (Ct.lst ds)])[m]? = some (some ct) → (m < s.length ∧ s[m]? = some (some ct)) ∨ (m = s.length ∧ ct = .lst ds) := fun m ct q => by
      by_cases hm : m < s.length
      · rw [List.getElem?_append_left hm] at q
        exact .inl ⟨hm, q⟩
      · rw [List.getElem?_append_right (by omega)] at q
        by_cases h0 : m - s.length = 0
        · rw [h0] at q
          exact .inr ⟨by omega, by simpa using q.symm⟩
        · rw [List.getElem?_eq_none (by simp; omega)] at q
          cases q
    have AtN : w2.A s.length = some p := if_pos rfl
    have AtO : ∀ m, m < s.length → w2.A m = w.A m := fun m hm => if_neg (by omega)
    have npo : ∀ m ct a, s[m]? = some (some ct) → w.A m = some a → a ≠ p := fun m ct a q ha z => st.np m ct a q ha (z ▸ hP)
    refine hp' (.ref p) w2 e2 ⟨fun m ct q => ?_, fun m ct a q ha z => ?_, fun a z => st.pz a z.1, fun m k b x y qm qk hm hk => ?_, st.fz, fun m hm => ?_⟩ (.cel AtN)
    · rcases at' m ct q with ⟨hm, q⟩ | ⟨rfl, rfl⟩
      · obtain ⟨a, k1, k2, k3⟩ := st.at_ m ct q
        exact ⟨a, hA m a k1, k2, k3.sam0 e0 rfl⟩
      · exact ⟨p, AtN, nz, vs, hh, rs.ex0 e0⟩
    · rcases at' m ct q with ⟨hm, q⟩ | ⟨rfl, rfl⟩
      · rw [AtO m hm] at ha
        exact st.np m ct a q ha z.1
      · rw [AtN] at ha
        cases ha
        exact z.2 rfl
    · rcases at' m x qm with ⟨lm, qm'⟩ | ⟨rfl, rfl⟩
      · rcases at' k y qk with ⟨lk, qk'⟩ | ⟨rfl, rfl⟩
        · rw [AtO m lm] at hm
          rw [AtO k lk] at hk
          exact st.inj m k b x y qm' qk' hm hk
        · rw [AtO m lm] at hm
          rw [AtN] at hk
          cases hk
          exact absurd rfl (npo m x _ qm' hm)
      · rcases at' k y qk with ⟨lk, qk'⟩ | ⟨rfl, rfl⟩
        · rw [AtO k lk] at hk
          rw [AtN] at hm
          cases hm
          exact absurd rfl (npo k y _ qk' hk)
        · rfl
    · rw [List.length_append] at hm
      have hm' : s.length + 1 ≤ m := hm
      show (if m = s.length then some p else w.A m) = none
      rw [if_neg (by omega)]
      exact st.new m (by omega)
end
/-! ### the reading -/
theorem lc_imp {K : Frag} {W : WX} {k : Bool} {mi : DM Src} {g : DG} {tt : DM Bool} {te : DE} {ns : List Nat} {t : L2.St} {H : Hp} {Q : VK} (h : tE K W (lcM k mi g tt te ns) t H Q) : tLc (tI K W mi) (tGw K g ns) (tT K W0 tt) (tE K W0 te) ns t H Q := by
  obtain ⟨r, s, w, rfl, env, st, hp⟩ := h
  exact hp.bind env st fun J sc s1 w1 e1 st1 r1 hp1 => by
    obtain ⟨its, cl⟩ := sc
    intro Dn nD
    have hz : ¬ w1.Z Dn := fun z => st1.fz Dn z nD
    have hP : ¬ w1.P Dn := fun z => (st1.pz Dn z).2 nD
    have env1 := env.ext e1
    cases ef : lcF ⟨its, cl⟩ g tt te (wipeE r ns) its [] s1 with
    | exc C fs s' => simp only [ef] at hp1; exact hp1.elim
    | bad => simp only [ef] at hp1; exact hp1.elim
    | ok fin sf =>
      simp only [ef] at hp1
      refine ⟨fun i m H => i + m = its.length ∧ ∃ (w : Wd) (s : Sto) (acc : List D) (vs : List V), w.H = H ∧ Ext w1 w ∧ StR K w s ∧ w.P Dn ∧ w.H Dn = some (.lst vs) ∧ Reps K w vs acc ∧ lcF ⟨its, cl⟩ g tt te (wipeE r ns) (its.drop i) acc s = .ok fin sf,
        ⟨its.length, Nat.zero_add _, w1.pin Dn (.lst []), s1, [], [], rfl, Wd.pin_ext st1 nD, Wd.pin_st st1 nD, .inr rfl, upd_same, .nil, ef⟩, fun i m H h => ?_⟩
      obtain ⟨him, w2, s2, acc, vs, rfl, x2, st2, hP2, hh2, rs2, ef2⟩ := h
      cases m with
      | zero =>
        have hi : i = its.length := by omega
        subst hi
        rw [List.drop_length] at ef2
        unfold lcF at ef2
        by_cases ck : SrcOk ⟨its, cl⟩ s2
        · rw [if_pos ck] at ef2
          cases ef2
          exact .inl ⟨r1.stop w2 sf x2 st2 ck, Post.unpin hp1 x2 st2 hP hP2 hh2 rs2⟩
        · rw [if_neg ck] at ef2
          cases ef2
      | succ m =>
        have hlt : i < its.length := by omega
        have hd : its[i]? = some its[i] := List.getElem?_eq_getElem hlt
        rw [List.drop_eq_getElem_cons hlt] at ef2
        unfold lcF at ef2
        by_cases ck : SrcOk ⟨its, cl⟩ s2
        rotate_left
        · rw [if_neg ck] at ef2
          cases ef2
        rw [if_pos ck] at ef2
        obtain ⟨hgo, hy⟩ := r1.go i _ w2 s2 hd x2 st2 ck
        refine .inr ⟨hgo, fun H' => i + 1 + m = its.length ∧ ∃ (w : Wd) (s : Sto) (acc : List D) (vs : List V), w.H = H' ∧ Ext w1 w ∧ StR K w s ∧ w.P Dn ∧ w.H Dn = some (.lst vs) ∧ Reps K w vs acc ∧ lcF ⟨its, cl⟩ g tt te (wipeE r ns) (its.drop (i + 1)) acc s = .ok fin sf,
          fun H' q => ⟨m, Nat.lt_succ_self m, q⟩, fun x H' yl => ?_⟩
        obtain ⟨w3, x3, rfl, st3, rx⟩ := hy x H' yl
        refine ⟨wipeE r ns, s2, w3, its[i], rfl, (wipe_env env1 ns).ext (x2.trans x3), st3, rx, ?_⟩
        cases eg : g its[i] (wipeE r ns) s2 with
        | none => rw [eg] at ef2; cases ef2
        | some p =>
          rw [eg] at ef2
          dsimp only at ef2
          intro t4 w4 x4 env4 st4 wi4
          refine ⟨?_, ?_⟩
          · have ww : wipe (wipe t ns) ns = wipe t ns := by
              have key : ∀ ms : List Nat, (∀ j ∈ ms, j ∈ ns) → wipe (wipe t ms) ns = wipe t ns := by
                intro ms
                induction ms with
                | nil => intro _; rfl
                | cons j ms ih =>
                  intro hj
                  show wipe ((wipe t ms).set j none) ns = wipe t ns
                  rw [wipe_set (hj j List.mem_cons_self)]
                  exact ih fun q hq => hj q (List.mem_cons_of_mem _ hq)
              exact key ns fun j hj => hj
            rw [← ww]
            exact wi4
          · refine ⟨p.1, p.2, w4, rfl, env4, st4, ?_⟩
            cases et : tt p.1 p.2 with
            | exc C fs s' => rw [et] at ef2; cases ef2
            | bad => rw [et] at ef2; cases ef2
            | ok kk s5 =>
              rw [et] at ef2
              dsimp only at ef2
              intro b w5 x5 st5 eb
              subst eb
              have x25 := ((x2.trans x3).trans x4).trans x5
              have x5' := (x3.trans x4).trans x5
              cases b with
              | false => exact ⟨by omega, w5, s5, acc, vs, rfl, x25, st5, x5'.P Dn hP2, (x5'.HP Dn hP2).trans hh2, rs2.ext x5', ef2⟩
              | true =>
                refine ⟨p.1, s5, w5, rfl, env4.ext x5, st5, ?_⟩
                simp only [if_true] at ef2
                cases ee : te p.1 s5 with
                | exc C fs s' => rw [ee] at ef2; cases ef2
                | bad => rw [ee] at ef2; cases ef2
                | ok y s6 =>
                  rw [ee] at ef2
                  dsimp only at ef2
                  by_cases hl : acc.length < sizeLine
                  rotate_left
                  · rw [if_neg hl] at ef2
                    cases ef2
                  rw [if_pos hl] at ef2
                  intro v w6 x6 st6 rv
                  have x6' := x5'.trans x6
                  have P6 := x6'.P Dn hP2
                  have H6 : w6.H Dn = some (.lst vs) := (x6'.HP Dn hP2).trans hh2
                  have e0 := Wd.turn_ex0 (o := .lst (vs ++ [v])) st6 P6
                  refine ⟨vs, H6, by rw [rs2.length]; exact hl, by omega, w6.put Dn (.lst (vs ++ [v])), s6, acc ++ [y], vs ++ [v], rfl, Wd.turn_ext (x25.trans x6) hz hP, Wd.turn_st st6 P6, P6, upd_same, ?_, ef2⟩
                  exact ((rs2.ext x6').ex0 e0).append (.cons (rv.ex0 e0) .nil)
section
variable {X : Cx} {W : WX} {elt tg iter : Expr} {ifs : List Expr} {scope : Scope} {own : List (Str × Nat)} {pos : Pos} {mi : DM Src} {g : DG} {tt : DM Bool} {te : DE}
theorem e_lc (k : Bool) (hc : X.calm = true) (hN : X.N.Nodup) (hi : PI X tg iter (tI X.K W mi)) (ok : BlkOk X.N X.env.scope scope own)
    (hg : ∀ (s : Shared) (H : Hp) (C : Addr) (cl : List (Str × Addr)) (fp : List Addr), PG (X.blk s H scope (compEnvC scope cl C X.env) fp) tg (tGw X.K g (own.map (·.2))))
    (ht : ∀ (s : Shared) (H : Hp) (C : Addr) (cl : List (Str × Addr)) (fp : List Addr), PTs (X.blk s H scope (compEnvC scope cl C X.env) fp) ifs (tT X.K W0 tt))
    (he : ∀ (s : Shared) (H : Hp) (C : Addr) (cl : List (Str × Addr)) (fp : List Addr), PE (X.blk s H scope (compEnvC scope cl C X.env) fp) elt (tE X.K W0 te)) (hs : ∀ x, foldedSetIterable iter X.env x = pure x := by intro _; rfl) :
    PE X (.ListComp elt [⟨tg, iter, ifs, 0⟩] scope pos) (tE X.K W (lcM k mi g tt te (own.map (·.2)))) := PE.imp (pe_lc hc hN hi ok hg ht he hs) fun t H Q h => lc_imp h
theorem s_setLc {i : Nat} {y : Str} {py spos : Pos} (k : Bool) (hc : X.calm = true) (hN : X.N.Nodup) (hy : X.N[i]? = some y) (hyl : X.env.scope.names.lookup y = some .local)
    (hsw : swapsWith (.ListComp elt [⟨tg, iter, ifs, 0⟩] scope pos) (some (.Name y py)) spos.line X.env = pure true) (hi : PI X tg iter (tI X.K W mi)) (ok : BlkOk X.N X.env.scope scope own)
    (hg : ∀ (s : Shared) (H : Hp) (C : Addr) (cl : List (Str × Addr)) (fp : List Addr), PG (X.blk s H scope (compEnvC scope cl C X.env) fp) tg (tGw X.K g (own.map (·.2))))
    (ht : ∀ (s : Shared) (H : Hp) (C : Addr) (cl : List (Str × Addr)) (fp : List Addr), PTs (X.blk s H scope (compEnvC scope cl C X.env) fp) ifs (tT X.K W0 tt))
    (he : ∀ (s : Shared) (H : Hp) (C : Addr) (cl : List (Str × Addr)) (fp : List Addr), PE (X.blk s H scope (compEnvC scope cl C X.env) fp) elt (tE X.K W0 te)) (hs : ∀ x, foldedSetIterable iter X.env x = pure x := by intro _; rfl) :
    PS X (.Assign [.Name y py] (.ListComp elt [⟨tg, iter, ifs, 0⟩] scope pos) spos) (tS X.K W (setS i (lcM k mi g tt te (own.map (·.2))))) := PS.imp (ps_setLc hc hN hy hyl hsw hi ok hg ht he hs) fun E t H h => by
  obtain ⟨r, s, w, rfl, env, st, hp⟩ := h
  have h2 : tE X.K W (lcM k mi g tt te (own.map (·.2))) t w.H (fun x H1 => gName i x t H1 E.nx) := hp.bind env st fun x d s1 w1 e1 st1 r1 hp1 => hp1 _ w1 (Ext.refl w1) ((env.ext e1).set r1 i) st1
  exact lc_imp h2
end
end Mp
set_option Elab.async false
set_option linter.all false
set_option maxRecDepth 100000
set_option maxHeartbeats 4000000
/-! Mp: defs, calls, own classes. -/
namespace Mp
open PySem PySem.Spec PyProof.Rows L2
abbrev DF := List D → Sto → Res D
/-- a def's promise by its function on data -/
def spD (K : Frag) (m : DF) : Sp := fun vs H Q E => ∃ ds s w, w.H = H ∧ Reps K w vs ds ∧ StR K w s ∧ Post K (Rep K) w E Q (m ds s)
/-- the function of a body: its slots, its statement -/
def bodyX (n : Nat) (b : DS) : DF := fun ds s => match b (ds.map some ++ List.replicate (n - ds.length) none) s with
  | .nx _ s' => .ok .non s'
  | .rt d s' => .ok d s'
  | .exc C fs _ s' => .exc C fs s'
  | _ => .bad
/-- the parameters' values: k of them, the last ones with defaults -/
def argsD (k : Nat) (dd : List D) (ds : List D) : Option (List D) := if ds.length ≤ k ∧ k ≤ ds.length + dd.length then some (ds ++ dd.drop (ds.length + dd.length - k)) else none
def bodyM (k : Nat) (dd : List D) (n : Nat) (b : DS) : DF := fun ds s => match argsD k dd ds with
  | some es => bodyX n b es s
  | none => .bad
/-- a def with a star parameter behind k others -/
def bodyV (k : Nat) (n : Nat) (b : DS) : DF := fun ds s => if k ≤ ds.length ∧ ds.length ≤ 1000 then bodyX n b (ds.take k ++ [.tup (ds.drop k)]) s else .bad
def callM (m : DF) (a : DM (List D)) : DE := bindM a fun ds => fun _ s => m ds s
inductive Ak where
  | fld | prop (m : DF) | con (d : D)
def attrD (tb : List (Str × Ak)) (f : Str) (x : D) (s : Sto) : Res D := match insOf s x with
  | none => .bad
  | some (C, fs) => (match tb.lookup C with
    | some .fld => okO s (fs.lookup f)
    | some (.prop m) => m [x] s
    | some (.con d) => (match fs.lookup f with
      | none => .ok d s
      | some _ => .bad)
    | none => .bad)
def attrM (tb : List (Str × Ak)) (f : Str) (a : DE) : DE := bindM a fun x => fun _ s => attrD tb f x s
def methM (tb : List (Str × DF)) (m : Str) (o : DE) (a : DM (List D)) : DE := bindM o fun x => fun r s => match insOf s x with
  | none => .bad
  | some (C, fs) => (match fs.lookup m with
    | some _ => .bad
    | none => (match tb.lookup C with
      | none => .bad
      | some f => (bindM a fun ds => fun _ s => f (x :: ds) s) r s))
/-- a new instance: its __init__, then frozen or not -/
def freezeI (k : Bool) (n : Nat) (s : Sto) : Res D := if k = true then .ok (.cel n) s else (match s[n]? with
  | some (some (.ins C fs)) => .ok (.ins C fs) (s.set n none)
  | _ => .bad)
def makeM (k : Bool) (C : Str) (m : DF) (a : DM (List D)) : DE := bindM a fun ds => fun _ s => match m (.cel s.length :: ds) (s ++ [some (.ins C [])]) with
  | .ok .non s' => freezeI k s.length s'
  | .ok _ _ => .bad
  | .exc E fs s' => .exc E fs s'
  | .bad => .bad
def putD (f : Str) (d : D) : List (Str × D) → List (Str × D)
  | [] => [(f, d)]
  | (g, x) :: r => if g = f then (g, d) :: r else (g, x) :: putD f d r
/-- o.f = e -/
def fldS (tb : List Str) (f : Str) (o v : DE) : DS := thenS v fun y => thenS o fun x => fun r s => match x with
  | .cel n => (match s[n]? with
    | some (some (.ins C fs)) => if C ∈ tb ∧ fs.length < 1000 then .nx r (s.set n (some (.ins C (putD f y fs)))) else .bad
    | _ => .bad)
  | _ => .bad
/-! ### soundness -/
theorem KVR.lookup {K : Frag} {w : Wd} {f : Str} : ∀ {l : List (Str × V)} {m : List (Str × D)}, KVR K w l m → (match m.lookup f with | some d => ∃ v, l.lookup f = some v ∧ Rep K w v d | none => l.lookup f = none)
  | _, _, .nil => rfl
  | _, _, .cons (k := j) h r => by
    have ih := KVR.lookup (f := f) r
    by_cases e : f = j
    · subst e
      simp only [List.lookup_cons_self]
      exact ⟨_, rfl, h⟩
    · have hb : (f == j) = false := by simpa using e
      simp only [List.lookup_cons, hb]
      exact ih
theorem KVR.put {K : Frag} {w : Wd} {f : Str} {y : V} {d : D} (q : Rep K w y d) : ∀ {l : List (Str × V)} {m : List (Str × D)}, KVR K w l m → KVR K w (putF f y l) (putD f d m)
  | _, _, .nil => .cons q .nil
  | _, _, .cons (k := j) h r => by
    unfold putF putD
    by_cases e : j = f
    · rw [if_pos e, if_pos e]
      exact .cons q r
    · rw [if_neg e, if_neg e]
      exact .cons h (r.put q)
section
variable {P : Program} {w : World} {K : Frag} {mg : Str → Option Value} {base : Heap}
/-- room, and no repr under way -/
structure Rm (k : Nat) (A : Around) : Prop where
  rm : Room k A
  gd : A.guards = some []
theorem Rm.mono {j k : Nat} {A : Around} (r : Rm k A) (h : j ≤ k) : Rm j A := ⟨r.rm.mono h, r.gd⟩
theorem Rm.in1 {k : Nat} {A : Around} (r : Rm (k + 1) A) : Rm k A.in1 := ⟨r.rm.in1, r.gd⟩
theorem Rm.deeper {k : Nat} {A : Around} (r : Rm (k + 1) A) (env : Env) : Rm k (A.deeper env) := ⟨r.rm.deeper env, r.gd⟩
theorem Rm.make {k : Nat} {A : Around} (r : Rm (k + 1) A) (C : Addr) (us : List Value) (kw : List (Str × Value)) : Rm k (A.under (.builtin "type.__call__" ⟨.ref C :: us, kw⟩)) :=
  ⟨r.rm.make C us kw, by
    have e : Code.guards (.builtin "type.__call__" ⟨.ref C :: us, kw⟩) = [] := by
      unfold Code.guards
      exact if_neg (by show ¬ (guardIds.contains "type.__call__" = true); decide +kernel)
    show pushGuards (Code.guards (.builtin "type.__call__" ⟨.ref C :: us, kw⟩)) A.guards = _
    rw [e, r.gd]
    rfl⟩
/-- a promise by positional values, however they are bound, where no repr is under way -/
def FnG (P : Program) (w : World) (K : Frag) (mg : Str → Option Value) (base : Heap) (CX : CXT) (k : Nat) (f : Addr) (sp : Sp) : Prop :=
  ∀ (A : Around) (outer : List Env) (s : Shared) (H : Hp) (us : List Value) (vs : List V) (Q : VK) (E : XK), Rm k A → Env0 P w K mg base A outer s H → Vals vs us → sp vs H Q E → codeAny (model P w) A (.call (.ref f) ⟨us, []⟩) (CR CX outer P w H s Q E) s
theorem FnG.mono {CX : CXT} {j k : Nat} {f : Addr} {sp : Sp} (F : FnG P w K mg base CX j f sp) (h : j ≤ k) : FnG P w K mg base CX k f sp := fun A outer s H us vs Q E hr => F A outer s H us vs Q E (hr.mono h)
abbrev FnD (P : Program) (w : World) (K : Frag) (mg : Str → Option Value) (base : Heap) (k : Nat) (f : Addr) (m : DF) : Prop := FnG P w K mg base (L2.CX P w) k f (spD K m)
theorem env_start {u : Wd} {n : Nat} : ∀ {vs : List V} {ds : List D}, Reps K u vs ds → EnvR K u (ds.map some ++ List.replicate (n - ds.length) none) (vs.map some ++ List.replicate (n - vs.length) none) := fun {vs ds} rs => by
  refine ⟨by simp [rs.length], fun i d h => ?_⟩
  by_cases hi : i < ds.length
  · rw [List.getElem?_append_left (by simpa using hi), List.getElem?_map] at h
    cases e : ds[i]? with
    | none => rw [e] at h; cases h
    | some d' =>
      rw [e] at h
      cases h
      obtain ⟨v, hv, rv⟩ := rs.get e
      refine ⟨v, ?_, rv⟩
      rw [List.getElem?_append_left (by simpa [rs.length] using hi), List.getElem?_map, hv]
      rfl
  · rw [List.getElem?_append_right (by simpa using Nat.le_of_not_lt hi)] at h
    rw [List.getElem?_replicate] at h
    split at h <;> cases h
theorem body_end {n : Nat} {b : DS} {vs : List V} {ds : List D} {so : Sto} {u : Wd} {Q : VK} {E : XK} (rs : Reps K u vs ds) (st : StR K u so) (hp : Post K (Rep K) u E Q (bodyX n b ds so)) :
    tS K (fun c d _ H' => E c d H') b { nx := fun _ H' => Q .non H', rt := Q } (vs.map some ++ List.replicate (n - vs.length) none) u.H := by
  refine ⟨_, so, u, rfl, env_start (n := n) rs, st, ?_⟩
  unfold bodyX at hp
  cases e : b (ds.map some ++ List.replicate (n - ds.length) none) so with
  | nx r' s' => rw [e] at hp; exact fun t' w' e' _ st' => hp .non w' e' st' .non
  | rt d s' => rw [e] at hp; exact hp
  | bk r' s' => rw [e] at hp; exact hp.elim
  | ct r' s' => rw [e] at hp; exact hp.elim
  | exc C fs r' s' => rw [e] at hp; exact fun t' ed w' e' _ st' x' => hp ed w' e' st' x'
  | bad => rw [e] at hp; exact hp.elim
/-- what a def's derivation is -/
abbrev BodyD (P : Program) (w : World) (K : Frag) (mg : Str → Option Value) (base : Heap) (N : List Str) (qual : Str) (scope : Scope) (f : Addr) (k : Nat) (body : List Stmt) (b : DS) : Prop :=
  ∀ (cdv : Value) (A : Around) (outer : List Env) (s : Shared) (H : Hp) (E : XK), Rm k (A.deeper (envOfC qual scope s.heap.objs.size f cdv)) → PSs (cxOf (L2.CX P w) P w K mg base N qual scope f cdv A outer s H E) body (tS K (fun c d _ H' => E c d H') b)
/-- a def keeps the promise of its function on data, by the derivation of its body -/
theorem fn_ok {x qual : Str} {params : Arguments} {body : List Stmt} {scope : Scope} {dvs : List V} {kws : List (Str × V)} {f : Addr} {fd : FuncData} {N ps : List Str} {k : Nat} {b : DS} {dd : List D} (F : FunD K x qual params body scope dvs kws f fd) (S : FnScope N ps scope)
    (hD : ∀ w, Reps K w dvs dd) (hB : ∀ j, j ≤ dvs.length → ∃ ds, Vals (dvs.drop j) ds ∧ Binds K fd ps ds) (hbody : BodyD P w K mg base N qual scope f k body b) : FnD P w K mg base (k + 1) f (bodyM ps.length dd N.length b) := by
  intro A outer s H us vs Q E hr e0 r h
  obtain ⟨ds, so, u, rfl, rs, st, hp⟩ := h
  unfold bodyM argsD at hp
  have l1 := rs.length
  have l2 := (hD u).length
  split at hp
  · rename_i es he
    split at he
    · rename_i hc
      cases he
      obtain ⟨dv, rv, hb⟩ := hB (ds.length + dd.length - ps.length) (by omega)
      have rs2 := rs.append ((hD u).drop (ds.length + dd.length - ps.length))
      obtain ⟨oc, od, dV, kV, doc, pm, an, cdv, ct, osl, rfl, lk, hcd, hD1, hK⟩ := F.ex
      have hl : (vs ++ dvs.drop (ds.length + dd.length - ps.length)).length = ps.length := by
        rw [rs2.length, List.length_append, List.length_drop]
        omega
      have rr := r.append rv
      refine StX.run_bnd lk hcd S hr.rm e0 (G := fun xs H2 => xs = vs ++ dvs.drop (ds.length + dd.length - ps.length) ∧ H2 = u.H) (fun A' Ex Q' h => ?_) fun s2 H2 xs hx hr' => ?_
      · exact hb s us (e0.mod.kin.keeps fun b o e => (e0.bs b o e).1) (by rw [← rr.length]; exact hl) _ _ _ _ (h s u.H _ _ e0 Un.refl rfl (fun _ _ z => z) rr hl ⟨rfl, rfl⟩)
      · obtain ⟨rfl, rfl⟩ := hx
        exact ⟨_, hbody cdv A outer s2 u.H E (hr.deeper _), body_end rs2 st hp⟩
    · cases he
  · exact hp.elim
/-- .. without defaults -/
theorem fn_ok0 {x qual : Str} {params : Arguments} {body : List Stmt} {scope : Scope} {kws : List (Str × V)} {f : Addr} {fd : FuncData} {N ps : List Str} {k : Nat} {b : DS} (F : FunD K x qual params body scope [] kws f fd) (S : FnScope N ps scope)
    (hB : ∀ (kV doc pm : Value) (an : Option Addr) (cdv ct : Value) (us : List Value), us.length = ps.length → bindArgs (PySem.W.fnOf x qual params body scope .none kV doc pm an cdv ct) ⟨us, []⟩ = pure (ps.zip us)) (hbody : BodyD P w K mg base N qual scope f k body b) :
    FnD P w K mg base (k + 1) f (bodyM ps.length [] N.length b) :=
  fn_ok F S (fun _ => .nil) (fun j hj => ⟨[], by rw [List.drop_nil]; exact .nil, F.bindsN hB⟩) hbody
/-- a def f(a, .., *v) -/
theorem fn_okV {x qual : Str} {params : Arguments} {body : List Stmt} {scope : Scope} {kws : List (Str × V)} {f : Addr} {fd : FuncData} {N ps : List Str} {pv : Str} {k : Nat} {b : DS} (F : FunD K x qual params body scope [] kws f fd) (S : FnScope N (ps ++ [pv]) scope)
    (hB : ∀ (kV doc pm : Value) (an : Option Addr) (cdv ct : Value) (us rest : List Value), us.length = ps.length → bindArgs (PySem.W.fnOf x qual params body scope .none kV doc pm an cdv ct) ⟨us ++ rest, []⟩ = (newTuple rest >>= fun t => pure (ps.zip us ++ [(pv, t)])))
    (hbody : BodyD P w K mg base N qual scope f k body b) : FnD P w K mg base (k + 1) f (bodyV ps.length N.length b) := by
  obtain ⟨oc, od, dV, kV, doc, pm, an, cdv, ct, osl, rfl, lk, hcd, hD, hK⟩ := F.ex
  rcases hD with ⟨_, rfl⟩ | ⟨e, _⟩
  · intro A outer s H us vs Q E hr e0 r h
    obtain ⟨ds, so, u, rfl, rs, st, hp⟩ := h
    unfold bodyV at hp
    split at hp
    · rename_i hc
      have l1 := rs.length
      obtain ⟨u1, u2, eu, r1, r2⟩ := StX.vals_split (ws := vs.take ps.length) (rest := vs.drop ps.length) (by rw [List.take_append_drop]; exact r)
      subst eu
      have hn : u.H s.heap.objs.size = none := e0.hok.fresh (Nat.le_refl _)
      have hl1 : u1.length = ps.length := by
        rw [← r1.length, List.length_take]
        omega
      have hz : (vs.drop ps.length).length ≤ sizeLine := by
        rw [List.length_drop]
        exact Nat.le_trans (Nat.sub_le _ _) (Nat.le_trans (by omega : vs.length ≤ 1000) (by rw [PySem.sizeLine_eq]; omega))
      have e1 := Wd.frz_ext st (o := .tup (vs.drop ps.length)) hn
      have st1 := Wd.frz_st st (o := .tup (vs.drop ps.length)) hn
      have rsT : Reps K (u.frz s.heap.objs.size (.tup (vs.drop ps.length))) (vs.take ps.length ++ [V.ref s.heap.objs.size]) (ds.take ps.length ++ [.tup (ds.drop ps.length)]) :=
        ((rs.take ps.length).ext e1).append (.cons (.tup (.inl ⟨Wd.frz_z, Rd.of Wd.frz_h⟩) ((rs.drop ps.length).ext e1)) .nil)
      have hnew : ObjOk P w (upd u.H s.heap.objs.size (.tup (vs.drop ps.length))) (s.heap.push ({ cls := .type "tuple", data := .seq u2.toArray } : Obj)) s.heap.objs.size (.tup (vs.drop ps.length)) :=
        ⟨hz, u2, r2, _, Heap.get?_push_size _ rfl, rfl, _, rfl⟩
      have hun := StX.un_laid (fs := frs outer) (s := s) (o := ({ cls := .type "tuple", data := .seq u2.toArray } : Obj)) (u := .tup (vs.drop ps.length)) hn
      refine StX.run_bnd lk hcd S hr.rm e0 (G := fun xs H2 => xs = vs.take ps.length ++ [V.ref s.heap.objs.size] ∧ H2 = (u.frz s.heap.objs.size (.tup (vs.drop ps.length))).H) (fun A' Ex Q' h => ?_) fun s2 H2 xs hx hr' => ?_
      · rw [hB kV doc pm an cdv ct u1 u2 hl1]
        refine wpAny_bind (wpAny_newTuple (wpAny_pure ?_) (by rw [← r2.length]; exact hz))
        have q := h _ _ (vs.take ps.length ++ [V.ref s.heap.objs.size]) (u1 ++ [Value.ref s.heap.objs.size]) (StX.env0_laid e0 hnew) hun rfl (fun er s3 => StX.cxUp outer s u.H _ _ E er s3 hun (fun _ _ z => Heap.get?_push_of_some _ z) rfl) (r1.append (.cons rfl .nil)) (by rw [List.length_append, List.length_append, r1.length, hl1] <;> rfl) ⟨rfl, rfl⟩
        rw [List.zip_append hl1.symm] at q
        exact q
      · obtain ⟨rfl, rfl⟩ := hx
        exact ⟨_, hbody cdv A outer s2 _ E (hr.deeper _), body_end rsT st1 (Post.ext e1 hp)⟩
    · exact hp.elim
  · exact absurd rfl e
end
section
variable {X : Cx} {W : WX} {a b c o : Expr} {es : List Expr} {pos p apos : Pos} {ma mb mo : DE} {mr : DM (List D)} {m x : Str} {k : Nat} {f : Addr} {mf : DF}
theorem run_fnRD {pins : List (Addr × Obj)} {t : L2.St} {H : Hp} {s : Shared} {Q : VK} {E : XK} {us : List Value} {vs : List V} {sp : Sp} {CX : CXT} (F : FnG X.prog X.w X.K X.mg X.base CX k f sp) (hr : Rm k X.A) (hx : PassesAt CX X t E) (I : Inv X pins t H s) (r : Vals vs us) (h : sp vs H Q E) :
    wpAny (model X.prog X.w) X.A (call (.ref f) us) (EP X pins t Q) X.xe s := by
  refine wpAny_call (codeAny_mono (F X.A X.stack s H us vs Q E hr I.env0 r h) fun z s' hz => ?_)
  cases z with
  | error er => exact hx pins H s er s' I hz
  | ok fl =>
    cases fl with
    | ret u => exact I.after hz
    | _ => exact hz.elim
theorem sp_post {w : Wd} {s : Sto} {vs : List V} {dv : List D} {Q : VK} {E : XK} {K : Frag} (rs : Reps K w vs dv) (st : StR K w s) (hp : Post K (Rep K) w E Q (mf dv s)) : spD K mf vs w.H Q E := ⟨dv, s, w, rfl, rs, st, hp⟩
theorem sp_bind {w : Wd} {s : Sto} {r : En} {t : L2.St} {Q : VK} {K : Frag} (hp : Post K (Rep K) w (fun c d H' => W c d t H') Q (callM mf mr r s)) : Post K (Reps K) w (fun c d H' => W c d t H') (fun vs H1 => spD K mf vs H1 Q (WE W t)) (mr r s) := by
  unfold callM bindM at hp
  cases e : mr r s with
  | ok dv s1 =>
    rw [e] at hp
    exact fun vs w1 e1 st1 r1 => sp_post r1 st1 (Post.ext e1 hp)
  | exc C fs s1 => rw [e] at hp; exact hp
  | bad => rw [e] at hp; exact hp
/-- f(e, ..) -/
theorem e_call (tk : Takes X W) (F : FnD X.prog X.w X.K X.mg X.base k f mf) (hr : Rm k X.A) (hg : Gl X x) (hm : X.mg x = some (.ref f)) (hk : PySem.W.keepIn X.K (.ref f) = true)
    (ha : PA X (a :: es) (tA X.K W mr)) (hdb : (x == ("__debug__" : Str)) = false := by decide) (he : starEach (a :: es) X.env = (false, eval a X.env) :: starEach es X.env := by rfl) (hpl : (backTo pos (starEach es X.env)).any (·.1) = false := by rfl) :
    PE X (.Call (.Name x p) (a :: es) [] pos) (tE X.K W (callM mf mr)) := by
  refine ⟨fun pins s t H Q I h => ?_⟩
  obtain ⟨r, so, w, rfl, env, st, hp⟩ := h
  refine wpAny_Call_Name_kw (ld_glob I hg hm ?_ hdb)
  refine PySem.W.callWith_K (h₀ := X.base) I.ok.mod.kin hk (thn (ha.run pos pins s t w.H _ I ⟨r, so, w, rfl, env, st, sp_bind hp⟩) fun us s1 ⟨vs, H1, I1, rv, q⟩ => ⟨I1.kIn, ?_⟩) he hpl
  exact run_fnRD F hr (passAt tk t) I1 rv q
/-! attributes -/
structure PropD (X : Cx) (C : Str) (f : Str) (m : DF) : Prop where
  cls : Cls X.K (He.ga X.K C)
  ex : ∃ (q g : Addr) (k : Nat), PropOf X.K (He.ga X.K C) f q g ∧ FnD X.prog X.w X.K X.mg X.base k g m ∧ Rm (k + 1) X.A
theorem getprop_R {C q g a0 dx : Addr} {fs : List (Str × V)} {nm : Str} {sp : Sp} {CX : CXT} {E : XK} {pins : List (Addr × Obj)} {t : L2.St} {H : Hp} {s : Shared} {Q : VK} {bb : Bool} {E1 : Value → Shared → Prop} (I : Inv X pins t H s) (ea : H a0 = some (.ins C dx fs)) (c : Cls X.K C) (hp : PropOf X.K C nm q g)
    (F : FnG X.prog X.w X.K X.mg X.base CX k g sp) (hr : Rm (k + 1) X.A) (hx : Passes CX X.nox E) (h : sp [.ref a0] H Q E) : wpAny (model X.prog X.w) X.A (getAttr (.ref a0) nm bb) (EP X pins t Q) E1 s := by
  obtain ⟨mA, O, _, _, _, _⟩ := ins_get I.hok ea
  obtain ⟨od, J, _⟩ := O.look
  obtain ⟨rest, hrec⟩ := hp.rec_
  have I1 := I.tok (s.toks + 1)
  have hc : (PySem.W.clsIn X.K C).isSome = true := by
    obtain ⟨cd, hc, _⟩ := PySem.W.any_some c.hd
    rw [hc]
    rfl
  have P1 := PySem.W.plainGet_of (c.get nm)
  refine PySem.W.get_bind I.kIn J P1.1 (PySem.W.findObj_data hc hp.at_ hp.get hp.tak) P1.2 (wpAny_call (PySem.W.prop_get (s := { s with toks := s.toks + 1 }) I.kIn hrec ?_))
  refine codeAny_mono (F X.A.in1 X.stack { s with toks := s.toks + 1 } H [.ref a0] [.ref a0] Q E hr.in1 I1.env0.in1 (.cons rfl .nil) h) fun z s' hz => ?_
  cases z with
  | error er => exact (hx pins t H _ er s' (I1.wish _) hz).elim
  | ok fl =>
    cases fl with
    | ret u =>
      obtain ⟨v, H2, I3, rv, q3⟩ := I1.after hz
      refine wpAny_of_eq (PySem.W.handedOut_of (handed_of rv)) ?_
      exact ⟨v, H2, I3, rv, q3⟩
    | _ => exact hz.elim
inductive ATab (X : Cx) (f : Str) : List (Str × Ak) → Prop
  | nil : ATab X f []
  | fld {C : Str} {r : List (Str × Ak)} : Cls X.K (He.ga X.K C) → NoAttr X.K (He.ga X.K C) f → ATab X f r → ATab X f ((C, .fld) :: r)
  | prop {C : Str} {m : DF} {r : List (Str × Ak)} : PropD X C f m → (∀ d s C fs s', m [d] s ≠ .exc C fs s') → ATab X f r → ATab X f ((C, .prop m) :: r)
  | con {C : Str} {d : D} {v : V} {u : Value} {r : List (Str × Ak)} : Cls X.K (He.ga X.K C) → Con X.K (He.ga X.K C) f v u → (∀ w, Rep X.K w v d) → ATab X f r → ATab X f ((C, .con d) :: r)
def AkOk (X : Cx) (f C : Str) : Ak → Prop
  | .fld => Cls X.K (He.ga X.K C) ∧ NoAttr X.K (He.ga X.K C) f
  | .prop m => PropD X C f m ∧ ∀ d s C fs s', m [d] s ≠ .exc C fs s'
  | .con d => Cls X.K (He.ga X.K C) ∧ ∃ v u, Con X.K (He.ga X.K C) f v u ∧ ∀ w, Rep X.K w v d
theorem ATab.get {f C : Str} {kd : Ak} : ∀ {tb : List (Str × Ak)}, ATab X f tb → tb.lookup C = some kd → AkOk X f C kd
  | _, .nil, h => by simp at h
  | _, .fld (C := E) h1 h2 r, h => by
    by_cases e : C = E
    · subst e
      rw [List.lookup_cons_self] at h
      cases h
      exact ⟨h1, h2⟩
    · have hb : (C == E) = false := by simpa using e
      rw [List.lookup_cons, hb] at h
      exact r.get h
  | _, .prop (C := E) h1 h2 r, h => by
    by_cases e : C = E
    · subst e
      rw [List.lookup_cons_self] at h
      cases h
      exact ⟨h1, h2⟩
    · have hb : (C == E) = false := by simpa using e
      rw [List.lookup_cons, hb] at h
      exact r.get h
  | _, .con (C := E) h1 h2 h3 r, h => by
    by_cases e : C = E
    · subst e
      rw [List.lookup_cons_self] at h
      cases h
      exact ⟨h1, _, _, h2, h3⟩
    · have hb : (C == E) = false := by simpa using e
      rw [List.lookup_cons, hb] at h
      exact r.get h
theorem e_attr {g : Str} {tb : List (Str × Ak)} (T : ATab X g tb) (ha : PE X a (tE X.K W ma)) (hab : attributeBase a g X.env (eval a X.env) = eval a X.env := by rfl) : PE X (.Attribute a g pos) (tE X.K W (attrM tb g ma)) := by
  refine ⟨fun pins s t H Q I h => ?_⟩
  obtain ⟨r, so, w, rfl, env, st, hp⟩ := h
  refine attr_of hab (thn (ha.run pins s t w.H (fun x H1 => ∃ d s1 w1, w1.H = H1 ∧ StR X.K w1 s1 ∧ Rep X.K w1 x d ∧ Post X.K (Rep X.K) w1 (fun c d H' => W c d t H') Q (attrD tb g d s1)) I (hp.bind env st fun x d s1 w1 e1 st1 r1 hp1 => ⟨d, s1, w1, rfl, st1, r1, hp1⟩)) fun v s1 h => ?_)
  obtain ⟨y, H1, I1, rx, d, so1, w1, rfl, st1, r1, hp1⟩ := h
  unfold attrD at hp1
  cases e : insOf so1 d with
  | none => rw [e] at hp1; exact hp1.elim
  | some q =>
    obtain ⟨C, fs⟩ := q
    rw [e] at hp1
    dsimp only at hp1
    obtain ⟨q, dx, l, rfl, hh, kv⟩ := insOf_ok st1 r1 e
    obtain rfl : v = Value.ref q := rx
    cases e2 : tb.lookup C with
    | none => rw [e2] at hp1; exact hp1.elim
    | some kd =>
      rw [e2] at hp1
      have A := T.get e2
      have g1 := kv.lookup (f := g)
      cases kd with
      | fld =>
        dsimp only at hp1
        cases e3 : fs.lookup g with
        | none => rw [e3] at hp1; exact hp1.elim
        | some d3 =>
          rw [e3] at g1 hp1
          obtain ⟨v3, hv3, rv3⟩ := g1
          exact getattr_ok I1 hh A.1 A.2 hv3 fun u' s2 I2 ru => ⟨v3, w1.H, I2, ru, hp1.pure st1 rv3⟩
      | prop mm =>
        obtain ⟨⟨hc, q2, g2, kk, hpo, F, hr⟩, nox⟩ := A
        refine getprop_R (E := fun _ _ _ => False) I1 hh hc hpo F hr (fun pins σ H s e s' _ z => ?_) ?_
        · obtain ⟨_, _, _, _, _, _, _, _, _, _, _, _, z⟩ := z
          exact z
        · refine sp_post (.cons r1 .nil) st1 ?_
          dsimp only at hp1
          cases e4 : mm [d] so1 with
          | ok d4 s4 => rw [e4] at hp1; exact hp1
          | exc E4 f4 s4 => exact absurd e4 (nox _ _ _ _ _)
          | bad => rw [e4] at hp1; exact hp1
      | con dc =>
        obtain ⟨hc, v3, u3, hcon, rep3⟩ := A
        dsimp only at hp1
        cases e3 : fs.lookup g with
        | some d3 => rw [e3] at hp1; exact hp1.elim
        | none =>
          rw [e3] at g1 hp1
          exact getcon_ok I1 hh hc hcon g1 fun s2 I2 => ⟨v3, w1.H, I2, hcon.rel, hp1.pure st1 (rep3 w1)⟩
/-! methods -/
structure MethD (X : Cx) (C m : Str) (mf : DF) : Prop where
  cls : Cls X.K (He.ga X.K C)
  ex : ∃ (g : Addr) (k : Nat), Meth X.K (He.ga X.K C) m g ∧ FnD X.prog X.w X.K X.mg X.base k g mf ∧ Rm k X.A
inductive MTab (X : Cx) (m : Str) : List (Str × DF) → Prop
  | nil : MTab X m []
  | cons {C : Str} {f : DF} {r : List (Str × DF)} : MethD X C m f → MTab X m r → MTab X m ((C, f) :: r)
theorem MTab.get {C : Str} {f : DF} : ∀ {tb : List (Str × DF)}, MTab X m tb → tb.lookup C = some f → MethD X C m f
  | _, .nil, h => by simp at h
  | _, .cons (C := E) h1 r, h => by
    by_cases e : C = E
    · subst e
      rw [List.lookup_cons_self] at h
      cases h
      exact h1
    · have hb : (C == E) = false := by simpa using e
      rw [List.lookup_cons, hb] at h
      exact r.get h
/-- the receiver is known, its method found -/
theorem meth_mid {tb : List (Str × DF)} {pins : List (Addr × Obj)} {t : L2.St} {Q : VK} {r : En} {so : Sto} {w : Wd} {s : Shared} (I : Inv X pins t w.H s) (ho : PE X o (tE X.K W mo)) (env : EnvR X.K w r t) (st : StR X.K w so) (hp : Post X.K (Rep X.K) w (fun c d H' => W c d t H') Q (methM tb m mo mr r so)) {Q2 : Value → Shared → Prop}
    (k : ∀ (q : Addr) (C : Str) (f : DF) (d : D) (s1 : Shared) (so1 : Sto) (w1 : Wd) (dx : Addr) (l : List (Str × V)), Inv X pins t w1.H s1 → Ext w w1 → StR X.K w1 so1 → Rep X.K w1 (.ref q) d → w1.H q = some (.ins (He.ga X.K C) dx l) → l.lookup m = none → tb.lookup C = some f →
      Post X.K (Rep X.K) w1 (fun c d H' => W c d t H') Q ((bindM mr fun ds => fun _ s => f (d :: ds) s) r so1) → Q2 (.ref q) s1) : wpAny (model X.prog X.w) X.A (eval o X.env) Q2 X.xe s := by
  refine thn (ho.run pins s t w.H (fun x H1 => ∃ d s1 w1, w1.H = H1 ∧ Ext w w1 ∧ StR X.K w1 s1 ∧ Rep X.K w1 x d ∧ Post X.K (Rep X.K) w1 (fun c d H' => W c d t H') Q (match insOf s1 d with
    | none => .bad
    | some (C, fs) => (match fs.lookup m with
      | some _ => .bad
      | none => (match tb.lookup C with
        | none => .bad
        | some f => (bindM mr fun ds => fun _ s => f (d :: ds) s) r s1)))) I (hp.bind env st fun x d s1 w1 e1 st1 r1 hp1 => ⟨d, s1, w1, rfl, e1, st1, r1, hp1⟩)) fun v s1 h => ?_
  obtain ⟨y, H1, I1, rx, d, so1, w1, rfl, e1, st1, r1, hp1⟩ := h
  cases e : insOf so1 d with
  | none => rw [e] at hp1; exact hp1.elim
  | some q =>
    obtain ⟨C, fs⟩ := q
    rw [e] at hp1
    dsimp only at hp1
    obtain ⟨q, dx, l, rfl, hh, kv⟩ := insOf_ok st1 r1 e
    obtain rfl : v = Value.ref q := rx
    have g1 := kv.lookup (f := m)
    cases e3 : fs.lookup m with
    | some d3 => rw [e3] at hp1; exact hp1.elim
    | none =>
      rw [e3] at g1 hp1
      dsimp only at hp1
      cases e2 : tb.lookup C with
      | none => rw [e2] at hp1; exact hp1.elim
      | some f =>
        rw [e2] at hp1
        exact k q C f d s1 so1 w1 dx l I1 e1 st1 r1 hh g1 e2 hp1
theorem meth_bind {w : Wd} {so : Sto} {r : En} {t : L2.St} {Q : VK} {K : Frag} {q : Addr} {d : D} (r1 : Rep K w (.ref q) d) (hp : Post K (Rep K) w (fun c d H' => W c d t H') Q ((bindM mr fun ds => fun _ s => mf (d :: ds) s) r so)) :
    Post K (Reps K) w (fun c d H' => W c d t H') (fun vs H2 => spD K mf (.ref q :: vs) H2 Q (WE W t)) (mr r so) := by
  unfold bindM at hp
  cases e : mr r so with
  | ok dv s3 =>
    rw [e] at hp
    exact fun vs w3 e3 st3 r3 => sp_post (.cons (r1.ext e3) r3) st3 (Post.ext e3 hp)
  | exc C fs s3 => rw [e] at hp; exact hp
  | bad => rw [e] at hp; exact hp
theorem e_meth {pl : Sem Bool} {tb : List (Str × DF)} (tk : Takes X W) (T : MTab X m tb) (ho : PE X o (tE X.K W mo)) (ha : PA X (a :: es) (tA X.K W mr))
    (hst : starEach (a :: es) X.env = (false, eval a X.env) :: starEach es X.env := by rfl) (hpl : (backTo pos (starEach es X.env)).any (·.1) = false := by rfl)
    (ht : eval (.Call (.Attribute o m apos) (a :: es) [] pos) X.env = (eval o X.env >>= fun ov => standAt apos.atName >>= fun _ => holding [ov] (getMethod ov m pl) >>= fun z => callWith pos z.1 z.2 (backTo pos (starEach (a :: es) X.env)) (backToKw pos (keywordEach [] X.env))) := by rfl) :
    PE X (.Call (.Attribute o m apos) (a :: es) [] pos) (tE X.K W (methM tb m mo mr)) := by
  refine ⟨fun pins s t H Q I h => ?_⟩
  obtain ⟨r, so, w, rfl, env, st, hp⟩ := h
  refine PySem.W.methodCall_KW (pl := pl) (meth_mid I ho env st hp fun q C f d s1 so1 w1 dx l I1 e1 st1 r1 hh g1 e2 hp1 => ?_) ht
  obtain ⟨hc, g, kk, hm, F, hr⟩ := T.get e2
  refine getmeth_ok I1 hh hc hm g1 ?_
  refine PySem.W.callWith_K (first := [.ref q]) (h₀ := X.base) I1.ok.mod.kin hm.kp (thn (ha.run pos pins s1 t w1.H (fun vs H2 => spD X.K f (.ref q :: vs) H2 Q (WE W t)) I1 ⟨r, so1, w1, rfl, env.ext e1, st1, meth_bind r1 hp1⟩) fun us s2 z => ?_) hst hpl
  obtain ⟨vs, H2, I2, rv, q2⟩ := z
  exact ⟨I2.kIn, run_fnRD (us := .ref q :: us) (vs := .ref q :: vs) F hr (passAt tk t) I2 (.cons rfl rv) q2⟩
/-- o.m( *e) -/
structure MethB (X : Cx) (C m : Str) (mf : DF) : Prop where
  cls : Cls X.K (He.ga X.K C)
  ex : ∃ (g : Addr) (k : Nat), BMeth X.K (He.ga X.K C) m g ∧ FnD X.prog X.w X.K X.mg X.base k g mf ∧ Rm k X.A
inductive BTab (X : Cx) (m : Str) : List (Str × DF) → Prop
  | nil : BTab X m []
  | cons {C : Str} {f : DF} {r : List (Str × DF)} : MethB X C m f → BTab X m r → BTab X m ((C, f) :: r)
theorem BTab.get {C : Str} {f : DF} : ∀ {tb : List (Str × DF)}, BTab X m tb → tb.lookup C = some f → MethB X C m f
  | _, .nil, h => by simp at h
  | _, .cons (C := E) h1 r, h => by
    by_cases e : C = E
    · subst e
      rw [List.lookup_cons_self] at h
      cases h
      exact h1
    · have hb : (C == E) = false := by simpa using e
      rw [List.lookup_cons, hb] at h
      exact r.get h
def starA (e : DE) : DM (List D) := bindM e fun x => fun _ s => match x with
  | .tup l => .ok l s
  | _ => .bad
/-! making -/
/-! o.f = e -/
theorem s_fld {tb : List Str} {g : Str} {pos' : Pos} (hT : ∀ C ∈ tb, Cls X.K (He.ga X.K C) ∧ NoAttr X.K (He.ga X.K C) g) (ho : PE X o (tE X.K W mo)) (hv : PE X a (tE X.K W ma)) (hs : swapsWith a (some (.Attribute o g pos')) pos.line X.env = pure false := by rfl) :
    PS X (.Assign [.Attribute o g pos'] a pos) (tS X.K W (fldS tb g mo ma)) := PS.imp (ps_fld ho hv hs) fun E t H h => by
  obtain ⟨r, s, w, rfl, env, st, hp⟩ := h
  exact hp.bind env st fun y dy s1 w1 e1 st1 r1 hp1 => hp1.bind (env.ext e1) st1 fun x d s2 w2 e2 st2 r2 hp2 => by
    cases r2 with
    | @cel n a0 hA =>
      dsimp only at hp2
      cases e5 : s2[n]? with
      | none => rw [e5] at hp2; exact hp2.elim
      | some oc =>
        rw [e5] at hp2
        cases oc with
        | none => exact hp2.elim
        | some ct =>
          cases ct with
          | ins C fs =>
            dsimp only at hp2
            split at hp2
            · rename_i hc
              obtain ⟨hc1, hc2⟩ := hT C hc.1
              obtain ⟨a1, h1, hz, dx1, l, hh, kv⟩ := st2.at_ _ _ e5
              have ea : a1 = a0 := Option.some.inj (h1.symm.trans hA)
              subst ea
              have nP := st2.np n _ a1 e5 h1
              have e3 : Ext w2 (w2.put a1 (.ins (He.ga X.K C) dx1 (putF g y l))) := Wd.mut_ext hz nP
              refine ⟨a1, _, dx1, l, rfl, hh, hc1, hc2, by rw [kv.length]; exact hc.2, ?_⟩
              refine hp2 t (w2.put a1 (.ins (He.ga X.K C) dx1 (putF g y l))) e3 (((env.ext e1).ext e2).ext e3) (Wd.mut_st st2 e5 h1 hz ⟨dx1, _, upd_same, ?_⟩)
              exact (kv.ext e3).put ((r1.ext e2).ext e3)
            · exact hp2.elim
          | _ => exact hp2.elim
    | _ => exact hp2.elim
end
end Mp
set_option Elab.async false
set_option linter.all false
set_option maxRecDepth 100000
set_option maxHeartbeats 4000000
/-! Mp: exceptions of the program: class C(B) whose __init__ says B.__init__(self, text) and stores one field or none. -/
namespace Mp
open PySem PySem.Spec PyProof.Rows L2
/-! ### the base -/
structure BaseX (B newId initId : String) (bm : List Value) : Prop where
  F : ExcBaseFacts B newId initId bm
  pass : ∀ self : Value, refuseLoop self "__setattr__" bm = pure ()
  ob : bm.contains (.type "object") = true
  boot : bootBuiltins (Str.ofString B) = some (.type B)
  typ : typeOf (.type B) = pure (.type "type")
  nn : Str.ofString B ≠ "__name__"
  nd : (Str.ofString B == ("__debug__" : Str)) = false
  stub : Manifest.isStub B = false
  hand : PySem.W.handedIn (.builtin initId) = true
  fnd : ∀ K : Frag, PySem.W.findCls K (.type B) (.type "type") "__init__" = some (.val (.builtin initId))
abbrev mValue : List Value := [.type "ValueError", .type "Exception", .type "BaseException", .type "object"]
theorem bxValue : BaseX "ValueError" "ValueError.__new__" "ValueError.__init__" mValue := ⟨F.excBase_ValueError, F.store_ValueError.passes, by decide +kernel, by decide +kernel, by kernel_rfl, by decide +kernel, by decide +kernel, by decide +kernel, by decide +kernel, fun K => by kernel_rfl⟩
/-! ### the class -/
def exB (K : Frag) (C : Addr) (bm : List Value) (newId : String) : Bool := match K.lookup C with
  | some ⟨.type c, _, .cls cd, sl⟩ => decide (c = "type") && (cd.hasDict && (!cd.hasDel && (decide (cd.mro = .ref C :: bm) && (match sl.toList with
    | [_, _, _, _, some (.builtin n), _] => decide (n = newId)
    | _ => false))))
  | _ => false
theorem exB_ok {K : Frag} {C : Addr} {bm : List Value} {newId : String} (h : exB K C bm newId = true) : ∃ nm q N bs sn sub ab col dd k0 k1 k2 k3 k5, K.lookup C = some (excClassObj nm q C N bs bm true sn sub ab col dd k0 k1 k2 k3 k5 newId) := by
  unfold exB at h
  cases e : K.lookup C with
  | none => rw [e] at h; cases h
  | some o =>
    obtain ⟨oc, od, dt, sl⟩ := o
    rw [e] at h
    cases oc with
    | type c =>
      cases dt with
      | cls cd =>
        obtain ⟨h1, h⟩ := He.ba h
        obtain ⟨h2, h⟩ := He.ba h
        obtain ⟨h3, h⟩ := He.ba h
        obtain ⟨h4, h5⟩ := He.ba h
        have e1 := of_decide_eq_true h1
        have e4 := of_decide_eq_true h4
        have e3 : cd.hasDel = false := by simpa using h3
        obtain ⟨nm, bs, mro, ns, qn, hd, sn, sub, ab, col, del⟩ := cd
        dsimp only at h2 e3 e4
        subst e1 e3 e4 h2
        obtain ⟨sl⟩ := sl
        dsimp only at h5
        split at h5
        · have e5 := of_decide_eq_true h5
          subst e5
          exact ⟨nm, qn, ns, bs, sn, sub, ab, col, od, _, _, _, _, _, rfl⟩
        · cases h5
      | _ => cases h
    | _ => cases dt <;> cases h
structure OexB (K : Frag) (C : Addr) (B newId initId : String) (bm : List Value) : Prop where
  base : BaseX B newId initId bm
  cls : ∃ nm q N bs sn sub ab col dd k0 k1 k2 k3 k5, K.lookup C = some (excClassObj nm q C N bs bm true sn sub ab col dd k0 k1 k2 k3 k5 newId)
  sa : PySem.W.findIn K (.ref C) "__setattr__" = some (some (.builtin "object.__setattr__"))
  exC : PySem.W.subIn K (.ref C) (.type "BaseException") = some true
  tyC : PySem.W.typeIn K (.ref C) = some (.type "type")
  kC : PySem.W.keepIn K (.ref C) = true
section
open Builtin Builtin.ObjectAttr PySem.HandSPX
variable {prog : Program} {w : World} {A : Around} {E : Value → Shared → Prop} {R : Result → Shared → Prop} {hp : Heap} {g : Array GenState} {d : Drawn} {t : Nat} {os : OsState}
/-- self.name = v, the first one, on an exception -/
theorem exc_store {K : Frag} {name : Str} {tk : Tok} {v : Value} {x C : Addr} {fv : Array Value} {cd : ClassData} (X : K.In hp) (hx : hp.get? x = some { cls := .ref C, data := .fields fv }) (hcd : W.clsIn K C = some cd)
    (hne : cd.mro.isEmpty = false) (hob : cd.mro.contains (.type "object") = true) (hps : ∀ self, refuseLoop self "__setattr__" cd.mro = pure ()) (hh : cd.hasDict = true) (ha : W.findIn K (.ref C) name = some none)
    (hq : ∀ h' tk' dx, (∀ b o, b ≠ x → hp.get? b = some o → h'.get? b = some o) → hp.objs.size ≤ dx → dx ≠ x → h'.get? x = some { cls := .ref C, dict := some dx, data := .fields fv } → h'.Ns1 dx (fun y => if y = name then some v else none) → R (.ok (.ret .none)) ⟨h', g, d, tk', os⟩) :
    codeAny (model prog w) A (.call (.builtin "object.__setattr__") ⟨[.ref x, .str name tk, v], []⟩) R ⟨hp, g, d, t, os⟩ := by
  have J : W.InstAt hp x { cls := .ref C, data := .fields fv } C none := ⟨hx, rfl, rfl, trivial⟩
  have nx : x ≠ hp.objs.size := Nat.ne_of_lt (Heap.lt_size hx)
  have sub : W.Looks (model prog w) hp (isInstance (.ref x) (.type "object")) true := J.type.andThen (W.looks_mroIn X (by unfold W.mroIn; rw [hcd, Option.bind_some, if_neg (by rw [hne]; decide), hob]))
  refine codeAny_call_builtin F.store_object.slot.plain F.store_object.entry (@W.check_slot (model prog w) _ _ ⟨hp, g, d, t, os⟩ "object.__setattr__" "object" "__setattr__" (.ref x) [.str name tk, v] [] _ F.store_object.kind F.store_object.split sub (F.store_object.args _ _ _) ?_)
  have lm : W.Looks (model prog w) hp (mroOf (.ref C)) cd.mro := (W.looks_clsIn X hcd).andThen .now
  have ln : W.Looks (model prog w) hp (storeTaker? none) none := .now
  have lc : W.Looks (model prog w) hp (classData C) cd := W.looks_clsIn X hcd
  rw [W.osa_eq, refuse_eq]
  refine wpAny_bind (wpAny_bind (J.type.at (wpAny_bind (lm.at ?_))))
  rw [hps]
  refine wpAny_pure (wpAny_bind (J.type.at (wpAny_bind ((W.looks_findIn X ha).at (wpAny_bind (ln.at ?_))))))
  show wpAny _ _ (storeInOwnDict (.ref x) (.ref C) (.str name tk) name v false) _ _ _
  obtain ⟨nm, bs, mro, ns, qn, hd, sn, sb, ab, col, del⟩ := cd
  cases (show hd = true from hh)
  unfold storeInOwnDict ownDictForStores
  repeat (first | with_reducible refine store_in_new ?_ ?_ | with_reducible refine wpAny_loadPart_at hx ?_ | with_reducible refine lc.at ?_ | wp_step)
  · exact ⟨_, #[], _, (Heap.get?_update_ne _ _ _ _ nx.symm).trans (Heap.get?_push_at rfl rfl), rfl, fun e he => absurd he (by simp), fun _ => rfl⟩
  · intro h' tk' hn' hs
    refine hq h' tk' hp.objs.size (fun b o hb ho => (hs.2 b (Nat.ne_of_lt (Heap.lt_size ho))).trans ((Heap.get?_update_ne _ _ _ _ hb).trans (Heap.get?_push_of_some _ ho))) (Nat.le_refl _) nx.symm ?_ hn'
    exact (hs.2 x nx).trans (Heap.get?_update_self _ (Heap.get?_push_of_some _ hx) rfl)
end
section
variable {X : Cx} {pins : List (Addr × Obj)} {t : L2.St} {H : Hp} {s : Shared} {a C : Addr} {f : Str} {y : V} {u : Value} {Q : Unit → Shared → Prop} {E : Value → Shared → Prop} {A : Around} {B newId initId : String} {bm : List Value}
theorem ostB (T : OexB X.K C B newId initId bm) (I : Inv X pins t H s) (e : H a = some (exo a C none)) (hno : PySem.W.findIn X.K (.ref C) f = some none) (ry : RelV y u)
    (h : ∀ dx s', H dx = none → dx ≠ a → Inv X pins t (upd (upd H dx (exd dx [(f, y)])) a (exo a C (some dx))) s' → Q () s') : wpAny (model X.prog X.w) A (setAttr (.ref a) f u) Q E s := by
  obtain ⟨nm, q, N, bs, sn, sub, ab, col, dd, k0, k1, k2, k3, k5, hC⟩ := T.cls
  have hcl : PySem.W.clsIn X.K C = some { name := nm, bases := bs, mro := .ref C :: bm, ns := N, qualname := q, hasDict := true, slotNames := sn, subclasses := sub, abstract := ab, collection := col, hasDel := false } := by
    unfold PySem.W.clsIn
    rw [hC] <;> rfl
  obtain ⟨t1, ho⟩ := exo_at I.hok e
  obtain ⟨hp, g, d, tk, os⟩ := s
  refine PySem.W.set_plain I.kIn (ox := { cls := .ref C, dict := none, data := .fields #[.ref t1, .none, .none, .none, .bool false, .none] }) (od := none) ⟨ho, rfl, rfl, trivial⟩ T.sa ?_
  refine exc_store I.kIn ho hcl rfl (by show (Value.ref C :: bm).contains (.type "object") = true; rw [List.contains_cons, T.base.ob, Bool.or_true]) (fun self => (refuseLoop_ref self "__setattr__" C bm).trans (T.base.pass self)) rfl hno fun h' tk' dx k dn dne hx hn => ?_
  have hnd : H dx = none := I.hok.fresh dn
  have nd : ∀ {b : Addr} {o : Obj}, hp.get? b = some o → b ≠ dx := fun {b o} z => Nat.ne_of_lt (Nat.lt_of_lt_of_le (Heap.lt_size z) dn)
  have na : ∀ {b : Addr}, H b = none → b ≠ a := fun {b} n z => by
    rw [z, e] at n
    cases n
  have U : Un X.fs [] H (upd (upd H dx (exd dx [(f, y)])) a (exo a C (some dx))) hp h' :=
    ⟨fun b o z n _ _ => k b o (na n) z, fun b o z n _ _ => ⟨o.slots, k b o (na n) z⟩, fun b o z n _ => by rw [upd_ne (na n), upd_ne (nd z)]; exact n,
      fun b o z _ => by
        by_cases hb : b = a
        · exact ⟨_, hb ▸ hx⟩
        · exact ⟨o, k b o hb z⟩,
      fun b xs z => by rw [upd_ne (at_ne e z exo_tup), upd_ne (ne_of_none z hnd)]; exact z, fun b o v z => by rw [upd_ne (at_ne e z exo_frz), upd_ne (ne_of_none z hnd)]; exact z,
      fun b ps z => ⟨#[], by rw [upd_ne (at_ne e z exo_tbl), upd_ne (ne_of_none z hnd), z]; simp⟩⟩
  refine h dx _ hnd dne (I.un (t' := tk') U fun b o z => ?_)
  by_cases hb : b = a
  · subst hb
    rw [upd_same] at z
    cases z
    exact exo_ok hx
  · rw [upd_ne hb] at z
    by_cases hd : b = dx
    · subst hd
      rw [upd_same] at z
      cases z
      exact exd_ok hn (relO_put (fs := []) ry fun _ => trivial)
    · rw [upd_ne hd] at z
      refine (I.hok b o z).stay (fun c v hc y => k c v (hc.elim (fun hc => hc ▸ hb) fun hc => at_ne e hc exo_own) y) (fun c hc => ?_) fun c xs hc => ?_
      · rw [upd_ne (at_ne e hc exo_own), upd_ne (ne_of_none hc hnd)]
        exact hc
      · rw [upd_ne (at_ne e hc exo_tup), upd_ne (ne_of_none hc hnd)]
        exact hc
theorem oinitB {us : List Value} {Q : Value → Shared → Prop} (T : OexB X.K C B newId initId bm) (I : Inv X pins t H s) (e : H a = some (exo a C none)) (hl : us.length ≤ sizeLine) (h : ∀ s', Inv X pins t H s' → Q .none s') : wpAny (model X.prog X.w) A (call (.builtin initId) (.ref a :: us)) Q E s := by
  obtain ⟨nm, q, N, bs, sn, sub, ab, col, dd, k0, k1, k2, k3, k5, hC⟩ := T.cls
  obtain ⟨t1, ho⟩ := exo_at I.hok e
  obtain ⟨hp, g, d, tk, os⟩ := s
  refine wpAny_call (PySem.HandSPX.init_base T.base.F (fun _ => rfl) (I.kIn _ _ hC) ho hl fun h' t2 k hx => ?_)
  have J := I.write (t' := tk) (x := a) (e := a) (o := exo a C none) (by rw [e]; exact trivial) (.inl rfl) k ⟨_, hx⟩ (exo_ok hx)
  have eu : upd H a (exo a C none) = H := by
    funext b
    by_cases hb : b = a
    · rw [hb, upd_same, e]
    · rw [upd_ne hb]
  exact h _ (eu ▸ J)
end
section
variable {X : Cx} {o e : Expr} {es : List Expr} {to te : TE} {ta : TA} {f : Str} {p p' p1 p2 pos : Pos} {B newId initId : String} {bm : List Value}
/-- B.__init__(self, ..) -/
def tIniB (K : Frag) (B newId initId : String) (bm : List Value) (ta : TA) : TE := fun t H Q => ta t H fun vs H1 => ∃ (a C : Addr) (ws : List V), vs = .ref a :: ws ∧ ws.length ≤ 1000 ∧ OexB K C B newId initId bm ∧ H1 a = some (exo a C none) ∧ Q .non H1
theorem pe_initB {pl : Sem Bool} (hB : BaseX B newId initId bm) (hg : Gl X (Str.ofString B)) (hm : X.mg (Str.ofString B) = none) (ha : PA X (e :: es) ta)
    (hc : eval (.Call (.Attribute (.Name (Str.ofString B) p1) "__init__" p2) (e :: es) [] pos) X.env = (eval (.Name (Str.ofString B) p1) X.env >>= fun ov => standAt p2.atName >>= fun _ => holding [ov] (getMethod ov "__init__" pl) >>= fun z => callWith pos z.1 z.2 (backTo pos (starEach (e :: es) X.env)) (backToKw pos (keywordEach [] X.env))) := by rfl)
    (he : starEach (e :: es) X.env = (false, eval e X.env) :: starEach es X.env := by rfl) (hpl : (backTo pos (starEach es X.env)).any (·.1) = false := by rfl) :
    PE X (.Call (.Attribute (.Name (Str.ofString B) p1) "__init__" p2) (e :: es) [] pos) (tIniB X.K B newId initId bm ta) := by
  refine ⟨fun pins s t H Q I h => ?_⟩
  refine PySem.W.methodCall_KW (ld_blt I hg hm hB.boot ?_ hB.nn hB.nd) hc
  obtain ⟨m, fr⟩ := I.fr
  refine PySem.W.method_type fr I.ok.mod.kin hB.typ hB.stub (hB.fnd X.K) hB.hand ?_
  show wpAny _ _ (callWith pos (Value.builtin initId) [] (backTo pos (starEach (e :: es) X.env)) []) _ _ _
  refine PyProof.Rows.callWith_method1 (thn (ha.run pos pins _ t H _ (I.tok _) h) fun us s1 z => ?_) he hpl
  obtain ⟨vs, H1, I1, r1, a, C, ws, rfl, hl, T, ea, q⟩ := z
  cases r1 with
  | @cons _ u0 _ ur ra rr =>
    obtain rfl : u0 = Value.ref a := ra
    exact oinitB T I1 ea (by rw [← Paired.length rr, sizeLine_eq]; omega) fun s' J => ⟨.non, H1, J, rfl, q⟩
/-- self.f = e, on an exception that has no field yet -/
def tOstB (K : Frag) (B newId initId : String) (bm : List Value) (f : Str) (to te : TE) : TS := fun E t H => te t H fun y H1 => to t H1 fun x H2 => ∃ a C : Addr, x = .ref a ∧ OexB K C B newId initId bm ∧ PySem.W.findIn K (.ref C) f = some none ∧ H2 a = some (exo a C none) ∧
  ∀ dx, H2 dx = none → dx ≠ a → E.nx t (upd (upd H2 dx (exd dx [(f, y)])) a (exo a C (some dx)))
theorem ps_ostB (ho : PE X o to) (he : PE X e te) (hs : swapsWith e (some (.Attribute o f p')) pos.line X.env = pure false := by rfl) : PS X (.Assign [.Attribute o f p'] e pos) (tOstB X.K B newId initId bm f to te) := by
  refine ⟨fun pins s t H E I h => ?_⟩
  refine plainObj_wpAny_Assign_Attribute (thn (he.run pins s t H _ I h) fun v s1 z1 => ?_) hs
  obtain ⟨y, H1, I1, r1, q1⟩ := z1
  refine thn (ho.run pins s1 t H1 _ I1 q1) fun u s2 z2 => ?_
  obtain ⟨x, H2, I2, r2, a, C, rfl, T, hno, ea, q⟩ := z2
  obtain rfl : u = Value.ref a := r2
  exact ostB T I2 ea hno r1 fun dx s' n ne J => ⟨t, _, J, q dx n ne⟩
end
/-! ### __init__ -/
/-- with one field: B.__init__(self, text); self.f = f -/
def spI1 (C : Addr) (f : Str) : Sp := fun vs H Q _ => ∃ (a : Addr) (v : V), vs = [.ref a, v] ∧ H a = some (exo a C none) ∧ ∀ dx, H dx = none → dx ≠ a → Q .non (upd (upd H dx (exd dx [(f, v)])) a (exo a C (some dx)))
section
variable {P : Program} {w : World} {K : Frag} {mg : Str → Option Value} {base : Heap} {B newId initId : String} {bm : List Value} {x qual f : Str} {params : Arguments} {scope : Scope} {g C : Addr} {fd : FuncData} {z : Str} {p0 p1 p2 p3 p4 p5 p6 p7 p8 p9 : Pos} {j : Nat}
theorem init_eq {env : Env} (hL : (p2.endLine == p5.line) = true) : eval (.Call (.Attribute (.Name (Str.ofString B) p1) "__init__" p2) [.Name "self" p3, .Constant (.str z) j p4] [] p5) env = (eval (.Name (Str.ofString B) p1) env >>= fun ov => standAt p2.atName >>= fun _ => holding [ov] (getMethod ov "__init__" (plainOf (.Name (Str.ofString B) p1) env)) >>= fun q => callWith p5 q.1 q.2 (backTo p5 (starEach [.Name "self" p3, .Constant (.str z) j p4] env)) (backToKw p5 (keywordEach [] env))) := by
  show (eval (.Name (Str.ofString B) p1) env >>= fun ov => standAt p2.atName >>= fun _ => methodCall (.Name (Str.ofString B) p1) "__init__" p2 p5 env ov 2 (backTo p5 (starEach [.Name "self" p3, .Constant (.str z) j p4] env)) (backToKw p5 (keywordEach [] env))) = _
  congr 1
  funext ov
  congr 1
  funext _
  rw [mcall_line (n := 2) rfl hL]
theorem fn_init1 (F : FunD K x qual params [.Expr (.Call (.Attribute (.Name (Str.ofString B) p1) "__init__" p2) [.Name "self" p3, .Constant (.str z) j p4] [] p5) p6, .Assign [.Attribute (.Name "self" p7) f p8] (.Name f p9) p0] scope [] [] g fd) (S : FnScope ["self", f] ["self", f] scope)
    (hL : (p2.endLine == p5.line) = true) (hG : scope.names.lookup (Str.ofString B) = some .globalImplicit) (h1 : (f == ("__debug__" : Str)) = false) (h2 : (f == ("__classdict__" : Str)) = false) (hm : mg (Str.ofString B) = none) (T : OexB K C B newId initId bm) (hno : PySem.W.findIn K (.ref C) f = some none) :
    FnOk P w K mg base (L2.CX P w) 1 g fd ["self", f] (spI1 C f) := by
  refine F.ok S (fun vs H Q E h => ?_) (fun cdv A outer s H vs Q E hr h => ?_)
  · obtain ⟨a, v, rfl, _⟩ := h
    rfl
  · obtain ⟨a, v, rfl, ea, q⟩ := h
    have v0 : Vis scope "self" := (S.par "self" (by simp)).elim .inl fun h => .inr (.inl h)
    have v1 : Vis scope f := (S.par f (by simp)).elim .inl fun h => .inr (.inl h)
    refine ⟨_, pss_cons (ps_expr (pe_initB (pl := plainOf (.Name (Str.ofString B) p1) _) T.base hG hm (pa_cons (pe_var (i := 0) rfl v0) (pa_cons pe_str pa_nil)) (init_eq hL))) (pss_one (ps_ostB (B := B) (newId := newId) (initId := initId) (bm := bm) (pe_var (i := 0) rfl v0) (pe_var (i := 1) rfl v1 h1 h2))), ?_⟩
    exact ⟨_, rfl, a, C, _, rfl, by show 1 ≤ 1000; decide, T, ea, _, rfl, _, rfl, a, C, rfl, T, hno, ea, q⟩
end
end Mp
set_option Elab.async false
set_option linter.all false
set_option maxRecDepth 100000
set_option maxHeartbeats 4000000
/-! Mp: raise, try. -/
namespace Mp
open PySem PySem.Spec PyProof.Rows L2
section
end
section
variable {X : Cx} {e : Expr} {ta : TA} {f x : Str} {p pos : Pos} {B newId initId : String} {bm : List Value} {C fI : Addr} {k : Nat} {fd : FuncData}
/-- what the written part says of an exception's class and its __init__ -/
structure ExcD (X : Cx) (C : Addr) (B newId initId : String) (bm : List Value) (fI : Addr) : Prop where
  T : OexB X.K C B newId initId bm
  ini : PySem.W.findIn X.K (.ref C) "__init__" = some (some (.ref fI))
  fn : PySem.W.typeIn X.K (.ref fI) = some (.type "function")
theorem pmkB1 (T : ExcD X C B newId initId bm fI) (F1 : FnOk X.prog X.w X.K X.mg X.base (L2.CX X.prog X.w) k fI fd ["self", f] (spI1 C f)) (hr : Room (k + 1) X.A) (hb : Binds X.K fd ["self", f] []) (hg : Gl X x) (hm : X.mg x = some (.ref C)) (ha : PA X [e] ta)
    (hdb : (x == ("__debug__" : Str)) = false := by decide) (he : starEach [e] X.env = (false, eval e X.env) :: starEach [] X.env := by rfl) :
    PMk X (.Call (.Name x p) [e] [] pos) (fun t H Q => ta t H fun vs H1 => ∃ v, vs = [v] ∧ ∀ d, H1 d = none → Q (.ref C) (some d) (upd H1 d (.xd [(f, v)]))) := by
  intro pins s t H Q I h
  obtain ⟨nm, q, N, bs, sn, sub, ab, col, dd, k0, k1, k2, k3, k5, hC⟩ := T.T.cls
  refine wpAny_Call_Name_kw (ld_glob I hg hm ?_ hdb)
  refine PySem.W.callWith_K (h₀ := X.base) I.ok.mod.kin T.T.kC (thn (ha.run pos pins s t H _ I h) fun us s1 z => ?_) he rfl
  obtain ⟨vs, H1, I1, r1, v, rfl, q1⟩ := z
  refine ⟨I1.kIn, ?_⟩
  show wpAny _ _ (call (.ref C) us) _ _ _
  obtain ⟨hp, g, dr, tk, os⟩ := s1
  cases r1 with
  | @cons _ u _ _ ru rr =>
    cases rr
    have hsz : hp.objs.size ≤ hp.objs.size + 1 := Nat.le_succ _
    have hn : H1 (hp.objs.size + 1) = none := I1.hok.fresh hsz
    have kk : ∀ b o, hp.get? b = some o → ((hp.push (PySem.W.kdv_tup [u])).push (PySem.HandSPX.excO C hp.objs.size)).get? b = some o := fun b o z => Heap.get?_push_of_some _ (Heap.get?_push_of_some _ z)
    have hget : ((hp.push (PySem.W.kdv_tup [u])).push (PySem.HandSPX.excO C hp.objs.size)).get? (hp.objs.size + 1) = some (PySem.HandSPX.excO C hp.objs.size) := by heap_get
    have I2 := I1.laid (t' := tk) (a := hp.objs.size + 1) (o := exo (hp.objs.size + 1) C none) (h' := (hp.push (PySem.W.kdv_tup [u])).push (PySem.HandSPX.excO C hp.objs.size)) kk hsz (exo_ok hget)
    have rv : Vals [V.ref (hp.objs.size + 1), v] [Value.ref (hp.objs.size + 1), u] := .cons rfl (.cons ru .nil)
    have hq : spI1 C f [.ref (hp.objs.size + 1), v] (upd H1 (hp.objs.size + 1) (exo (hp.objs.size + 1) C none)) (fun z H2 => z = .non ∧ ∃ d, H1 d = none ∧ d ≠ hp.objs.size + 1 ∧ H2 = upd (upd (upd H1 (hp.objs.size + 1) (exo (hp.objs.size + 1) C none)) d (exd d [(f, v)])) (hp.objs.size + 1) (exo (hp.objs.size + 1) C (some d))) (fun _ _ _ => False) :=
      ⟨_, v, rfl, upd_same, fun dx ndx ne => ⟨rfl, dx, (upd_ne ne).symm.trans ndx, ne, rfl⟩⟩
    refine wpAny_call (PySem.HandSPX.call_own T.T.base.F (fun _ => rfl) (I1.kIn _ _ hC) (PySem.W.looks_findIn I1.kIn T.ini) (fun self => PySem.W.bind_fn I1.kIn self T.fn) (by show 1 ≤ sizeLine; decide)
      (codeAny_mono (F1.run _ X.stack _ _ ⟨[.ref (hp.objs.size + 1), u], []⟩ [.ref (hp.objs.size + 1), u] _ _ (fun _ _ _ => False) (hr.make C [u] []) (I2.env0.make C [u] []) (hb _ [.ref (hp.objs.size + 1), u] I2.kIn rfl) rv hq) fun r s' hz => ?_))
    cases r with
    | error er =>
      obtain ⟨_, _, _, _, _, _, _, _, _, _, _, _, z⟩ := hz
      exact z.elim
    | ok fl =>
      cases fl with
      | ret w =>
        obtain ⟨z, H2, osE, bareE, unE, hokE, rz, ez, d, nd, ne, eH⟩ := hz
        subst ez
        obtain ⟨h2, g2, d2, t2, os'⟩ := s'
        have ea : H2 (hp.objs.size + 1) = some (exo (hp.objs.size + 1) C (some d)) := by rw [eH, upd_same]
        have ed : H2 d = some (exd d [(f, v)]) := by rw [eH, upd_ne ne, upd_same]
        refine ⟨rz, mk_end (raises_own T.T.exC T.T.tyC) I1 hsz kk unE hokE osE bareE ea ed nd ?_⟩
        have eq : upd (del H2 (hp.objs.size + 1)) d (.xd [(f, v)]) = upd H1 d (.xd [(f, v)]) := by
          funext b
          by_cases hb : b = d
          · rw [hb, upd_same, upd_same]
          · rw [upd_ne hb, upd_ne hb]
            by_cases hb2 : b = hp.objs.size + 1
            · rw [hb2, del_same, hn]
            · rw [del_ne hb2, eH, upd_ne hb2, upd_ne hb, upd_ne hb2]
        rw [eq]
        exact q1 d nd
      | next => exact hz.elim
      | brk => exact hz.elim
      | cont => exact hz.elim
end
/-! ### on data -/
def raiseS (C f : Str) (m : DM (List D)) : DS := thenS m fun ds => fun r s => match ds with
  | [d] => .exc C [(f, d)] r s
  | _ => .bad
def raise0S (C : Str) : DS := fun r s => .exc C [] r s
section
variable {X : Cx} {W : WX} {a : Expr} {f cc : Str} {p pos pos2 : Pos} {B newId initId : String} {bm : List Value} {fI : Addr} {k : Nat} {fd : FuncData} {mr : DM (List D)}
theorem s_raise1 (hc : X.calm = true) (tk : Takes X W) (T : ExcD X (He.ga X.K cc) B newId initId bm fI) (F1 : FnOk X.prog X.w X.K X.mg X.base (L2.CX X.prog X.w) k fI fd ["self", f] (spI1 (He.ga X.K cc) f)) (hr : Room (k + 1) X.A) (hb : Binds X.K fd ["self", f] []) (hg : Gl X cc) (hm : X.mg cc = some (.ref (He.ga X.K cc))) (ha : PA X [a] (tA X.K W mr))
    (hdb : (cc == ("__debug__" : Str)) = false := by decide) (he : starEach [a] X.env = (false, eval a X.env) :: starEach [] X.env := by rfl) : PS X (.Raise (some (.Call (.Name cc p) [a] [] pos)) none pos2) (tS X.K W (raiseS cc f mr)) :=
  PS.imp (ps_raise hc tk (pmkB1 T F1 hr hb hg hm ha hdb he)) fun E t H h => by
    obtain ⟨r, s, w, rfl, env, st, hp⟩ := h
    exact hp.bind env st fun vs ds s1 w1 e1 st1 r1 hp1 => by
      cases r1 with
      | nil => exact hp1.elim
      | @cons v d vs ds q r2 =>
        cases r2 with
        | cons _ _ => exact hp1.elim
        | nil =>
          refine ⟨v, rfl, fun dx ndx => ?_⟩
          have e2 := Wd.frz_ext st1 (o := .xd [(f, v)]) ndx
          exact hp1 t (some dx) (w1.frz dx (.xd [(f, v)])) e2 ((env.ext e1).ext e2) (Wd.frz_st st1 ndx) ⟨Wd.frz_z, _, Wd.frz_h, .cons (q.ext e2) .nil⟩
end
end Mp
set_option Elab.async false
set_option linter.all false
set_option maxRecDepth 100000
set_option maxHeartbeats 4000000
/-! Mp: built-in functions. -/
namespace Mp
open PySem PySem.Spec PyProof.Rows L2
/-! ### on data -/
def absD (ds : List D) (s : Sto) : Res D := match ds with
  | [.int i] => .ok (.int (if i < 0 then -i else i)) s
  | _ => .bad
def intD (ds : List D) (s : Sto) : Res D := match ds with
  | [.int i] => .ok (.int i) s
  | [.bl b] => .ok (.int (if b then 1 else 0)) s
  | _ => .bad
def lenD (ds : List D) (s : Sto) : Res D := match ds with
  | [.str z] => if z.length ≤ sizeLine then .ok (.int (z.length : Nat)) s else .bad
  | [x] => (match seqOf s x with
    | some l => .ok (.int (l.length : Nat)) s
    | none => .bad)
  | _ => .bad
def listD (k : Bool) (ds : List D) (s : Sto) : Res D := match ds with
  | [x] => (match seqOf s x with
    | some l => newL k l s
    | none => .bad)
  | _ => .bad
def bools : List D → Option (List Bool)
  | [] => some []
  | .bl b :: r => (bools r).map fun l => b :: l
  | _ => none
def intsOf : List D → Option (List Int)
  | [] => some []
  | .int b :: r => (intsOf r).map fun l => b :: l
  | _ => none
def allD (ds : List D) (s : Sto) : Res D := match ds with
  | [x] => (match (lstOf s x).bind bools with
    | some l => .ok (.bl (l.all id)) s
    | none => .bad)
  | _ => .bad
def sumD (ds : List D) (s : Sto) : Res D := match ds with
  | [x] => (match (lstOf s x).bind intsOf with
    | some l => .ok (.int l.sum) s
    | none => .bad)
  | _ => .bad
inductive Tg where
  | bt (n : String) | own (C : Str)
def tagD (s : Sto) : D → Option Tg
  | .non => some (.bt "NoneType")
  | .bl _ => some (.bt "bool")
  | .int _ => some (.bt "int")
  | .str _ => some (.bt "str")
  | .tup _ => some (.bt "tuple")
  | .lst _ => some (.bt "list")
  | .dct _ => some (.bt "dict")
  | .ins C _ => some (.own C)
  | .cel n => (match s[n]? with
    | some (some (.lst _)) => some (.bt "list")
    | some (some (.dct _)) => some (.bt "dict")
    | some (some (.rod _)) => some (.bt "dict")
    | some (some (.ins C _)) => some (.own C)
    | _ => none)
  | _ => none
/-- which own classes are which: own of own, built-in of own (never), own of built-in -/
structure Isi where
  cs : List Str
  oo : List ((Str × Str) × Bool)
  bo : List Str
  ob : List ((Str × String) × Bool)
def isiT (it : Isi) : Tg → D → Option Bool
  | .bt a, .ty b => kitB a b
  | .bt _, .glo C => if C ∈ it.bo then some false else none
  | .own C, .glo E => if C ∈ it.cs then it.oo.lookup (C, E) else none
  | .own C, .ty b => if C ∈ it.cs then it.ob.lookup (C, b) else none
  | _, _ => none
def isiD (it : Isi) (ds : List D) (s : Sto) : Res D := match ds with
  | [x, c] => (match tagD s x with
    | some t => (match isiT it t c with
      | some b => .ok (.bl b) s
      | none => .bad)
    | none => .bad)
  | _ => .bad
/-! ### soundness -/
def VRC (K : Frag) (r : List V → Hp → VK → Prop) (f : DF) : Prop := ∀ w s xs ds Q E, StR K w s → Reps K w xs ds → Post K (Rep K) w E Q (f ds s) → r xs w.H Q
section
variable {X : Cx} {W : WX} {a : Expr} {es : List Expr} {pos p : Pos} {mr : DM (List D)} {x : Str} {f : DF} {r : List V → Hp → VK → Prop} {id T : String}
theorem e_callB (hc : CallR X (.builtin id) r) (hv : VRC X.K r f) (hg : Gl X x) (hm : X.mg x = none) (hb : bootBuiltins x = some (.builtin id)) (ha : PA X (a :: es) (tA X.K W mr)) (hn : x ≠ "__name__" := by decide) (hdb : (x == ("__debug__" : Str)) = false := by decide)
    (he : starEach (a :: es) X.env = (false, eval a X.env) :: starEach es X.env := by rfl) (hpl : (backTo pos (starEach es X.env)).any (·.1) = false := by rfl) : PE X (.Call (.Name x p) (a :: es) [] pos) (tE X.K W (argM f mr)) :=
  PE.imp (pe_callB hc hg hm hb ha hn hdb he hpl) fun t H Q h => by
    obtain ⟨r, s, w, rfl, env, st, hp⟩ := h
    exact hp.bind env st fun vs ds s1 w1 e1 st1 r1 hp1 => hv w1 s1 vs ds Q _ st1 r1 hp1
theorem e_callTy (hc : CallR X (.type T) r) (hv : VRC X.K r f) (hg : Gl X x) (hm : X.mg x = none) (hb : bootBuiltins x = some (.type T)) (ha : PA X (a :: es) (tA X.K W mr)) (hn : x ≠ "__name__" := by decide) (hdb : (x == ("__debug__" : Str)) = false := by decide)
    (he : starEach (a :: es) X.env = (false, eval a X.env) :: starEach es X.env := by rfl) (hpl : (backTo pos (starEach es X.env)).any (·.1) = false := by rfl) : PE X (.Call (.Name x p) (a :: es) [] pos) (tE X.K W (argM f mr)) :=
  PE.imp (pe_callTy hc hg hm hb ha hn hdb he hpl) fun t H Q h => by
    obtain ⟨r, s, w, rfl, env, st, hp⟩ := h
    exact hp.bind env st fun vs ds s1 w1 e1 st1 r1 hp1 => hv w1 s1 vs ds Q _ st1 r1 hp1
theorem v_abs : VRC X.K (fun xs H Q => ∃ i, xs = [.int i] ∧ Q (.int (if i < 0 then -i else i)) H) absD := fun w s xs ds Q E st rs hp => by
  unfold absD at hp
  split at hp
  · cases rs with | cons q r => cases q; cases r; exact ⟨_, rfl, hp.pure st (.int _)⟩
  · exact hp.elim
theorem v_int : VRC X.K (fun xs H Q => (∃ i, xs = [.int i] ∧ Q (.int i) H) ∨ ∃ k, xs = [.bl k] ∧ Q (.int (if k then 1 else 0)) H) intD := fun w s xs ds Q E st rs hp => by
  unfold intD at hp
  split at hp
  · cases rs with | cons q r => cases q; cases r; exact .inl ⟨_, rfl, hp.pure st (.int _)⟩
  · cases rs with | cons q r => cases q; cases r; exact .inr ⟨_, rfl, hp.pure st (.int _)⟩
  · exact hp.elim
theorem v_len : VRC X.K (fun xs H Q => ∃ x n, xs = [x] ∧ LenV X.K x H n ∧ Q (.int (n : Nat)) H) lenD := fun w s xs ds Q E st rs hp => by
  unfold lenD at hp
  split at hp
  · cases rs with
    | cons q r =>
      cases q
      cases r
      split at hp
      · rename_i z hl
        exact ⟨_, _, rfl, ⟨hl, rfl⟩, hp.pure st (.int _)⟩
      · exact hp.elim
  · cases rs with
    | cons q r =>
      cases r
      split at hp
      · rename_i l el
        obtain ⟨p, vs, rfl, hq, rs⟩ := seqOf_ok st q el
        refine ⟨_, vs.length, rfl, ?_, by rw [rs.length]; exact hp.pure st (.int _)⟩
        rcases hq with hq | hq
        · exact .inl ⟨vs, hq, rfl⟩
        · exact .inr ⟨vs, hq, rfl⟩
      · exact hp.elim
  · exact hp.elim
theorem v_list {k : Bool} : VRC X.K (fun xs H Q => ∃ p ys, xs = [.ref p] ∧ (SqL X.K H p ys ∨ SqT X.K H p ys) ∧ ∀ l, H l = none → Q (.ref l) (upd H l (.lst ys))) (listD k) := fun w s xs ds Q E st rs hp => by
  unfold listD at hp
  split at hp
  · cases rs with
    | cons q r =>
      cases r
      split at hp
      · rename_i l el
        obtain ⟨p, vs, rfl, hq, rs⟩ := seqOf_ok st q el
        exact ⟨p, vs, rfl, hq, hp.newL st rs⟩
      · exact hp.elim
  · exact hp.elim
theorem bools_ok {K : Frag} {w : Wd} : ∀ {ds : List D} {vs : List V} {l : List Bool}, Reps K w vs ds → bools ds = some l → vs = l.map V.bl
  | [], _, _, h, e => by
    cases h
    cases e
    rfl
  | d :: r, _, _, h, e => by
    cases h with
    | cons h1 h2 =>
      cases d with
      | bl b =>
        cases h1
        have e' : (bools r).map (fun l => b :: l) = some _ := e
        cases q : bools r with
        | none => rw [q] at e'; cases e'
        | some l2 =>
          rw [q] at e'
          cases e'
          rw [bools_ok h2 q]
          rfl
      | _ => cases e
theorem intsOf_ok {K : Frag} {w : Wd} : ∀ {ds : List D} {vs : List V} {l : List Int}, Reps K w vs ds → intsOf ds = some l → vs = l.map V.int
  | [], _, _, h, e => by
    cases h
    cases e
    rfl
  | d :: r, _, _, h, e => by
    cases h with
    | cons h1 h2 =>
      cases d with
      | int b =>
        cases h1
        have e' : (intsOf r).map (fun l => b :: l) = some _ := e
        cases q : intsOf r with
        | none => rw [q] at e'; cases e'
        | some l2 =>
          rw [q] at e'
          cases e'
          rw [intsOf_ok h2 q]
          rfl
      | _ => cases e
theorem v_all : VRC X.K (rAll X.K) allD := fun w s xs ds Q E st rs hp => by
  unfold allD at hp
  split at hp
  · cases rs with
    | cons q r =>
      cases r
      split at hp
      · rename_i l el
        obtain ⟨l1, e1, e2⟩ := Option.bind_eq_some_iff.mp el
        obtain ⟨p, vs, rfl, hq, rs⟩ := lstOf_ok st q e1
        have ev := bools_ok rs e2
        subst ev
        exact ⟨p, l, rfl, hq, hp.pure st (.bl _)⟩
      · exact hp.elim
  · exact hp.elim
theorem v_sum : VRC X.K (rSum X.K) sumD := fun w s xs ds Q E st rs hp => by
  unfold sumD at hp
  split at hp
  · cases rs with
    | cons q r =>
      cases r
      split at hp
      · rename_i l el
        obtain ⟨l1, e1, e2⟩ := Option.bind_eq_some_iff.mp el
        obtain ⟨p, vs, rfl, hq, rs⟩ := lstOf_ok st q e1
        have ev := intsOf_ok rs e2
        subst ev
        exact ⟨p, l, rfl, hq, hp.pure st (.int _)⟩
      · exact hp.elim
  · exact hp.elim
/-! isinstance -/
structure TyC (K : Frag) (C : Addr) : Prop where
  cl : Cls K C
  ha : PySem.W.findIn K (.ref C) "__class__" = some (some (.builtin "object.__class__"))
  hn : PySem.W.specialIn K (.builtin "object.__class__") "__get__" = some (some (.builtin "getset_descriptor.__get__"))
  htk : PySem.W.takesIn K (.builtin "object.__class__") = some true
  hm : PySem.W.mroIn K C (.type "object") = some true
abbrev tyNames : List String := ["NoneType", "bool", "int", "str", "list", "tuple", "dict"]
structure IsiOk (K : Frag) (it : Isi) : Prop where
  cs : ∀ C ∈ it.cs, TyC K (He.ga K C)
  oo : ∀ q ∈ it.oo, PySem.W.kitOne K (.ref (He.ga K q.1.1)) (.ref (He.ga K q.1.2)) = some q.2
  bo : ∀ C ∈ it.bo, ∀ n ∈ tyNames, PySem.W.kitOne K (.type n) (.ref (He.ga K C)) = some false
  ob : ∀ q ∈ it.ob, PySem.W.kitOne K (.ref (He.ga K q.1.1)) (.type q.1.2) = some q.2
def TgOk (K : Frag) (w : Wd) (v : V) : Tg → Prop
  | .bt n => TyX K w.H v (.type n) ∧ n ∈ tyNames
  | .own C => ∃ a dx fs, v = .ref a ∧ w.H a = some (.ins (He.ga K C) dx fs)
theorem tag_ok {K : Frag} {w : Wd} {s : Sto} {v : V} {d : D} {t : Tg} (st : StR K w s) (r : Rep K w v d) (h : tagD s d = some t) : TgOk K w v t := by
  cases r with
  | non => cases h; exact ⟨.base .non, by simp⟩
  | bl b => cases h; exact ⟨.base (.bl b), by simp⟩
  | int i => cases h; exact ⟨.base (.int i), by simp⟩
  | str z => cases h; exact ⟨.base (.str z), by simp⟩
  | tup hh rs =>
    cases h
    refine ⟨?_, by simp⟩
    rcases hh with ⟨_, hh | ⟨o, hh⟩⟩ | ⟨o, its, n, hk, hc, _⟩
    · exact .base (.tup hh)
    · exact .fTuple hh
    · exact .kTuple hk hc
  | lst z hh rs => cases h; exact ⟨.base (.lst hh), by simp⟩
  | dct z hh hl rs => cases h; exact ⟨.fDict hh, by simp⟩
  | ins z hh hl rs => cases h; exact ⟨_, _, _, rfl, hh⟩
  | @cel n a0 hA =>
    unfold tagD at h
    dsimp only at h
    cases e : s[n]? with
    | none => rw [e] at h; cases h
    | some oc =>
      cases oc with
      | none => rw [e] at h; cases h
      | some ct =>
        rw [e] at h
        cases ct with
        | lst l =>
          cases h
          obtain ⟨a1, h1, _, vs, hh, rs⟩ := st.at_ n _ e
          have ea : a1 = a0 := Option.some.inj (h1.symm.trans hA)
          subst ea
          exact ⟨.base (.lst hh), by simp⟩
        | dct l =>
          cases h
          obtain ⟨a1, h1, _, vs, hh, rs⟩ := st.at_ n _ e
          have ea : a1 = a0 := Option.some.inj (h1.symm.trans hA)
          subst ea
          exact ⟨.base (.dK hh), by simp⟩
        | rod l =>
          cases h
          obtain ⟨a1, h1, _, o, vs, _, hh, rs⟩ := st.at_ n _ e
          have ea : a1 = a0 := Option.some.inj (h1.symm.trans hA)
          subst ea
          exact ⟨.fDict hh, by simp⟩
        | ins C l =>
          cases h
          obtain ⟨a1, h1, _, dx, vs, hh, rs⟩ := st.at_ n _ e
          have ea : a1 = a0 := Option.some.inj (h1.symm.trans hA)
          subst ea
          exact ⟨_, _, _, rfl, hh⟩
        | tab x => cases h
  | _ => cases h
theorem look_mem {T : Type} [BEq T] [LawfulBEq T] {k : T} {b : Bool} : ∀ {l : List (T × Bool)}, l.lookup k = some b → (k, b) ∈ l
  | [], h => by cases h
  | (k2, b2) :: l, h => by
    rw [List.lookup_cons] at h
    split at h
    · rename_i hk
      have e1 := eq_of_beq hk
      cases h
      rw [e1]
      exact List.mem_cons_self
    · exact List.mem_cons_of_mem _ (look_mem h)
theorem v_isi {it : Isi} (O : IsiOk X.K it) : VRC X.K (rIsi X.K) (isiD it) := fun w s xs ds Q E st rs hp => by
  unfold isiD at hp
  split at hp
  · cases rs with
    | cons q r =>
      cases r with
      | cons q2 r =>
        cases r
        split at hp
        · rename_i t et
          have h1 := tag_ok st q et
          split at hp
          · rename_i b eb
            cases t with
            | bt n =>
              cases q2 with
              | ty m => exact ⟨_, _, _, _, b, rfl, .ty m, h1.1, kit_ty eb, hp.pure st (.bl _)⟩
              | glo C =>
                have eb' : (if C ∈ it.bo then some false else none) = some b := eb
                split at eb'
                · rename_i hc
                  cases eb'
                  exact ⟨_, _, _, _, false, rfl, .own _, h1.1, O.bo C hc n h1.2, hp.pure st (.bl _)⟩
                · cases eb'
              | _ => cases eb
            | own C =>
              obtain ⟨a, dx, fs, rfl, hh⟩ := h1
              cases q2 with
              | ty m =>
                have eb' : (if C ∈ it.cs then it.ob.lookup (C, m) else none) = some b := eb
                split at eb'
                · rename_i hc
                  obtain ⟨c1, c2, c3, c4, c5⟩ := O.cs C hc
                  exact ⟨_, _, _, _, b, rfl, .ty m, .base (.ins hh c1 c2 c3 c4 c5), O.ob _ (look_mem (k := (C, m)) eb'), hp.pure st (.bl _)⟩
                · cases eb'
              | glo E =>
                have eb' : (if C ∈ it.cs then it.oo.lookup (C, E) else none) = some b := eb
                split at eb'
                · rename_i hc
                  obtain ⟨c1, c2, c3, c4, c5⟩ := O.cs C hc
                  exact ⟨_, _, _, _, b, rfl, .own _, .base (.ins hh c1 c2 c3 c4 c5), O.oo _ (look_mem (k := (C, E)) eb'), hp.pure st (.bl _)⟩
                · cases eb'
              | _ => cases eb
          · exact hp.elim
        · exact hp.elim
  · exact hp.elim
end
end Mp
set_option Elab.async false
set_option linter.all false
set_option maxRecDepth 100000
set_option maxHeartbeats 4000000
/-! Mp: dicts, stores by key or place, x op= e, append. -/
namespace Mp
open PySem PySem.Spec PyProof.Rows L2
/-! ### on data -/
def putA {T U : Type} [DecidableEq T] (l : List (T × U)) (k : T) (v : U) : List (T × U) := if (l.any fun p => decide (p.1 = k)) = true then l.map (fun p => if p.1 = k then (p.1, v) else p) else l ++ [(k, v)]
def mergeA {T U : Type} [DecidableEq T] (l more : List (T × U)) : List (T × U) := more.foldl (fun acc p => putA acc p.1 p.2) l
def pairsM : List (DE × DE) → DM (List (D × D))
  | [] => pureM []
  | (k, v) :: r => bindM k fun x => bindM v fun y => bindM (pairsM r) fun l => pureM ((x, y) :: l)
def keyed : List (D × D) → Option (List (Key × D))
  | [] => some []
  | (k, v) :: r => (keyD k).bind fun x => (keyed r).map fun l => (x, v) :: l
/-- {k: v, ..}, a new cell -/
def dispM (l : List (DE × DE)) : DE := bindM (pairsM l) fun ps => fun _ s => match keyed ps with
  | some kvs => if kvs.length ≤ 15 then .ok (.cel s.length) (s ++ [some (.dct (mergeA [] kvs))]) else .bad
  | none => .bad
/-- o[k] = v: a cell's dict or list -/
def putI (o k v : D) (s : Sto) : Option Sto := match o with
  | .cel n => (match s[n]? with
    | some (some (.dct m)) => (match keyD k with
      | some q => if m.length < sizeLine then some (s.set n (some (.dct (putA m q v)))) else none
      | none => none)
    | some (some (.lst l)) => (match k with
      | .int i => (match ixN l.length i with
        | some j => some (s.set n (some (.lst (l.set j v))))
        | none => none)
      | _ => none)
    | _ => none)
  | _ => none
def subS (o k v : DE) : DS := thenS v fun y => thenS o fun x => thenS k fun z => fun r s => match putI x z y s with
  | some s' => .nx r s'
  | none => .bad
/-- xs.append(e) on a cell -/
def appD (x : D) (ds : List D) (s : Sto) : Res D := match x with
  | .cel n => (match s[n]? with
    | some (some (.lst l)) => (match ds with
      | [d] => if l.length < sizeLine then .ok .non (s.set n (some (.lst (l ++ [d])))) else .bad
      | _ => .bad)
    | _ => .bad)
  | _ => .bad
/-! ### soundness -/
section
variable {K : Frag} {w : Wd}
theorem KVR.any {T : Type} [DecidableEq T] {k : T} : ∀ {l : List (T × V)} {m : List (T × D)}, KVR K w l m → (l.any fun p => decide (p.1 = k)) = (m.any fun p => decide (p.1 = k))
  | _, _, .nil => rfl
  | _, _, .cons h r => by
    rw [List.any_cons, List.any_cons, r.any]
theorem KVR.mapP {T : Type} [DecidableEq T] {k : T} {y : V} {d : D} (q : Rep K w y d) : ∀ {l : List (T × V)} {m : List (T × D)}, KVR K w l m → KVR K w (l.map fun p => if p.1 = k then (p.1, y) else p) (m.map fun p => if p.1 = k then (p.1, d) else p)
  | _, _, .nil => .nil
  | _, _, .cons (k := j) h r => by
    rw [List.map_cons, List.map_cons]
    by_cases e : j = k
    · rw [if_pos e, if_pos e]
      exact .cons q (r.mapP q)
    · rw [if_neg e, if_neg e]
      exact .cons h (r.mapP q)
theorem KVR.app {T : Type} : ∀ {l l2 : List (T × V)} {m m2 : List (T × D)}, KVR K w l m → KVR K w l2 m2 → KVR K w (l ++ l2) (m ++ m2)
  | _, _, _, _, .nil, r => r
  | _, _, _, _, .cons h t, r => .cons h (t.app r)
theorem KVR.putK {T : Type} [DecidableEq T] {k : T} {y : V} {d : D} (q : Rep K w y d) {l : List (T × V)} {m : List (T × D)} (r : KVR K w l m) : KVR K w (L2.putK l k y) (putA m k d) := by
  unfold L2.putK putA
  rw [r.any]
  by_cases e : (m.any fun p => decide (p.1 = k)) = true
  · rw [if_pos e, if_pos e]
    exact r.mapP q
  · rw [if_neg e, if_neg e]
    exact r.app (.cons q .nil)
theorem KVR.merge : ∀ {l2 : List (Key × V)} {m2 : List (Key × D)} {l : List (Key × V)} {m : List (Key × D)}, KVR K w l m → KVR K w l2 m2 → KVR K w (mergeK l l2) (mergeA m m2)
  | _, _, _, _, r, .nil => r
  | _, _, _, _, r, .cons h t => (r.putK h).merge t
inductive RPs (K : Frag) (w : Wd) : List (V × V) → List (D × D) → Prop
  | nil : RPs K w [] []
  | cons {x y : V} {a b : D} {l : List (V × V)} {m : List (D × D)} : Rep K w x a → Rep K w y b → RPs K w l m → RPs K w ((x, y) :: l) ((a, b) :: m)
theorem RPs.ext {w' : Wd} (e : Ext w w') : ∀ {l : List (V × V)} {m : List (D × D)}, RPs K w l m → RPs K w' l m
  | _, _, .nil => .nil
  | _, _, .cons h k r => .cons (h.ext e) (k.ext e) (r.ext e)
theorem keyed_ok : ∀ {l : List (V × V)} {m : List (D × D)} {kvs : List (Key × D)}, RPs K w l m → keyed m = some kvs → ∃ kv : List (Key × V), l = kv.map (fun p => (kV p.1, p.2)) ∧ KVR K w kv kvs
  | _, _, _, .nil, h => by
    cases h
    exact ⟨[], rfl, .nil⟩
  | _, _, _, .cons (a := a) (b := b) (m := m) h k r, e => by
    have e' : ((keyD a).bind fun x => (keyed m).map fun l => (x, b) :: l) = some _ := e
    cases q1 : keyD a with
    | none => rw [q1] at e'; cases e'
    | some z =>
      cases q2 : keyed m with
      | none => rw [q1, q2] at e'; cases e'
      | some kvs2 =>
        rw [q1, q2] at e'
        cases e'
        obtain ⟨kv, rfl, hr⟩ := keyed_ok r q2
        exact ⟨(z, _) :: kv, by rw [keyD_ok h q1]; rfl, .cons k hr⟩
end
theorem pairs_imp {K : Frag} {W : WX} {r : En} {t : L2.St} : ∀ {l : List (DE × DE)} {w : Wd} {s : Sto} {Q : List (V × V) → Hp → Prop}, EnvR K w r t → StR K w s → Post K (RPs K) w (fun c d H' => W c d t H') Q (pairsM l r s) → tPairs (l.map fun p => (tE K W p.1, tE K W p.2)) t w.H Q
  | [], w, s, Q, env, st, hp => hp.pure st .nil
  | (k, v) :: l, w, s, Q, env, st, hp => hp.bind env st fun x d s1 w1 e1 st1 r1 hp1 => hp1.bind (env.ext e1) st1 fun y d2 s2 w2 e2 st2 r2 hp2 => by
    refine pairs_imp ((env.ext e1).ext e2) st2 ?_
    unfold bindM at hp2
    cases e : pairsM l r s2 with
    | ok ps s3 =>
      rw [e] at hp2
      exact fun z w3 e3 st3 r3 => hp2 _ w3 e3 st3 (.cons ((r1.ext e2).ext e3) (r2.ext e3) r3)
    | exc C fs s3 => rw [e] at hp2; exact hp2
    | bad => rw [e] at hp2; exact hp2
/-- the pinned thing becomes a cell -/
theorem unpin_cell {K : Frag} {w0 w : Wd} {s : Sto} {p : Addr} {ct : Ct} (e : Ext w0 w) (st : StR K w s) (h1 : ¬ w0.P p) (hP : w.P p) (hc : CtR K w p ct) :
    ∃ w2 : Wd, w2.H = w.H ∧ Ext w0 w2 ∧ StR K w2 (s ++ [some ct]) ∧ Rep K w2 (.ref p) (.cel s.length) := by
  have nz := (st.pz p hP).1
  let w2 : Wd := ⟨fun m => if m = s.length then some p else w.A m, w.Z, fun a => w.P a ∧ a ≠ p, w.H⟩
  have hA : ∀ m a, w.A m = some a → w2.A m = some a := fun m a q => by
    have ne : ¬ m = s.length := fun z => by
      rw [st.new m (by omega)] at q
      exact nomatch q
    show (if m = s.length then some p else w.A m) = some a
    rw [if_neg ne]
    exact q
  have e0 : Ex0 w w2 := ⟨hA, fun _ h => h, fun _ _ => rfl⟩
  have at' : ∀ m c, (s ++ [some ct])[m]? = some (some c) → (m < s.length ∧ s[m]? = some (some c)) ∨ (m = s.length ∧ c = ct) := fun m c q => by
    by_cases hm : m < s.length
    · rw [List.getElem?_append_left hm] at q
      exact .inl ⟨hm, q⟩
    · rw [List.getElem?_append_right (by omega)] at q
      by_cases h0 : m - s.length = 0
      · rw [h0] at q
        exact .inr ⟨by omega, by simpa using q.symm⟩
      · rw [List.getElem?_eq_none (by simp; omega)] at q
        cases q
  have AtN : w2.A s.length = some p := if_pos rfl
  have AtO : ∀ m, m < s.length → w2.A m = w.A m := fun m hm => if_neg (by omega)
  have npo : ∀ m c a, s[m]? = some (some c) → w.A m = some a → a ≠ p := fun m c a q ha z => st.np m c a q ha (z ▸ hP)
  refine ⟨w2, rfl, ⟨⟨fun n a q => hA n a (e.A n a q), e.Z, e.H⟩, fun a z => ⟨e.P a z, fun q => h1 (q ▸ z)⟩, e.HP⟩, ⟨fun m c q => ?_, fun m c a q ha z => ?_, fun a z => st.pz a z.1, fun m k b x y qm qk hm hk => ?_, st.fz, fun m hm => ?_⟩, .cel AtN⟩
  · rcases at' m c q with ⟨hm, q⟩ | ⟨rfl, rfl⟩
    · obtain ⟨a, k1, k2, k3⟩ := st.at_ m c q
      exact ⟨a, hA m a k1, k2, k3.sam0 e0 rfl⟩
    · exact ⟨p, AtN, NZ.of nz, hc.sam0 e0 rfl⟩
  · rcases at' m c q with ⟨hm, q⟩ | ⟨rfl, rfl⟩
    · rw [AtO m hm] at ha
      exact st.np m c a q ha z.1
    · rw [AtN] at ha
      cases ha
      exact z.2 rfl
  · rcases at' m x qm with ⟨lm, qm'⟩ | ⟨rfl, rfl⟩
    · rcases at' k y qk with ⟨lk, qk'⟩ | ⟨rfl, rfl⟩
      · rw [AtO m lm] at hm
        rw [AtO k lk] at hk
        exact st.inj m k b x y qm' qk' hm hk
      · rw [AtO m lm] at hm
        rw [AtN] at hk
        cases hk
        exact absurd rfl (npo m x _ qm' hm)
    · rcases at' k y qk with ⟨lk, qk'⟩ | ⟨rfl, rfl⟩
      · rw [AtO k lk] at hk
        rw [AtN] at hm
        cases hm
        exact absurd rfl (npo k y _ qk' hk)
      · rfl
  · rw [List.length_append] at hm
    have hm' : s.length + 1 ≤ m := hm
    show (if m = s.length then some p else w.A m) = none
    rw [if_neg (by omega)]
    exact st.new m (by omega)
section
variable {X : Cx} {W : WX} {a b o : Expr} {es : List Expr} {pos pos' p apos : Pos} {ma mb mo : DE} {mr : DM (List D)}
theorem pp_nil : PPs X pos [] [] (([] : List (DE × DE)).map fun p => (tE X.K W p.1, tE X.K W p.2)) := pps_nil
theorem pp_cons {ks : List (Option Expr)} {vs : List Expr} {l : List (DE × DE)} (hk : PE X a (tE X.K W ma)) (hv : PE X b (tE X.K W mb)) (hr : PPs X pos ks vs (l.map fun p => (tE X.K W p.1, tE X.K W p.2))) : PPs X pos (some a :: ks) (b :: vs) (((ma, mb) :: l).map fun p => (tE X.K W p.1, tE X.K W p.2)) := pps_cons hk hv hr
theorem e_disp {ks : List (Option Expr)} {vs : List Expr} {l : List (DE × DE)} (h : PPs X pos ks vs (l.map fun p => (tE X.K W p.1, tE X.K W p.2))) (hall : ks.all (·.isSome) = true := by rfl) (hl : ks.length = vs.length := by rfl) (h0 : ks ≠ [] := by exact fun z => nomatch z) (h15 : ks.length ≤ 15 := by decide) :
    PE X (.Dict ks vs pos) (tE X.K W (dispM l)) := PE.imp (pe_disp h hall hl h0 h15) fun t H Q h => by
  obtain ⟨r, s, w, rfl, env, st, hp⟩ := h
  intro q nq
  have hP : ¬ w.P q := fun z => (st.pz q z).2 nq
  have hz : ¬ w.Z q := fun z => st.fz q z nq
  have e1 := Wd.pin_ext (o := .dK []) st nq
  refine pairs_imp (w := w.pin q (.dK [])) (env.ext e1) (Wd.pin_st st nq) ?_
  unfold dispM bindM at hp
  cases e : pairsM l r s with
  | exc C fs s3 => rw [e] at hp; exact Post.ext e1 hp
  | bad => rw [e] at hp; exact hp
  | ok ps s3 =>
    rw [e] at hp
    dsimp only at hp
    intro vs2 w3 e3 st3 r3
    have P3 : w3.P q := e3.P q (.inr rfl)
    have H3 : w3.H q = some (.dK []) := (e3.HP q (.inr rfl)).trans upd_same
    refine ⟨H3, ?_⟩
    cases ek : keyed ps with
    | none => rw [ek] at hp; exact hp.elim
    | some kvs =>
      rw [ek] at hp
      dsimp only at hp
      obtain ⟨kv, rfl, hr⟩ := keyed_ok r3 ek
      by_cases hl : kvs.length ≤ 15
      · rw [if_pos hl] at hp
        refine ⟨kv, rfl, by rw [hr.length]; exact hl, ?_⟩
        have x4 := Wd.turn_ext (o := .dK (mergeK [] kv)) (e1.trans e3) hz hP
        have st4 := Wd.turn_st (o := .dK (mergeK [] kv)) st3 P3
        have e0 := Wd.turn_ex0 (o := .dK (mergeK [] kv)) st3 P3
        obtain ⟨w5, h5, x5, st5, r5⟩ := unpin_cell (ct := .dct (mergeA [] kvs)) x4 st4 hP P3 ⟨mergeK [] kv, upd_same, KVR.merge .nil (hr.ex0 e0)⟩
        have z := hp (.ref q) w5 x5 st5 r5
        rw [h5] at z
        exact z
      · rw [if_neg hl] at hp
        exact hp.elim
/-! stores -/
theorem set_dict (hu : X.A.units + 1 < cLine) : PSet X (fun o i v H Q => ∃ a H', o = .ref a ∧ DPut H a i v H' ∧ Q H') := fun pins s t H o i v ov iv u Q I ro ri rv h => by
  obtain ⟨q, H', rfl, g, k⟩ := h
  obtain rfl : ov = Value.ref q := ro
  exact d_setItem hu I g ri rv fun s3 I3 => ⟨H', I3, k⟩
theorem PSet.or {t t' : TSet} (h : PSet X t) (h' : PSet X t') : PSet X (fun o i v H Q => t o i v H Q ∨ t' o i v H Q) := fun pins s σ H o i v ov iv u Q I ro ri rv q => q.elim (h pins s σ H o i v ov iv u Q I ro ri rv) (h' pins s σ H o i v ov iv u Q I ro ri rv)
theorem putI_ok {w : Wd} {s s' : Sto} {x z y : V} {dx dz dy : D} {Q : Hp → Prop} (st : StR X.K w s) (rx : Rep X.K w x dx) (rz : Rep X.K w z dz) (ry : Rep X.K w y dy) (h : putI dx dz dy s = some s') (k : ∀ w', Ext w w' → StR X.K w' s' → Q w'.H) :
    (∃ a H', x = .ref a ∧ DPut w.H a z y H' ∧ Q H') ∨ (∃ p xs i j, x = V.ref p ∧ z = .int i ∧ w.H p = some (.lst xs) ∧ ixN xs.length i = some j ∧ Q (upd w.H p (.lst (xs.set j y)))) := by
  cases rx with
  | @cel n a0 hA =>
    unfold putI at h
    dsimp only at h
    cases e : s[n]? with
    | none => rw [e] at h; cases h
    | some oc =>
      cases oc with
      | none => rw [e] at h; cases h
      | some ct =>
        rw [e] at h
        obtain ⟨a1, h1, hz, hc⟩ := st.at_ n _ e
        have ea : a1 = a0 := Option.some.inj (h1.symm.trans hA)
        subst ea
        have hP := st.np n _ a1 e h1
        cases ct with
        | dct m =>
          dsimp only at h
          obtain ⟨l, hh, kv⟩ := hc
          cases ek : keyD dz with
          | none => rw [ek] at h; cases h
          | some q =>
            rw [ek] at h
            dsimp only at h
            split at h
            · rename_i hl
              cases h
              have e3 : Ext w (w.put a1 (.dK (L2.putK l q y))) := Wd.mut_ext hz hP
              refine .inl ⟨a1, _, rfl, .inl ⟨l, q, hh, keyD_ok rz ek, by rw [kv.length]; exact hl, rfl⟩, ?_⟩
              exact k (w.put a1 (.dK (L2.putK l q y))) e3 (Wd.mut_st st e h1 hz ⟨_, upd_same, (kv.ext e3).putK (ry.ext e3)⟩)
            · cases h
        | lst l =>
          dsimp only at h
          obtain ⟨vs, hh, rs⟩ := hc
          cases rz with
          | int i =>
            dsimp only at h
            cases ei : ixN l.length i with
            | none => rw [ei] at h; cases h
            | some j =>
              rw [ei] at h
              cases h
              have e3 : Ext w (w.put a1 (.lst (vs.set j y))) := Wd.mut_ext hz hP
              refine .inr ⟨a1, vs, i, j, rfl, rfl, hh, by rw [rs.length]; exact ei, ?_⟩
              exact k (w.put a1 (.lst (vs.set j y))) e3 (Wd.mut_st st e h1 hz ⟨_, upd_same, (rs.ext e3).set (ry.ext e3) j⟩)
          | _ => cases h
        | ins C l => cases h
        | rod l => cases h
        | tab x => cases h
  | _ => cases h
theorem s_sub {mk : DE} (hu : X.A.units + 1 < cLine) (ho : PE X o (tE X.K W mo)) (hk : PE X b (tE X.K W mk)) (hv : PE X a (tE X.K W ma)) (hs : swapsWithSole [.Subscript o b p] a pos.line X.env = pure false := by rfl) (hw : swappedStores [.Subscript o b p] a X.env = pure none := by rfl)
    (h1 : (assignEach [.Subscript o b p] X.env).map (·.2) = [assign (.Subscript o b p) X.env] := by rfl)
    (hA : ∀ v, assign (.Subscript o b p) X.env v = (holding [v] (eval o X.env) >>= fun ov => holding [v, ov] (eval b X.env) >>= fun iv => standAt p >>= fun _ => holding [v, ov, iv] (setItem ov iv v) >>= fun _ => release [v, ov, iv] []) := by intro _; rfl) :
    PS X (.Assign [.Subscript o b p] a pos) (tS X.K W (subS mo mk ma)) := PS.imp (ps_asg hv (pg_sub ho hk (PSet.or (set_dict hu) set_list) hA) hs hw h1) fun E t H h => by
  obtain ⟨r, s, w, rfl, env, st, hp⟩ := h
  exact hp.bind env st fun y dy s1 w1 e1 st1 r1 hp1 => hp1.bind (env.ext e1) st1 fun x dx s2 w2 e2 st2 r2 hp2 => hp2.bind ((env.ext e1).ext e2) st2 fun z dz s3 w3 e3 st3 r3 hp3 => by
    cases e : putI dx dz dy s3 with
    | none => rw [e] at hp3; exact hp3.elim
    | some s4 =>
      rw [e] at hp3
      have q := putI_ok (Q := fun H3 => E.nx t H3) st3 (r2.ext e3) r3 ((r1.ext e2).ext e3) e fun w4 e4 st4 => hp3 t w4 e4 ((((env.ext e1).ext e2).ext e3).ext e4) st4
      rcases q with q | q
      · exact .inl q
      · obtain ⟨p1, xs, i, j, h1, h2, h3, h4, h5⟩ := q
        exact .inr ⟨p1, xs, i, j, h1, h2, h3, h4, h5⟩
/-! x op= e -/
theorem s_augG {op : Operator} {ti : TIp} {f : D → D → Sto → Res D} {i : Nat} {x : Str} (ho : PIp X op ti) (hvr : ∀ w s x y a b Q E, StR X.K w s → Rep X.K w x a → Rep X.K w y b → Post X.K (Rep X.K) w E Q (f a b s) → ti x y w.H Q)
    (hN : X.N.Nodup) (hi : X.N[i]? = some x) (hx : Loc X.env.scope x) (he : PE X a (tE X.K W ma)) (hf : X.fn x = true ∨ X.env.scope.names.lookup x = some .local := by first | exact .inl rfl | exact .inr rfl | assumption) :
    PS X (.AugAssign (.Name x pos') op a pos) (tS X.K W (augS i f ma)) := PS.imp (ps_aug hN hi hx he ho hf) fun E t H h => by
  obtain ⟨r, s, w, rfl, env, st, hp⟩ := h
  have hp' : PostS X.K w W E (thenS (vM i) (fun x0 => thenS ma fun y0 => fun r s => match f x0 y0 s with
    | .ok d s' => .nx (r.set i (some d)) s'
    | .exc C fs s' => .exc C fs r s'
    | .bad => .bad) r s) := by
    have e : augS i f ma r s = thenS (vM i) (fun x0 => thenS ma fun y0 => fun r s => match f x0 y0 s with
      | .ok d s' => .nx (r.set i (some d)) s'
      | .exc C fs s' => .exc C fs r s'
      | .bad => .bad) r s := by
      unfold augS thenS binM bindM
      cases vM i r s with
      | ok d s1 =>
        dsimp only
        cases ma r s1 with
        | ok d2 s2 =>
          dsimp only
          cases f d d2 s2 <;> rfl
        | _ => rfl
      | _ => rfl
    rw [← e]
    exact hp
  unfold thenS vM at hp'
  cases e : r[i]? with
  | none => rw [e] at hp'; exact hp'.elim
  | some od =>
    cases od with
    | none => rw [e] at hp'; exact hp'.elim
    | some d =>
      rw [e] at hp'
      obtain ⟨v, h1, h2⟩ := env.2 i d e
      refine ⟨v, h1, ?_⟩
      have hp2 : PostS X.K w W E (thenS ma (fun y0 => fun r s => match f d y0 s with
        | .ok d s' => .nx (r.set i (some d)) s'
        | .exc C fs s' => .exc C fs r s'
        | .bad => .bad) r s) := hp'
      exact hp2.bind env st fun y dy s1 w1 e1 st1 r1 hp1 => hvr w1 s1 v y d dy _ (fun c d H' => W c d t H') st1 (h2.ext e1) r1 (by
        cases ef : f d dy s1 with
        | ok d3 s3 =>
          rw [ef] at hp1
          exact fun x w3 e3 st3 r3 => hp1 _ w3 e3 (((env.ext e1).ext e3).set r3 i) st3
        | exc C fs s3 =>
          rw [ef] at hp1
          exact fun ed w3 e3 st3 x3 => hp1 t ed w3 e3 ((env.ext e1).ext e3) st3 x3
        | bad => rw [ef] at hp1; exact hp1)
def addI (x y : D) (s : Sto) : Res D := match x with
  | .int i => (match y with
    | .int j => .ok (.int (i + j)) s
    | _ => .bad)
  | _ => .bad
theorem s_augAdd {i : Nat} {x : Str} (hN : X.N.Nodup) (hi : X.N[i]? = some x) (hx : Loc X.env.scope x) (he : PE X a (tE X.K W ma)) (hf : X.fn x = true ∨ X.env.scope.names.lookup x = some .local := by first | exact .inl rfl | exact .inr rfl | assumption) :
    PS X (.AugAssign (.Name x pos') .Add a pos) (tS X.K W (augS i addI ma)) := s_augG ip_add (fun w s x y a b Q E st rx ry hp => by
  unfold addI at hp
  cases rx with
  | int i =>
    cases ry with
    | int j => exact ⟨i, j, rfl, rfl, hp.pure st (.int _)⟩
    | _ => exact hp.elim
  | _ => exact hp.elim) hN hi hx he hf
theorem s_augSub {i : Nat} {x : Str} (hN : X.N.Nodup) (hi : X.N[i]? = some x) (hx : Loc X.env.scope x) (he : PE X a (tE X.K W ma)) (hf : X.fn x = true ∨ X.env.scope.names.lookup x = some .local := by first | exact .inl rfl | exact .inr rfl | assumption) :
    PS X (.AugAssign (.Name x pos') .Sub a pos) (tS X.K W (augS i subD ma)) := s_augG ip_sub (fun w s x y a b Q E st rx ry hp => by
  unfold subD at hp
  cases rx with
  | int i =>
    cases ry with
    | int j => exact ⟨i, j, rfl, rfl, hp.pure st (.int _)⟩
    | _ => exact hp.elim
  | _ => exact hp.elim) hN hi hx he hf
end
end Mp
set_option Elab.async false
set_option linter.all false
set_option maxRecDepth 100000
set_option maxHeartbeats 4000000
/-! Mp: try. -/
namespace Mp
open PySem PySem.Spec PyProof.Rows L2
/-! ### on data -/
def noExc : Fl → Fl
  | .exc _ _ _ _ => .bad
  | f => f
/-- try: body except c: suite; tb: which of the package's errors c is -/
def tryS (mb : DS) (tb : List (Str × Bool)) (mh : DS) : DS := fun r s => match mb r s with
  | .exc C fs r' s' => (match tb.lookup C with
    | some true => noExc (mh r' s')
    | some false => .exc C fs r' s'
    | none => .bad)
  | f => f
def offS (i : Nat) : Fl → Fl
  | .nx r s => .nx (r.set i none) s
  | .bk r s => .bk (r.set i none) s
  | .ct r s => .ct (r.set i none) s
  | .rt d s => .rt d s
  | _ => .bad
open Classical in
noncomputable def joinF (f : Addr → Option Addr → Fl) : Fl := if ∀ a d, f a d = f 0 none then f 0 none else .bad
theorem joinF_of {f : Addr → Option Addr → Fl} (h : ∀ a d, f a d = f 0 none) : joinF f = f 0 none := if_pos h
noncomputable def tryAsS (i : Nat) (E : Str) (mb : DS) (tb : List (Str × Bool)) (mh : Addr → Option Addr → List (Str × D) → DS) : DS := fun r s => match mb r s with
  | .exc C fs r' s' => (match tb.lookup C with
    | some true => if C = E then joinF (fun a d => offS i (mh a d fs (r'.set i (some (.exn a d C fs))) s')) else .bad
    | some false => .exc C fs r' s'
    | none => .bad)
  | f => f
/-- e.f of the caught one -/
def exnM (a : Addr) (d : Option Addr) (f : Str) (m : DE) : DE := bindM m fun x => fun _ s => match x with
  | .exn a' d' _ fs => if a' = a ∧ d' = d then okO s (fs.lookup f) else .bad
  | _ => .bad
/-! ### soundness -/
section
end
end Mp
set_option Elab.async false
set_option linter.all false
set_option maxRecDepth 100000
set_option maxHeartbeats 4000000
/-! Mp: methods that say super().m(..). -/
namespace Mp
open PySem PySem.Spec PyProof.Rows L2
section
end
/-- super().m(a, ..): by the class of the instance -/
def superM (tb : List (Str × DF)) (a : DM (List D)) : DE := bindM (vM 0) fun x => fun r s => match insOf s x with
  | none => .bad
  | some (C, _) => (match tb.lookup C with
    | none => .bad
    | some f => (bindM a fun ds => fun _ s => f (x :: ds) s) r s)
def superS (tb : List (Str × DF)) (a : DM (List D)) : DS := thenS (superM tb a) fun _ => fun r s => .nx r s
structure SupF (X : Cx) (D : Addr) (C m : Str) (mf : DF) : Prop where
  cls : (PySem.W.clsIn X.K (He.ga X.K C)).isSome = true
  sub : PySem.W.mroIn X.K (He.ga X.K C) (.ref D) = some true
  ex : ∃ (g : Addr) (k : Nat), PySem.W.ks_superIn X.K (He.ga X.K C) D m = some (some (.ref g)) ∧ PySem.W.typeIn X.K (.ref g) = some (.type "function") ∧ PySem.W.fnIn X.K g = true ∧ FnD X.prog X.w X.K X.mg X.base k g mf ∧ Rm k X.A
inductive STab (X : Cx) (D : Addr) (m : Str) : List (Str × DF) → Prop
  | nil : STab X D m []
  | cons {C : Str} {f : DF} {r : List (Str × DF)} : SupF X D C m f → STab X D m r → STab X D m ((C, f) :: r)
theorem STab.get {X : Cx} {D : Addr} {m C : Str} {f : DF} : ∀ {tb : List (Str × DF)}, STab X D m tb → tb.lookup C = some f → SupF X D C m f
  | _, .nil, h => by simp at h
  | _, .cons (C := E) h1 r, h => by
    by_cases e : C = E
    · subst e
      rw [List.lookup_cons_self] at h
      cases h
      exact h1
    · have hb : (C == E) = false := by simpa using e
      rw [List.lookup_cons, hb] at h
      exact r.get h
section
end
section
end
end Mp
set_option Elab.async false
set_option linter.all false
set_option maxRecDepth 100000
set_option maxHeartbeats 4000000
/-! Mp: repr of plain data, chained comparisons. -/
namespace Mp
open PySem PySem.Spec PyProof.Rows L2
section
variable {X : Cx} {W : WX} {a b c : Expr} {pos : Pos} {ma mb mc : DE}
/-! a op b op c -/
def chainT (g : D → D → Sto → Res D) (y : D) (c : DE) : D → DE
  | .bl true => bindM c fun u => fun _ s => g y u s
  | .bl false => pureM (.bl false)
  | _ => fun _ _ => .bad
def chainM (f g : D → D → Sto → Res D) (a b c : DE) : DE := bindM a fun x => bindM b fun y => fun r s => match f x y s with
  | .ok z s' => chainT g y c z r s'
  | .exc C fs s' => .exc C fs s'
  | .bad => .bad
theorem chain_imp {op op' : CmpOp} {f g : D → D → Sto → Res D} {r r' : R2} (hv : VR2 X.K r f) (hv' : VR2 X.K r' g) {t : L2.St} {H : Hp} {Q : VK} (h : tE X.K W (chainM f g ma mb mc) t H Q) :
    tChain r r' (tE X.K W ma) (tE X.K W mb) (tE X.K W mc) t H Q := by
  obtain ⟨q, s, w, rfl, env, st, hp⟩ := h
  refine hp.bind env st fun x d s1 w1 e1 st1 r1 hp1 => ?_
  refine hp1.bind (env.ext e1) st1 fun y e s2 w2 e2 st2 r2 hp2 => ?_
  cases e5 : f d e s2 with
  | bad => rw [e5] at hp2; exact hp2.elim
  | exc C fs s3 =>
    rw [e5] at hp2
    refine hv w2 s2 x y d e _ (fun c d H' => W c d t H') st2 (r1.ext e2) r2 ?_
    rw [e5]
    exact hp2
  | ok z s3 =>
    rw [e5] at hp2
    refine hv w2 s2 x y d e _ (fun c d H' => W c d t H') st2 (r1.ext e2) r2 ?_
    rw [e5]
    intro vz w3 e3 st3 r3
    have hp3 := Post.ext e3 hp2
    cases z with
    | bl k =>
      cases r3
      refine ⟨k, rfl, ?_⟩
      cases k with
      | false =>
        exact hp3.pure st3 (.bl false)
      | true =>
        refine Post.bind (m := mc) (f := fun u => fun _ s => g e u s) (r := q) (R' := Rep X.K) hp3 (((env.ext e1).ext e2).ext e3) st3 fun u du s4 w4 e4 st4 r4 hp4 => ?_
        exact hv' w4 s4 y u e du Q _ st4 ((r2.ext e3).ext e4) r4 hp4
    | _ => exact hp3.elim
theorem e_chain {op op' : CmpOp} {f g : D → D → Sto → Res D} {r r' : R2} (ho : OpR X (compareOp op) r) (ho' : OpR X (compareOp op') r') (hv : VR2 X.K r f) (hv' : VR2 X.K r' g) (ha : PE X a (tE X.K W ma)) (hb : PE X b (tE X.K W mb)) (hc : PE X c (tE X.K W mc))
    (hm : lastMarks [op, op'] [b, c] = false := by with_unfolding_all rfl) : PE X (.Compare a [op, op'] [b, c] pos) (tE X.K W (chainM f g ma mb mc)) := PE.imp (pe_chain ho ho' ha hb hc hm) fun t H Q h => chain_imp (op := op) (op' := op') hv hv' h
theorem t_chain {op op' : CmpOp} {f g : D → D → Sto → Res D} {r r' : R2} (ho : OpR X (compareOp op) r) (ho' : OpR X (compareOp op') r') (hv : VR2 X.K r f) (hv' : VR2 X.K r' g) (ha : PE X a (tE X.K W ma)) (hb : PE X b (tE X.K W mb)) (hc : PE X c (tE X.K W mc))
    (hm : lastMarks [op, op'] [b, c] = false := by with_unfolding_all rfl) : PT X (.Compare a [op, op'] [b, c] pos) (tT X.K W (blM (chainM f g ma mb mc))) := PT.imp (pt_chain ho ho' ha hb hc hm) fun t H Q h => by
  refine chain_imp (op := op) (op' := op') (W := W) hv hv' ?_
  obtain ⟨q, s, w, rfl, env, st, hp⟩ := h
  exact hp.bind env st fun x d s1 w1 e1 st1 r1 hp1 => by
    cases r1 with
    | bl k => exact ⟨k, rfl, hp1.pure st1 rfl⟩
    | _ => exact hp1.elim
end
end Mp
set_option Elab.async false
set_option linter.all false
set_option maxRecDepth 100000
set_option maxHeartbeats 4000000
/-! Mp: the end of a law, the head's facts. -/
namespace Mp
open PySem PySem.Spec PyProof.Rows L2
/-! ### the end -/
abbrev LawEnd (s₁ : Shared) : Result → Shared → Prop := fun r s' => r = .ok (.ret (.bool true)) ∧ OldK s₁.heap s'.heap ∧ s'.os = s₁.os ∧ AllBare s'.gens
section
variable {P : Program} {w : World} {K : Frag} {mg mb : Str → Option Value} {k : Nat} {fa a : Addr} {s₁ : Shared} {vs : List Value} {ns : List Int} {m : DF}
/-- the law's call, from an abstract heap that knows at most the script -/
theorem law_core (KX : K.In s₁.heap) (hns : s₁.heap.Ns mainGlobals mg) (hb : s₁.heap.Ns builtinsNs mb) (hbb : ∀ x : Str, x ≠ "__name__" → mb x = bootBuiltins x) (hlim : s₁.heap.NoLimit) (hg : s₁.gens = #[])
    (ha : s₁.heap.get? a = some { cls := .type "list", data := .seq vs.toArray }) (hr : Rm k callerA) (F : ∀ base : Heap, K.In base → base.Ns mainGlobals mg → FnD P w K mg base k fa m) (hm : ∃ s', m [.rol (ns.map .int)] [] = .ok (.bl true) s')
    (H : Hp) (hO : Only H) (hS : SqL K H a (ns.map V.int)) (hok : HOk P w H s₁.heap) (hA : ∀ b, H b ≠ none → b = a) (hK : H a ≠ none → K.lookup a = none) : codeAny (model P w) callerA (.call (.ref fa) ⟨[.ref a], []⟩) (LawEnd s₁) s₁ := by
  have off : ∀ {b : Addr} {o : Obj}, s₁.heap.get? b = some o → o.data ≠ .seq vs.toArray → H b = none := fun {b o} e d => by
    by_cases q : H b = none
    · exact q
    · have z := hA b q
      subst z
      rw [ha] at e
      cases e
      exact absurd rfl d
  have nsH : ∀ {b : Addr} {f : Str → Option Value}, s₁.heap.Ns b f → (hidT s₁.heap H).Ns b f := fun ⟨o, es, ep, e, d, r⟩ => ⟨o, es, ep, hidT_get e (off e (by rw [d]; exact fun z => nomatch z)), d, r⟩
  have KH : K.In (hidT s₁.heap H) := fun b o e => hidT_get (KX b o e) (by
    by_cases q : H b = none
    · exact q
    · have z := hA b q
      subst z
      rw [hK q] at e
      cases e)
  have M0 : Mod K mg (hidT s₁.heap H) := ⟨KH, nsH hns, ⟨mb, nsH hb, hbb⟩, hlim.elim fun mc z => ⟨mc, nsH z.1, z.2⟩⟩
  have E0 : Env0 P w K mg (hidT s₁.heap H) callerA [] s₁ H := ⟨rfl, M0, fun b o e => of_hidT e, Nat.le_of_eq (hidT_size _ _), trivial, fun b z => absurd (show b ∈ ([] : List Addr) from z) (by simp), hok, .of_eq hg⟩
  obtain ⟨s', hm⟩ := hm
  have hsp : spD K m [.ref a] H (fun v _ => v = .bl true) fun _ _ _ => False := by
    refine ⟨[.rol (ns.map .int)], [], ⟨fun _ => none, fun b => H b ≠ none, fun _ => False, H⟩, rfl, .cons (.rol (hS.elim (fun z => .inl ⟨?_, z⟩) .inr) ?_) .nil, ?_, ?_⟩
    · rcases z with z | ⟨o, z⟩ <;> exact fun e => by rw [e] at z; cases z
    · clear hm hS
      induction ns with
      | nil => exact .nil
      | cons i r ih => exact .cons (.int i) ih
    · constructor <;> intros <;> simp_all
    · rw [hm]
      intro v w' _ _ rv
      cases rv
      rfl
  refine codeAny_mono (F _ KH (nsH hns) callerA [] s₁ H [.ref a] [.ref a] _ _ hr E0 (.cons rfl .nil) hsp) fun r s' h => ?_
  cases r with
  | error e =>
    obtain ⟨_, _, _, _, _, _, _, _, _, _, _, _, z⟩ := h
    exact z.elim
  | ok fl =>
    cases fl with
    | ret u =>
      obtain ⟨v, H', os, bare, un, hok', r', q⟩ := h
      obtain rfl : v = .bl true := q
      obtain rfl : u = Value.bool true := r'
      refine ⟨rfl, OldK.of_keep fun b o e => ?_, os, bare⟩
      rcases hO b with z | ⟨ob, xs, z⟩
      · exact un.keep b o e z (fun y => absurd (show b ∈ ([] : List Addr) from y) (by simp)) (by simp)
      · have e1 := (hok b _ z).1
        have e2 := (hok' b _ (un.frzs b ob _ z)).1
        rw [e] at e1
        cases e1
        exact e2
    | _ => exact h.elim
theorem law_end (KX : K.In s₁.heap) (hns : s₁.heap.Ns mainGlobals mg) (hb : s₁.heap.Ns builtinsNs mb) (hbb : ∀ x : Str, x ≠ "__name__" → mb x = bootBuiltins x) (hlim : s₁.heap.NoLimit) (hg : s₁.gens = #[])
    (ha : s₁.heap.get? a = some { cls := .type "list", data := .seq vs.toArray }) (hi : IntsAre vs ns) (hl : ns.length ≤ sizeLine) (hr : Rm k callerA) (F : ∀ base : Heap, K.In base → base.Ns mainGlobals mg → FnD P w K mg base k fa m) (hm : ∃ s', m [.rol (ns.map .int)] [] = .ok (.bl true) s') :
    codeAny (model P w) callerA (.call (.ref fa) ⟨[.ref a], []⟩) (LawEnd s₁) s₁ := by
  have go := law_core (m := m) (ns := ns) KX hns hb hbb hlim hg ha hr F hm
  have rv := vals_ints hi
  cases hk : K.lookup a with
  | some o =>
    have e := KX a o hk
    rw [ha] at e
    cases e
    exact go (fun _ => none) (fun _ => .inl rfl) (.inr ⟨_, vs.toArray, _, hk, rfl, rfl, rfl, by rw [List.size_toArray, hi.length]; exact hl, by simpa using rv⟩) (fun _ _ z => nomatch (show (none : Option HO) = some _ from z)) (fun _ z => (z rfl).elim) fun z => (z rfl).elim
  | none =>
    refine go (upd (fun _ => none) a (.frz { cls := .type "list", data := .seq vs.toArray } (.lst (ns.map V.int)))) (fun b => ?_) (.inl (.inr ⟨_, upd_same⟩)) (fun b u z => ?_) (fun b z => ?_) fun _ => hk
    · by_cases e : b = a
      · subst e
        exact .inr ⟨_, _, upd_same⟩
      · exact .inl (upd_ne e)
    · by_cases e : b = a
      · subst e
        rw [upd_same] at z
        cases z
        exact ⟨ha, by rw [List.length_map]; exact hl, vs, _, rv, ha⟩
      · rw [upd_ne e] at z
        cases z
    · by_cases e : b = a
      · exact e
      · exact absurd (upd_ne e) z
end
/-- a law row, by its def's function on data -/
theorem walk_end {l : PySem.W.OpenLaw} {n k : Nat} {q : Program} {loose : List Str} {XP : (Str → Option Value) → Heap → Prop} {YP : World → Heap → Prop} {d : DefRec} {m : DF} (hn : l.most = some n) (hn2 : n ≤ sizeLine) (hdf : d.params.defaults = []) (hr : Rm k callerA)
    (F : ∀ (w : World) (mg : Str → Option Value) (fa : Addr) (h : Heap), YP w h → h.Ns mainGlobals mg → mg d.name = some (.ref fa) → ∃ K : Frag, K.In h ∧ ∀ base : Heap, K.In base → base.Ns mainGlobals mg → FnD l.prog w K mg base k fa m)
    (hm : ∀ ns : List Int, ns.length ≤ n → (∀ z ∈ ns, Builtin.Int.intBits z ≤ 1048576) → ∃ s', m [.rol (ns.map .int)] [] = .ok (.bl true) s') : PySem.W.WalkO q loose XP YP l.row.toRowW d [] (fun f vs => PySem.call f vs) := by
  refine Att.attach_callB hn hdf fun w s₀ s₁ mg mb fa o pm cd doc a vs ns G Y ho hd hcd hmg hobj hints hlen hbits hg => ?_
  obtain ⟨K, KX, hF⟩ := F w mg fa _ Y G.T.g hmg
  exact law_end KX G.T.g G.T.b G.T.builtins G.T.nolimit hg hobj hints (Nat.le_trans hlen hn2) hr hF (hm ns hlen hbits)
end Mp
set_option Elab.async false
set_option linter.all false
set_option maxRecDepth 100000
set_option maxHeartbeats 4000000
/-! Mp: the head's facts. -/
namespace Mp
open PySem PySem.Spec PyProof.Rows L2
/-! ### defs -/
structure DefM where
  ad : Frag → Addr
  name : Str
  qual : Str
  params : Arguments
  body : List Stmt
  scope : Scope
  dfl : List He.Dv := []
  sup : Option Str := none
def fnWM (K : Frag) (d : DefM) : He.FnW := match K.lookup (d.ad K) with
  | some ⟨_, _, .func fd, _⟩ => some (fd.name, fd.qualname, fd.params, fd.body, fd.scope, fd.globals, [], fd.builtins)
  | _ => none
def DefM.val (d : DefM) : He.FnW := some (d.name, d.qual, d.params, .stmts d.body, d.scope, mainGlobals, [], builtinsNs)
def DefM.dvs (K : Frag) (d : DefM) : List V := d.dfl.map (He.Dv.v K)
def fileB (file : Str) (K : Frag) : Value → Bool
  | .ref c => (match K.lookup c with
    | some ⟨_, _, .fields vs, _⟩ => (match (vs[2]? : Option Value) with
      | some (.str f _) => file == f
      | _ => false)
    | _ => false)
  | _ => false
def clB (file : Str) (K : Frag) (sup : Option Str) (fd : FuncData) : Bool := match sup with
  | none => (match fd.closure with
    | [] => true
    | _ => false)
  | some C => (match fd.closure with
    | [(n, cc)] => decide (n = "__class__") && ((match K.lookup cc with
      | some ⟨_, _, .cell (some (.ref e)), _⟩ => decide (e = He.ga K C)
      | _ => false) && ((PySem.W.clsIn K (He.ga K C)).isSome && (fileB file K fd.code && He.eqO (PySem.W.nsIn K cStatics "thirdparty.any") (some none))))
    | _ => false)
def DefM.ok (file : Str) (K : Frag) (d : DefM) : Bool := PySem.W.keepIn K (.ref (d.ad K)) && (match K.lookup (d.ad K) with
  | some ⟨_, _, .func fd, _⟩ => PySem.W.codeIn K fd.code d.qual && (He.dflB K fd.defaults (d.dvs K) && clB file K d.sup fd)
  | _ => false)
theorem DefM.funD {file : Str} {K : Frag} {d : DefM} (hs : d.sup = none) (e : fnWM K d = d.val) (c : d.ok file K = true) : ∃ fd, FunD K d.name d.qual d.params d.body d.scope (d.dvs K) [] (d.ad K) fd := by
  obtain ⟨kp, c2⟩ := He.ba c
  unfold fnWM at e
  cases q : K.lookup (d.ad K) with
  | none => rw [q] at c2; cases c2
  | some o =>
    obtain ⟨oc, od, dt, osl⟩ := o
    rw [q] at c2 e
    cases dt with
    | func fd =>
      obtain ⟨n1, n2, n3, n4, n5, n6, n7, n8, n9, n10, n11, n12, n13, n14, n15⟩ := fd
      have e2 : (some (n1, n2, n3, n4, n5, n6, [], n15) : He.FnW) = some (d.name, d.qual, d.params, .stmts d.body, d.scope, mainGlobals, [], builtinsNs) := e
      simp only [Option.some.injEq, Prod.mk.injEq] at e2
      obtain ⟨h1, h2, h3, h4, h5, h6, _, h8⟩ := e2
      subst h1 h2 h3 h4 h5 h6 h8
      obtain ⟨k1, k2⟩ := He.ba c2
      obtain ⟨k3, k4⟩ := He.ba k2
      unfold clB at k4
      rw [hs] at k4
      dsimp only at k4
      cases n7 with
      | nil => exact ⟨_, ⟨oc, od, n8, n9, n10, n11, n12, n13, n14, osl, rfl, q, k1, He.dflB_ok k3, .inl rfl⟩, kp⟩
      | cons _ _ => cases k4
    | _ => cases c2
/-! ### the Hook -/
abbrev AlM : Type := Bool × List He.FnW
def obsM (file : Str) (fb : List (Frag → Bool)) (fn : List DefM) (K : Frag) : AlM := ((fb.all fun f => f K) && fn.all fun d => d.ok file K, fn.map fun d => fnWM K d)
def valM (fn : List DefM) : AlM := (true, fn.map DefM.val)
def SaysM (file : Str) (fb : List (Frag → Bool)) (fn : List DefM) (K : Frag) : Prop := obsM file fb fn K = valM fn
def refsM (g : Addr → Option Obj) (a : Addr) : List Addr := match g a with
  | some o => He.refsD o
  | none => []
/-- those that are not marked yet -/
def markK (k : Nat → List Addr → List Addr) : List Addr → Nat → List Addr → List Addr
  | [], seen, out => k seen out
  | a :: as, seen, out => (match Nat.testBit seen a with
    | true => markK k as seen out
    | false => markK k as (seen ||| (1 <<< a)) (a :: out))
def levelM (g : Addr → Option Obj) : Nat → List Addr → Nat → List Addr
  | 0, front, _ => front
  | n + 1, front, seen => front ++ markK (fun seen' out => levelM g n out seen') (front.flatMap (refsM g)) seen []
def asM (g : Addr → Option Obj) (n : Nat) : List Addr := cStatics :: sysModules :: levelM g n [mainGlobals] (1 <<< mainGlobals)
def obsMG (n : Nat) (file : Str) (fb : List (Frag → Bool)) (fn : List DefM) (g : Addr → Option Obj) : AlM := obsM file fb fn (He.frG g (asM g n))
def hookM (n : Nat) (file : Str) (fb : List (Frag → Bool)) (fn : List DefM) : PySem.W.Hook where
  α := AlM
  obs := fun s => obsMG n file fb fn s.heap.get?
  val := fun _ => valM fn
  says := fun _ h => ∃ K : Frag, K.In h ∧ SaysM file fb fn K
  of := fun _ _ e => ⟨_, He.frG_in, e⟩
  keeps := fun _ _ _ ⟨K, hK, c⟩ k => ⟨K, PySem.W.Frag.In.keeps hK k, c⟩
theorem obsMG_eq {n : Nat} {file : Str} {fb : List (Frag → Bool)} {fn : List DefM} {g : Addr → Option Obj} {s : Shared} (h : ∀ a, g a = s.heap.get? a) : obsMG n file fb fn g = (hookM n file fb fn).obs s := by
  have e : g = s.heap.get? := funext h
  rw [e]
  rfl
/-- all that a derivation may ask of the head -/
structure Fx (P : Program) (fb : List (Frag → Bool)) (fn : List DefM) (K : Frag) (mg : Str → Option Value) : Prop where
  says : SaysM P.main.file fb fn K
  ex : ∃ h : Heap, K.In h ∧ h.Ns mainGlobals mg
section
variable {P : Program} {fb : List (Frag → Bool)} {fn : List DefM} {K : Frag} {mg : Str → Option Value} (Z : Fx P fb fn K mg)
include Z
theorem Fx.fact (i : Nat) {f : Frag → Bool} (h : fb[i]? = some f) : f K = true := by
  have c1 := (He.ba (show ((fb.all fun f => f K) && fn.all fun d => d.ok P.main.file K) = true from congrArg (fun z : AlM => z.1) Z.says)).1
  exact List.all_eq_true.mp c1 f (List.mem_of_getElem? h)
theorem Fx.dfOk (i : Nat) {d : DefM} (h : fn[i]? = some d) : fnWM K d = d.val ∧ d.ok P.main.file K = true := by
  have c2 := (He.ba (show ((fb.all fun f => f K) && fn.all fun d => d.ok P.main.file K) = true from congrArg (fun z : AlM => z.1) Z.says)).2
  have e : fn.map (fun d => fnWM K d) = fn.map DefM.val := congrArg (fun z : AlM => z.2) Z.says
  have e2 : (fn.map fun d => fnWM K d)[i]? = (fn.map DefM.val)[i]? := by rw [e]
  rw [List.getElem?_map, List.getElem?_map, h] at e2
  exact ⟨Option.some.inj e2, List.all_eq_true.mp c2 d (List.mem_of_getElem? h)⟩
theorem Fx.df (i : Nat) {d : DefM} (h : fn[i]? = some d) (hs : d.sup = none) : ∃ fd, FunD K d.name d.qual d.params d.body d.scope (d.dvs K) [] (d.ad K) fd := let q := Z.dfOk i h; DefM.funD hs q.1 q.2
theorem Fx.keep (i : Nat) {d : DefM} (h : fn[i]? = some d) : PySem.W.keepIn K (.ref (d.ad K)) = true := (He.ba (Z.dfOk i h).2).1
abbrev ckF (f : He.Fa) : Frag → Bool := fun K => f.ok K
omit Z in
theorem fx_in (Z : Fx P fb fn K mg) {T : Prop} (k : ∀ h : Heap, K.In h → h.Ns mainGlobals mg → T) : T := let ⟨h, a, b⟩ := Z.ex; k h a b
theorem Fx.glo (i : Nat) {x : Str} (h : fb[i]? = some (ckF (.glo x))) : mg x = some (.ref (He.ga K x)) := fx_in Z fun _ a b => He.glo_ok a b (Z.fact i h)
theorem Fx.free (i : Nat) {x : Str} (h : fb[i]? = some (ckF (.free x))) : mg x = none := fx_in Z fun _ a b => He.free_ok a b (Z.fact i h)
theorem Fx.int (i : Nat) {x : Str} {j : Int} (h : fb[i]? = some (ckF (.int x j))) : ∃ t, mg x = some (.int j t) := fx_in Z fun _ a b => He.int_ok a b (Z.fact i h)
theorem Fx.str (i : Nat) {x z : Str} (h : fb[i]? = some (ckF (.str x z))) : ∃ t, mg x = some (.str z t) := fx_in Z fun _ a b => He.str_ok a b (Z.fact i h)
theorem Fx.cls (i : Nat) {x : Str} (h : fb[i]? = some (ckF (.cls x))) : Cls K (He.ga K x) := He.cls_ok (Z.fact i h)
theorem Fx.noat (i : Nat) {x f : Str} (h : fb[i]? = some (ckF (.noat x f))) : NoAttr K (He.ga K x) f := He.noat_ok (Z.fact i h)
theorem Fx.meth (i : Nat) {x f : Str} (h : fb[i]? = some (ckF (.meth x f))) : Meth K (He.ga K x) f (He.ma K (He.ga K x) f) := He.meth_ok (Z.fact i h)
theorem Fx.mkr (i : Nat) {x : Str} (h : fb[i]? = some (ckF (.mkr x))) : Mk K (He.ga K x) (He.ma K (He.ga K x) "__init__") := He.mkr_ok (Z.fact i h)
abbrev ckTup (x : Str) (vs : List He.Dv) : Frag → Bool := fun K => He.tupB K x vs
theorem Fx.tup (i : Nat) {x : Str} {vs : List He.Dv} (h : fb[i]? = some (ckTup x vs)) : KT K (He.ga K x) (vs.map (He.Dv.v K)) := by
  rcases He.tupB_ok (Z.fact i h) (fun _ => none) with (z | ⟨o, z⟩) | z
  · cases z
  · cases z
  · exact z
/-! own exceptions -/
abbrev ckExc (x : Str) (newId : String) (bm : List Value) : Frag → Bool := fun K => exB K (He.ga K x) bm newId && (He.eqO (PySem.W.findIn K (.ref (He.ga K x)) "__setattr__") (some (some (.builtin "object.__setattr__"))) && (decide (PySem.W.subIn K (.ref (He.ga K x)) (.type "BaseException") = some true) &&
  (decide (PySem.W.typeIn K (.ref (He.ga K x)) = some (.type "type")) && (PySem.W.keepIn K (.ref (He.ga K x)) && (He.eqO (PySem.W.findIn K (.ref (He.ga K x)) "__init__") (some (some (.ref (He.ma K (He.ga K x) "__init__")))) && decide (PySem.W.typeIn K (.ref (He.ma K (He.ga K x) "__init__")) = some (.type "function")))))))
theorem Fx.exc (i : Nat) {x : Str} {B newId initId : String} {bm : List Value} (b : BaseX B newId initId bm) (h : fb[i]? = some (ckExc x newId bm)) :
    OexB K (He.ga K x) B newId initId bm ∧ PySem.W.findIn K (.ref (He.ga K x)) "__init__" = some (some (.ref (He.ma K (He.ga K x) "__init__"))) ∧ PySem.W.typeIn K (.ref (He.ma K (He.ga K x) "__init__")) = some (.type "function") := by
  obtain ⟨h1, r⟩ := He.ba (Z.fact i h)
  obtain ⟨h2, r⟩ := He.ba r
  obtain ⟨h3, r⟩ := He.ba r
  obtain ⟨h4, r⟩ := He.ba r
  obtain ⟨h5, r⟩ := He.ba r
  obtain ⟨h6, h7⟩ := He.ba r
  exact ⟨⟨b, exB_ok h1, He.eqO_ok h2, of_decide_eq_true h3, of_decide_eq_true h4, h5⟩, He.eqO_ok h6, of_decide_eq_true h7⟩
/-! isinstance -/
abbrev ckTyC (x : Str) : Frag → Bool := fun K => (ckF (.cls x)) K && (He.eqO (PySem.W.findIn K (.ref (He.ga K x)) "__class__") (some (some (.builtin "object.__class__"))) && (He.eqO (PySem.W.specialIn K (.builtin "object.__class__") "__get__") (some (some (.builtin "getset_descriptor.__get__"))) &&
  (decide (PySem.W.takesIn K (.builtin "object.__class__") = some true) && decide (PySem.W.mroIn K (He.ga K x) (.type "object") = some true))))
abbrev ckIsi (it : Isi) : Frag → Bool := fun K => (it.cs.all fun C => ckTyC C K) && ((it.oo.all fun q => decide (PySem.W.kitOne K (.ref (He.ga K q.1.1)) (.ref (He.ga K q.1.2)) = some q.2)) && ((it.bo.all fun C => tyNames.all fun n => decide (PySem.W.kitOne K (.type n) (.ref (He.ga K C)) = some false)) &&
  it.ob.all fun q => decide (PySem.W.kitOne K (.ref (He.ga K q.1.1)) (.type q.1.2) = some q.2)))
theorem Fx.isi (i : Nat) {it : Isi} (h : fb[i]? = some (ckIsi it)) : IsiOk K it := by
  obtain ⟨h1, r⟩ := He.ba (Z.fact i h)
  obtain ⟨h2, r⟩ := He.ba r
  obtain ⟨h3, h4⟩ := He.ba r
  refine ⟨fun C hC => ?_, fun q hq => of_decide_eq_true (List.all_eq_true.mp h2 q hq), fun C hC n hn => of_decide_eq_true (List.all_eq_true.mp (List.all_eq_true.mp h3 C hC) n hn), fun q hq => of_decide_eq_true (List.all_eq_true.mp h4 q hq)⟩
  obtain ⟨a1, a⟩ := He.ba (List.all_eq_true.mp h1 C hC)
  obtain ⟨a2, a⟩ := He.ba a
  obtain ⟨a3, a⟩ := He.ba a
  obtain ⟨a4, a5⟩ := He.ba a
  exact ⟨He.cls_ok a1, He.eqO_ok a2, He.eqO_ok a3, of_decide_eq_true a4, of_decide_eq_true a5⟩
/-! bound methods, super -/
abbrev ckBm (x m : Str) : Frag → Bool := fun K => (ckF (.meth x m)) K && (He.eqO (PySem.W.specialIn K (.ref (He.ma K (He.ga K x) m)) "__get__") (some (some (.builtin "function.__get__"))) && (decide (PySem.W.takesIn K (.ref (He.ma K (He.ga K x) m)) = some false) && (!PySem.W.copiedNames.contains m && PySem.W.fnIn K (He.ma K (He.ga K x) m))))
theorem Fx.bm (i : Nat) {x m : Str} (h : fb[i]? = some (ckBm x m)) : BMeth K (He.ga K x) m (He.ma K (He.ga K x) m) := by
  obtain ⟨h1, r⟩ := He.ba (Z.fact i h)
  obtain ⟨h2, r⟩ := He.ba r
  obtain ⟨h3, r⟩ := He.ba r
  obtain ⟨h4, h5⟩ := He.ba r
  exact ⟨He.meth_ok h1, He.eqO_ok h2, of_decide_eq_true h3, by simpa using h4, h5⟩
end
/-! properties, constants -/
def propG (C f : Str) (K : Frag) : Addr := match PySem.W.recIn K (He.ma K (He.ga K C) f) "property" with
  | some (.ref g :: _) => g
  | _ => 0
abbrev ckProp (C f : Str) : Frag → Bool := fun K => He.eqO (PySem.W.findIn K (.ref (He.ga K C)) f) (some (some (.ref (He.ma K (He.ga K C) f)))) && (He.eqO (PySem.W.specialIn K (.ref (He.ma K (He.ga K C) f)) "__get__") (some (some (.builtin "property.__get__"))) && (decide (PySem.W.takesIn K (.ref (He.ma K (He.ga K C) f)) = some true) &&
  (match PySem.W.recIn K (He.ma K (He.ga K C) f) "property" with
    | some (.ref _ :: _) => true
    | _ => false)))
theorem Fx.propOf {P : Program} {fb : List (Frag → Bool)} {fn : List DefM} {K : Frag} {mg : Str → Option Value} (Z : Fx P fb fn K mg) (i : Nat) {C f : Str} (h : fb[i]? = some (ckProp C f)) : PropOf K (He.ga K C) f (He.ma K (He.ga K C) f) (propG C f K) := by
  obtain ⟨h1, r⟩ := He.ba (Z.fact i h)
  obtain ⟨h2, r⟩ := He.ba r
  obtain ⟨h3, h4⟩ := He.ba r
  refine ⟨He.eqO_ok h1, He.eqO_ok h2, of_decide_eq_true h3, ?_⟩
  unfold propG
  split at h4
  · rename_i g rest e
    rw [e]
    exact ⟨rest, rfl⟩
  · cases h4
abbrev ckCon (C f : Str) (v : He.Dv) : Frag → Bool := fun K => (match PySem.W.findIn K (.ref (He.ga K C)) f with
  | some (some u) => He.relB (v.v K) u && He.eqO (PySem.W.specialIn K u "__get__") (some none)
  | _ => false) && !PySem.W.copiedNames.contains f
theorem Fx.con {P : Program} {fb : List (Frag → Bool)} {fn : List DefM} {K : Frag} {mg : Str → Option Value} (Z : Fx P fb fn K mg) (i : Nat) {C f : Str} {v : He.Dv} (h : fb[i]? = some (ckCon C f v)) : ∃ u, Con K (He.ga K C) f (v.v K) u := by
  obtain ⟨h1, h2⟩ := He.ba (Z.fact i h)
  split at h1
  · rename_i u e
    obtain ⟨a, b⟩ := He.ba h1
    exact ⟨u, e, He.relB_ok a, He.eqO_ok b, by simpa using h2⟩
  · cases h1
end Mp
set_option Elab.async false
set_option linter.all false
set_option maxRecDepth 100000
set_option maxHeartbeats 4000000
/-! Mp: more built-in functions. -/
namespace Mp
open PySem PySem.Spec PyProof.Rows L2
def max2D (ds : List D) (s : Sto) : Res D := match ds with
  | [.int i, .int j] => .ok (.int (if j > i then j else i)) s
  | _ => .bad
def min2D (ds : List D) (s : Sto) : Res D := match ds with
  | [.int i, .int j] => .ok (.int (if j < i then j else i)) s
  | _ => .bad
section
end
/-- a getter that lets no exception out -/
def noxF (m : DF) : DF := fun ds s => match m ds s with
  | .exc _ _ _ => .bad
  | r => r
theorem noxF_ne {m : DF} : ∀ d s C fs s', noxF m [d] s ≠ .exc C fs s' := fun d s C fs s' => by
  unfold noxF
  cases m [d] s <;> simp
theorem FnD.nox {P : Program} {w : World} {K : Frag} {mg : Str → Option Value} {base : Heap} {k : Nat} {f : Addr} {m : DF} (F : FnD P w K mg base k f m) : FnD P w K mg base k f (noxF m) := fun A outer s H us vs Q E hr e0 r h => by
  obtain ⟨ds, so, u, hu, rs, st, hp⟩ := h
  refine F A outer s H us vs Q E hr e0 r ⟨ds, so, u, hu, rs, st, ?_⟩
  unfold noxF at hp
  cases e : m ds so <;> rw [e] at hp
  · exact hp
  · exact hp.elim
  · exact hp
end Mp
set_option Elab.async false
set_option linter.all false
set_option maxRecDepth 100000
set_option maxHeartbeats 4000000
/-! Mp: a caught error as a value: isinstance(e, C). -/
namespace Mp
open PySem PySem.Spec PyProof.Rows L2 PySem.Calls
section
end
/-! ### on data -/
def isxD (a : Addr) (d : Option Addr) (tt : List (String × Bool)) (ds : List D) (s : Sto) : Res D := match ds with
  | [.exn a' d' _ _, .ty n] => if a' = a ∧ d' = d then (match tt.lookup n with
    | some b => .ok (.bl b) s
    | none => .bad) else .bad
  | _ => .bad
/-! ### the head's facts -/
end Mp
set_option Elab.async false
set_option linter.all false
set_option maxRecDepth 100000
set_option maxHeartbeats 4000000
/-! Mp: repr of data with dicts. -/
namespace Mp
open PySem PySem.Spec PyProof.Rows L2
def keyP : Key → PyData
  | .inl i => .int i
  | .inr z => .str z
mutual
inductive Dq (K : Frag) (H : Hp) : V → PyData → Prop
  | non : Dq K H .non .none
  | bl (b : Bool) : Dq K H (.bl b) (.bool b)
  | int (i : Int) : Dq K H (.int i) (.int i)
  | str (x : Str) : Dq K H (.str x) (.str x)
  | lst {a : Addr} {xs : List V} {ds : List PyData} : SqL K H a xs → Dqs K H xs ds → Dq K H (.ref a) (.list ds)
  | tup {a : Addr} {xs : List V} {ds : List PyData} : SqT K H a xs → Dqs K H xs ds → Dq K H (.ref a) (.tuple ds)
  | dic {a : Addr} {kvs : List (Key × V)} {ds : List PyData} : Rd H a (.dK kvs) → Dqs K H (kvs.map (·.2)) ds → Dq K H (.ref a) (.dict ((kvs.map fun p => keyP p.1).zip ds))
inductive Dqs (K : Frag) (H : Hp) : List V → List PyData → Prop
  | nil : Dqs K H [] []
  | cons {v : V} {vs : List V} {d : PyData} {ds : List PyData} : Dq K H v d → Dqs K H vs ds → Dqs K H (v :: vs) (d :: ds)
end
theorem Dqs.length {K : Frag} {H : Hp} : ∀ {vs : List V} {ds : List PyData}, Dqs K H vs ds → vs.length = ds.length
  | _, _, .nil => rfl
  | _, _, .cons _ r => congrArg (· + 1) r.length
section
end
/-! ### on data -/
mutual
def rdP (s : Sto) : Nat → D → Option PyData
  | 0, _ => none
  | n + 1, d => match d with
    | .non => some .none
    | .bl b => some (.bool b)
    | .int i => some (.int i)
    | .str z => some (.str z)
    | .tup l => (rdPs s n l).map .tuple
    | .lst l => (rdPs s n l).map .list
    | .rol l => (rdPs s n l).map .list
    | .dct m => (rdPs s n (m.map (·.2))).map fun ps => .dict ((m.map fun p => keyP p.1).zip ps)
    | .cel k => (match s[k]? with
      | some (some (.lst l)) => (rdPs s n l).map .list
      | some (some (.dct m)) => (rdPs s n (m.map (·.2))).map fun ps => .dict ((m.map fun p => keyP p.1).zip ps)
      | some (some (.rod m)) => (rdPs s n (m.map (·.2))).map fun ps => .dict ((m.map fun p => keyP p.1).zip ps)
      | _ => none)
    | _ => none
def rdPs (s : Sto) : Nat → List D → Option (List PyData)
  | 0, _ => none
  | _ + 1, [] => some []
  | n + 1, d :: l => (rdP s n d).bind fun p => (rdPs s n l).map fun ps => p :: ps
end
section
end
section
end
end Mp
set_option Elab.async false
set_option linter.all false
set_option maxRecDepth 100000
set_option maxHeartbeats 4000000
/-! Mp: methods of lists and texts. -/
namespace Mp
open PySem PySem.Spec PyProof.Rows L2
def isLstD (s : Sto) (x : D) : Bool := (lstOf s x).isSome
def isStrD (_ : Sto) : D → Bool
  | .str _ => true
  | _ => false
/-- o.m(..), o of a built-in type -/
def bmD (ty : Sto → D → Bool) (f : D → List D → Sto → Res D) (o : DE) (a : DM (List D)) : DE := bindM o fun x => fun r s => if ty s x = true then bindM a (fun ds => fun _ s => f x ds s) r s else .bad
def TyOk (K : Frag) (T : String) (ty : Sto → D → Bool) : Prop := ∀ w s x d, StR K w s → Rep K w x d → ty s d = true → tyV K T x w.H
def VRM (K : Frag) (r : V → List V → Hp → VK → Prop) (f : D → List D → Sto → Res D) : Prop := ∀ w s x xs d ds Q E, StR K w s → Rep K w x d → Reps K w xs ds → Post K (Rep K) w E Q (f d ds s) → r x xs w.H Q
theorem ty_str {K : Frag} : TyOk K "str" isStrD := fun w s x d st r h => by
  cases r with
  | str z => rfl
  | _ => cases h
theorem ty_lst {K : Frag} : TyOk K "list" isLstD := fun w s x d st r h => by
  unfold isLstD at h
  cases e : lstOf s d with
  | none => rw [e] at h; cases h
  | some l =>
    obtain ⟨p, vs, rfl, hs, _⟩ := lstOf_ok st r e
    exact .inl ⟨rfl, vs, hs⟩
section
variable {X : Cx} {W : WX} {o e : Expr} {es : List Expr} {apos cpos : Pos} {mo : DE} {ma : DM (List D)} {T id : String} {name : Str} {r : V → List V → Hp → VK → Prop} {ty : Sto → D → Bool} {f : D → List D → Sto → Res D}
theorem e_bm (pa : PlainAttrs T) (slot : Slot T name id) (hty : typeOf (.builtin id) = pure (.type "method_descriptor")) (hm : MtR X id r) (hT : TyOk X.K T ty) (hv : VRM X.K r f) (ho : PE X o (tE X.K W mo)) (ha : PA X (e :: es) (tA X.K W ma))
    (hbase : attributeBase o name X.env (eval o X.env) = eval o X.env := by rfl)
    (hfew : ((backTo cpos (starEach (e :: es) X.env)).all (fun x => !x.1) && (backToKw cpos (keywordEach [] X.env)).all (fun x => x.1.isSome)
      && decide ((e :: es).length + ([] : List Keyword).length + (if ([] : List Keyword).isEmpty then 0 else 1) < 30)) = true := by rfl)
    (hline : (apos.endLine == cpos.line) = true := by rfl) (hs : starEach (e :: es) X.env = (false, eval e X.env) :: starEach es X.env := by rfl) (hplain : (backTo cpos (starEach es X.env)).any (·.1) = false := by rfl) :
    PE X (.Call (.Attribute o name apos) (e :: es) [] cpos) (tE X.K W (bmD ty f mo ma)) := PE.imp (pe_bm pa slot hty hm ho ha hbase hfew hline hs hplain) fun t H Q h => by
  obtain ⟨r, s, w, rfl, env, st, hp⟩ := h
  exact hp.bind env st fun x d s1 w1 e1 st1 r1 hp1 => by
    by_cases hk : ty s1 d = true
    · rw [if_pos hk] at hp1
      exact ⟨hT w1 s1 x d st1 r1 hk, hp1.bind (env.ext e1) st1 fun xs ds s2 w2 e2 st2 r2 hp2 => hv w2 s2 x xs d ds Q _ st2 (r1.ext e2) r2 hp2⟩
    · rw [if_neg hk] at hp1
      exact hp1.elim
end
/-! ### lists -/
theorem Reps.one {K : Frag} {w : Wd} {xs : List V} {d : D} (h : Reps K w xs [d]) : ∃ x, xs = [x] ∧ Rep K w x d := by
  cases h with
  | cons q r => cases r; exact ⟨_, rfl, q⟩
theorem cel_lst {K : Frag} {w : Wd} {s : Sto} {x : V} {n : Nat} {l : List D} (st : StR K w s) (r : Rep K w x (.cel n)) (h : s[n]? = some (some (.lst l))) : ∃ a vs, x = .ref a ∧ w.A n = some a ∧ ¬ w.Z a ∧ ¬ w.P a ∧ w.H a = some (.lst vs) ∧ Reps K w vs l := by
  cases r with
  | @cel n a0 hA =>
    obtain ⟨a1, h1, hz, hc⟩ := st.at_ n _ h
    have ea : a1 = a0 := Option.some.inj (h1.symm.trans hA)
    subst ea
    obtain ⟨vs, hh, rs⟩ := hc
    exact ⟨a1, vs, rfl, h1, hz, st.np n _ a1 h h1, hh, rs⟩
/-- a list in a cell is changed, something is told -/
theorem cel_set {K : Frag} {w : Wd} {s : Sto} {n : Nat} {l l2 : List D} {a : Addr} {vs2 : List V} {v : V} {d : D} {Q : VK} {E : XK} (st : StR K w s) (h : s[n]? = some (some (.lst l))) (hA : w.A n = some a) (hz : ¬ w.Z a) (hP : ¬ w.P a) (rs : Reps K w vs2 l2) (rv : Rep K w v d)
    (hp : Post K (Rep K) w E Q (.ok d (s.set n (some (.lst l2))))) : Q v (upd w.H a (.lst vs2)) := by
  have e3 : Ext w (w.put a (.lst vs2)) := Wd.mut_ext hz hP
  exact hp v (w.put a (.lst vs2)) e3 (Wd.mut_st st h hA hz ⟨_, upd_same, rs.ext e3⟩) (rv.ext e3)
theorem v_app {K : Frag} : VRM K rAppend appD := fun w s x xs d ds Q E st r rs hp => by
  unfold appD at hp
  split at hp
  · split at hp
    · split at hp
      · split at hp
        · rename_i _ n _ l h _ d2 hl
          obtain ⟨a, vs, rfl, hA, hz, hP, hh, rv⟩ := cel_lst st r h
          obtain ⟨y, rfl, ry⟩ := rs.one
          exact ⟨a, vs, y, rfl, rfl, hh, by rw [rv.length]; exact hl, cel_set st h hA hz hP (rv.append (.cons ry .nil)) .non hp⟩
        · exact hp.elim
      · exact hp.elim
    · exact hp.elim
  · exact hp.elim
theorem Reps.eraseIdx {K : Frag} {w : Wd} : ∀ {vs : List V} {ds : List D} (i : Nat), Reps K w vs ds → Reps K w (vs.eraseIdx i) (ds.eraseIdx i)
  | _, _, _, .nil => .nil
  | _, _, 0, .cons _ t => t
  | _, _, i + 1, .cons r t => .cons r (t.eraseIdx i)
/-- xs.pop(i) -/
@[irreducible] def popD (x : D) (ds : List D) (s : Sto) : Res D := match x with
  | .cel n => (match s[n]? with
    | some (some (.lst l)) => (match ds with
      | [.int i] => if -(2 ^ 63) ≤ i ∧ i < 2 ^ 63 then (match seqIndex? i l.length with
        | some k => (match l[k]? with
          | some d => .ok d (s.set n (some (.lst (l.eraseIdx k))))
          | none => .bad)
        | none => .bad) else .bad
      | _ => .bad)
    | _ => .bad)
  | _ => .bad
theorem v_pop {K : Frag} : VRM K rPopAt popD := fun w s x xs d ds Q E st r rs hp => by
  unfold popD at hp
  split at hp
  · split at hp
    · split at hp
      · split at hp
        · split at hp
          · split at hp
            · rename_i _ n _ l h _ i hi _ k hk _ d2 hd
              obtain ⟨a, vs, rfl, hA, hz, hP, hh, rv⟩ := cel_lst st r h
              obtain ⟨y, rfl, ry⟩ := rs.one
              cases ry
              obtain ⟨v, hv, rd⟩ := rv.get hd
              exact ⟨a, vs, i, k, v, rfl, rfl, hh, hi.1, hi.2, by rw [rv.length]; exact hk, hv, cel_set st h hA hz hP (rv.eraseIdx k) rd hp⟩
            · exact hp.elim
          · exact hp.elim
        · exact hp.elim
      · exact hp.elim
    · exact hp.elim
  · exact hp.elim
/-! ### texts -/
def strsOf : List D → Option (List Str)
  | [] => some []
  | .str z :: r => (strsOf r).map fun l => z :: l
  | _ :: _ => none
theorem strsOf_ok {K : Frag} {w : Wd} : ∀ {vs : List V} {ds : List D} {l : List Str}, Reps K w vs ds → strsOf ds = some l → vs = l.map V.str
  | _, _, _, .nil, h => by cases h; rfl
  | _, d :: ds, l, .cons r t, h => by
    cases r with
    | str z =>
      have h' : (strsOf ds).map (fun l => z :: l) = some l := h
      cases e : strsOf ds with
      | none => rw [e] at h'; cases h'
      | some l2 =>
        rw [e] at h'
        cases h'
        rw [strsOf_ok t e]
        rfl
    | _ => cases h
@[irreducible] def joinD (x : D) (ds : List D) (s : Sto) : Res D := match x with
  | .str a => (match ds with
    | [d] => (match lstOf s d with
      | some l => (match strsOf l with
        | some ys => if (ys.map (·.length)).sum + ys.length * a.length ≤ 16777216 then .ok (.str (Txt.join a ys)) s else .bad
        | none => .bad)
      | none => .bad)
    | _ => .bad)
  | _ => .bad
theorem v_join {K : Frag} : VRM K (fun x xs H Q => ∃ a p, ∃ ys : List Str, x = .str a ∧ xs = [.ref p] ∧ (SqL K H p (ys.map V.str) ∨ SqT K H p (ys.map V.str)) ∧
    (ys.map (·.length)).sum + ys.length * a.length ≤ 16777216 ∧ Q (.str (Txt.join a ys)) H) joinD := fun w s x xs d ds Q E st r rs hp => by
  unfold joinD at hp
  split at hp
  · split at hp
    · split at hp
      · split at hp
        · split at hp
          · rename_i _ a _ d2 _ l h _ ys hy hl
            cases r
            obtain ⟨y, rfl, ry⟩ := rs.one
            obtain ⟨p, vs, rfl, hs, rv⟩ := lstOf_ok st ry h
            have ev := strsOf_ok rv hy
            subst ev
            exact ⟨a, p, ys, rfl, rfl, .inl hs, hl, hp.pure st (.str _)⟩
          · exact hp.elim
        · exact hp.elim
      · exact hp.elim
    · exact hp.elim
  · exact hp.elim
end Mp
set_option Elab.async false
set_option linter.all false
set_option maxRecDepth 100000
set_option maxHeartbeats 4000000
/-! Mp: dict comprehensions. -/
namespace Mp
open PySem PySem.Spec PyProof.Rows L2
open Classical in
noncomputable def dcF (c : Src) (g : DG) (tt : DM Bool) (tk te : DE) (r : En) : List D → List (Key × D) → Sto → Res (List (Key × D))
  | [], acc, s => if SrcOk c s then .ok acc s else .bad
  | d :: l, acc, s => if SrcOk c s then (match g d r s with
    | none => .bad
    | some p => (match tt p.1 p.2 with
      | .ok k s1 => if k = true then (match tk p.1 s1 with
        | .ok y s2 => (match te p.1 s2 with
          | .ok z s3 => (match keyD y with
            | some q => if acc.length < sizeLine then dcF c g tt tk te r l (putA acc q z) s3 else .bad
            | none => .bad)
          | _ => .bad)
        | _ => .bad) else dcF c g tt tk te r l acc s1
      | _ => .bad)) else .bad
/-- {k: v for ..}: frozen at once -/
noncomputable def dcM (mi : DM Src) (g : DG) (tt : DM Bool) (tk te : DE) (vs : List Nat) : DE := bindM mi fun c => fun r s => match dcF c g tt tk te (wipeE r vs) c.its [] s with
  | .ok acc s' => .ok (.dct acc) s'
  | _ => .bad
theorem unpin_frz {K : Frag} {w0 w : Wd} {s : Sto} {p : Addr} {l : List (Key × V)} {m : List (Key × D)} (e : Ext w0 w) (st : StR K w s) (h1 : ¬ w0.P p) (hz : ¬ w0.Z p) (hP : w.P p) (kv : KVR K w l m) (o : Obj) :
    ∃ w2 : Wd, w2.H = upd w.H p (.frz o (.dK l)) ∧ Ext w0 w2 ∧ StR K w2 s ∧ Rep K w2 (.ref p) (.dct m) := by
  let w2 : Wd := ⟨w.A, fun a => w.Z a ∨ a = p, fun a => w.P a ∧ a ≠ p, upd w.H p (.frz o (.dK l))⟩
  have e0 : Ex0 w w2 := ⟨fun _ _ h => h, fun _ h => .inl h, fun a z => upd_ne fun q => (st.pz p hP).1 (q ▸ z)⟩
  refine ⟨w2, rfl, ⟨⟨e.A, fun a z => .inl (e.Z a z), fun a z => (show upd w.H p _ a = w.H a from upd_ne fun q => hz (q ▸ z)).trans (e.H a z)⟩, fun a z => ⟨e.P a z, fun q => h1 (q ▸ z)⟩, fun a z => (show upd w.H p _ a = w.H a from upd_ne fun q => h1 (q ▸ z)).trans (e.HP a z)⟩,
    ⟨fun n ct q => ?_, fun n ct a q ha z => st.np n ct a q ha z.1, fun a z => ⟨fun q => q.elim (st.pz a z.1).1 z.2, ?_⟩, st.inj, fun a z => ?_, st.new⟩, Rep.dctK (w := w2) (.inr rfl) upd_same (kv.ex0 e0)⟩
  · obtain ⟨a, k1, k2, k3⟩ := st.at_ n ct q
    have ne : a ≠ p := fun z => st.np n ct a q k1 (z ▸ hP)
    exact ⟨a, k1, k2.mono (w' := w2) fun (z : w.Z a ∨ a = p) => Or.elim z id fun z => absurd z ne, k3.sam0 e0 (upd_ne ne)⟩
  · rw [show w2.H a = w.H a from upd_ne z.2]
    exact (st.pz a z.1).2
  · show upd w.H p _ a ≠ none
    by_cases hb : a = p
    · rw [hb, upd_same]
      exact fun z => nomatch z
    · rw [upd_ne hb]
      exact st.fz a (Or.elim z id fun q => absurd q hb)
theorem dc_imp {K : Frag} {W : WX} {mi : DM Src} {g : DG} {tt : DM Bool} {tk te : DE} {ns : List Nat} {t : L2.St} {H : Hp} {Q : VK} (h : tE K W (dcM mi g tt tk te ns) t H Q) : tDc (tI K W mi) (tGw K g ns) (tT K W0 tt) (tE K W0 tk) (tE K W0 te) ns t H (fun v H1 => Q v H1 ∨ ∃ d u, v = .ref d ∧ H1 d = some u ∧ Mut (some u) ∧ ∀ od, Q v (upd H1 d (.frz od u))) := by
  obtain ⟨r, s, w, rfl, env, st, hp⟩ := h
  exact hp.bind env st fun J sc s1 w1 e1 st1 r1 hp1 => by
    obtain ⟨its, cl⟩ := sc
    intro Dn nD
    have hz : ¬ w1.Z Dn := fun z => st1.fz Dn z nD
    have hP : ¬ w1.P Dn := fun z => (st1.pz Dn z).2 nD
    have env1 := env.ext e1
    cases ef : dcF ⟨its, cl⟩ g tt tk te (wipeE r ns) its [] s1 with
    | exc C fs s' => simp only [ef] at hp1; exact hp1.elim
    | bad => simp only [ef] at hp1; exact hp1.elim
    | ok fin sf =>
      simp only [ef] at hp1
      refine ⟨fun i m H => i + m = its.length ∧ ∃ (w : Wd) (s : Sto) (acc : List (Key × D)) (vs : List (Key × V)), w.H = H ∧ Ext w1 w ∧ StR K w s ∧ w.P Dn ∧ w.H Dn = some (.dK vs) ∧ KVR K w vs acc ∧ dcF ⟨its, cl⟩ g tt tk te (wipeE r ns) (its.drop i) acc s = .ok fin sf,
        ⟨its.length, Nat.zero_add _, w1.pin Dn (.dK []), s1, [], [], rfl, Wd.pin_ext st1 nD, Wd.pin_st st1 nD, .inr rfl, upd_same, .nil, ef⟩, fun i m H h => ?_⟩
      obtain ⟨him, w2, s2, acc, vs, rfl, x2, st2, hP2, hh2, rs2, ef2⟩ := h
      cases m with
      | zero =>
        have hi : i = its.length := by omega
        subst hi
        rw [List.drop_length] at ef2
        unfold dcF at ef2
        by_cases ck : SrcOk ⟨its, cl⟩ s2
        · rw [if_pos ck] at ef2
          cases ef2
          refine .inl ⟨r1.stop w2 sf x2 st2 ck, .inr ⟨Dn, .dK vs, rfl, hh2, trivial, fun od => ?_⟩⟩
          obtain ⟨w9, h9, x9, st9, r9⟩ := unpin_frz x2 st2 hP hz hP2 rs2 od
          have z := hp1 (.ref Dn) w9 x9 st9 r9
          rw [h9] at z
          exact z
        · rw [if_neg ck] at ef2
          cases ef2
      | succ m =>
        have hlt : i < its.length := by omega
        have hd : its[i]? = some its[i] := List.getElem?_eq_getElem hlt
        rw [List.drop_eq_getElem_cons hlt] at ef2
        unfold dcF at ef2
        by_cases ck : SrcOk ⟨its, cl⟩ s2
        rotate_left
        · rw [if_neg ck] at ef2
          cases ef2
        rw [if_pos ck] at ef2
        obtain ⟨hgo, hy⟩ := r1.go i _ w2 s2 hd x2 st2 ck
        refine .inr ⟨hgo, fun H' => i + 1 + m = its.length ∧ ∃ (w : Wd) (s : Sto) (acc : List (Key × D)) (vs : List (Key × V)), w.H = H' ∧ Ext w1 w ∧ StR K w s ∧ w.P Dn ∧ w.H Dn = some (.dK vs) ∧ KVR K w vs acc ∧ dcF ⟨its, cl⟩ g tt tk te (wipeE r ns) (its.drop (i + 1)) acc s = .ok fin sf,
          fun H' q => ⟨m, Nat.lt_succ_self m, q⟩, fun x H' yl => ?_⟩
        obtain ⟨w3, x3, rfl, st3, rx⟩ := hy x H' yl
        refine ⟨wipeE r ns, s2, w3, its[i], rfl, (wipe_env env1 ns).ext (x2.trans x3), st3, rx, ?_⟩
        cases eg : g its[i] (wipeE r ns) s2 with
        | none => rw [eg] at ef2; cases ef2
        | some p =>
          rw [eg] at ef2
          dsimp only at ef2
          intro t4 w4 x4 env4 st4 wi4
          refine ⟨?_, ?_⟩
          · have ww : wipe (wipe t ns) ns = wipe t ns := by
              have key : ∀ ms : List Nat, (∀ j ∈ ms, j ∈ ns) → wipe (wipe t ms) ns = wipe t ns := by
                intro ms
                induction ms with
                | nil => intro _; rfl
                | cons j ms ih =>
                  intro hj
                  show wipe ((wipe t ms).set j none) ns = wipe t ns
                  rw [wipe_set (hj j List.mem_cons_self)]
                  exact ih fun q hq => hj q (List.mem_cons_of_mem _ hq)
              exact key ns fun j hj => hj
            rw [← ww]
            exact wi4
          · refine ⟨p.1, p.2, w4, rfl, env4, st4, ?_⟩
            cases et : tt p.1 p.2 with
            | exc C fs s' => rw [et] at ef2; cases ef2
            | bad => rw [et] at ef2; cases ef2
            | ok kk s5 =>
              rw [et] at ef2
              dsimp only at ef2
              intro b w5 x5 st5 eb
              subst eb
              have x25 := ((x2.trans x3).trans x4).trans x5
              have x5' := (x3.trans x4).trans x5
              cases b with
              | false => exact ⟨by omega, w5, s5, acc, vs, rfl, x25, st5, x5'.P Dn hP2, (x5'.HP Dn hP2).trans hh2, rs2.ext x5', ef2⟩
              | true =>
                refine ⟨p.1, s5, w5, rfl, env4.ext x5, st5, ?_⟩
                simp only [if_true] at ef2
                cases ek : tk p.1 s5 with
                | exc C fs s' => rw [ek] at ef2; cases ef2
                | bad => rw [ek] at ef2; cases ef2
                | ok yk s5k =>
                rw [ek] at ef2
                dsimp only at ef2
                intro vk wk xk stk rvk
                refine ⟨p.1, s5k, wk, rfl, (env4.ext x5).ext xk, stk, ?_⟩
                cases ee : te p.1 s5k with
                | exc C fs s' => rw [ee] at ef2; cases ef2
                | bad => rw [ee] at ef2; cases ef2
                | ok y s6 =>
                  rw [ee] at ef2
                  dsimp only at ef2
                  cases eq : keyD yk with
                  | none => rw [eq] at ef2; cases ef2
                  | some key =>
                  rw [eq] at ef2
                  dsimp only at ef2
                  by_cases hl : acc.length < sizeLine
                  rotate_left
                  · rw [if_neg hl] at ef2
                    cases ef2
                  rw [if_pos hl] at ef2
                  intro v w6 x6 st6 rv
                  have x6' := (x5'.trans xk).trans x6
                  have P6 := x6'.P Dn hP2
                  have H6 : w6.H Dn = some (.dK vs) := (x6'.HP Dn hP2).trans hh2
                  have e0 := Wd.turn_ex0 (o := .dK (L2.putK vs key v)) st6 P6
                  refine ⟨vs, key, keyD_ok rvk eq, H6, by rw [rs2.length]; exact hl, by omega, w6.put Dn (.dK (L2.putK vs key v)), s6, putA acc key y, L2.putK vs key v, rfl, Wd.turn_ext ((x25.trans xk).trans x6) hz hP, Wd.turn_st st6 P6, P6, upd_same, ?_, ef2⟩
                  exact ((rs2.ext x6').ex0 e0).putK (rv.ex0 e0)
section
variable {X : Cx} {W : WX} {kx vx tg iter : Expr} {ifs : List Expr} {scope : Scope} {own : List (Str × Nat)} {pos : Pos} {mi : DM Src} {g : DG} {tt : DM Bool} {tk te : DE}
theorem e_dc (hc : X.calm = true) (hN : X.N.Nodup) (hi : PI X tg iter (tI X.K W mi)) (ok : BlkOk X.N X.env.scope scope own)
    (hg : ∀ (s : Shared) (H : Hp) (C : Addr) (cl : List (Str × Addr)) (fp : List Addr), PG (X.blk s H scope (compEnvC scope cl C X.env) fp) tg (tGw X.K g (own.map (·.2))))
    (ht : ∀ (s : Shared) (H : Hp) (C : Addr) (cl : List (Str × Addr)) (fp : List Addr), PTs (X.blk s H scope (compEnvC scope cl C X.env) fp) ifs (tT X.K W0 tt))
    (hk : ∀ (s : Shared) (H : Hp) (C : Addr) (cl : List (Str × Addr)) (fp : List Addr), PE (X.blk s H scope (compEnvC scope cl C X.env) fp) kx (tE X.K W0 tk))
    (he : ∀ (s : Shared) (H : Hp) (C : Addr) (cl : List (Str × Addr)) (fp : List Addr), PE (X.blk s H scope (compEnvC scope cl C X.env) fp) vx (tE X.K W0 te)) (hs : ∀ x, foldedSetIterable iter X.env x = pure x := by intro _; rfl) :
    PE X (.DictComp kx vx [⟨tg, iter, ifs, 0⟩] scope pos) (tE X.K W (dcM mi g tt tk te (own.map (·.2)))) := PE.imp (pe_frz (pe_dc hc hN hi ok hg ht hk he hs)) fun t H Q h => dc_imp h
end
end Mp
set_option Elab.async false
set_option linter.all false
set_option maxRecDepth 100000
set_option maxHeartbeats 4000000
/-! Mp: sorted, dict(..). -/
namespace Mp
open PySem PySem.Spec PyProof.Rows L2
def leI2 (a b : Int) : Bool := decide (a ≤ b)
def leS (a b : Str) : Bool := !decide (b.cps.toList < a.cps.toList)
theorem leI2_uniq {a b : List Int} (h1 : a.Perm b) (h2 : a.Pairwise (· ≤ ·)) : a = b.mergeSort leI2 := by
  refine List.Perm.eq_of_pairwise (le := (· ≤ ·)) (fun x y _ _ h k => Int.le_antisymm h k) h2 ?_ (h1.trans (List.mergeSort_perm b leI2).symm)
  have q := List.pairwise_mergeSort (le := leI2) (fun a b c h k => by simp only [leI2, decide_eq_true_eq] at *; omega) (fun a b => by simp only [leI2, Bool.or_eq_true, decide_eq_true_eq]; omega) b
  exact q.imp fun h => of_decide_eq_true h
theorem leS_trans (a b c : Str) (h : leS a b = true) (k : leS b c = true) : leS a c = true := by
  simp only [leS, Bool.not_eq_true', decide_eq_false_iff_not] at *
  rw [List.not_lt] at *
  exact List.le_trans h k
theorem leS_total (a b : Str) : (leS a b || leS b a) = true := by
  simp only [leS, Bool.or_eq_true, Bool.not_eq_true', decide_eq_false_iff_not, List.not_lt]
  exact List.le_total _ _
theorem leS_anti (a b : Str) (h : leS a b = true) (k : leS b a = true) : a = b := by
  simp only [leS, Bool.not_eq_true', decide_eq_false_iff_not, List.not_lt] at *
  have := List.le_antisymm h k
  cases a; cases b
  congr
  exact Array.toList_inj.mp this
theorem rising_pw : ∀ (l : List Str) (x : Str), risingS x l = true → (x :: l).Pairwise fun a b => leS a b = true
  | [], x, _ => List.pairwise_singleton _ _
  | y :: l, x, h => by
    unfold risingS at h
    have h' := h
    simp only [Bool.and_eq_true] at h'
    have ih := rising_pw l y h'.2
    have xy : leS x y = true := by
      have q := h'.1
      rw [PyProof.Rows.ltCps_eq] at q
      exact q
    refine List.Pairwise.cons (fun z hz => ?_) ih
    rcases List.mem_cons.mp hz with rfl | hz
    · exact xy
    · exact leS_trans _ _ _ xy (List.rel_of_pairwise_cons ih hz)
theorem sortedS_uniq {a b : List Str} (h1 : a.Perm b) (h2 : sortedS a = true) : a = b.mergeSort leS := by
  refine List.Perm.eq_of_pairwise (le := fun a b => leS a b = true) (fun x y _ _ h k => leS_anti x y h k) ?_ (List.pairwise_mergeSort leS_trans leS_total b) (h1.trans (List.mergeSort_perm b leS).symm)
  cases a with
  | nil => exact .nil
  | cons x l => exact rising_pw l x h2
def keysS : List (Key × D) → Option (List Str)
  | [] => some []
  | (.inr z, _) :: r => (keysS r).map fun l => z :: l
  | _ :: _ => none
theorem keysS_ok {K : Frag} {w : Wd} : ∀ {kvs : List (Key × V)} {m : List (Key × D)} {l : List Str}, KVR K w kvs m → keysS m = some l → kvs.map (·.1) = l.map Sum.inr
  | _, _, _, .nil, h => by cases h; rfl
  | _, (.inr z, d) :: m, l, .cons r t, h => by
    have h' : (keysS m).map (fun l => z :: l) = some l := h
    cases e : keysS m with
    | none => rw [e] at h'; cases h'
    | some l2 =>
      rw [e] at h'
      cases h'
      rw [List.map_cons, List.map_cons, keysS_ok t e]
  | _, (.inl _, _) :: _, _, .cons _ _, h => by cases h
/-- sorted(d) of texts, sorted(xs) of ints or texts -/
@[irreducible] def sortedD (ds : List D) (s : Sto) : Res D := match ds with
  | [x] => (match dctOf s x with
    | some m => (match keysS m with
      | some ks => if ks.length < 64 then .ok (.lst ((ks.mergeSort leS).map .str)) s else .bad
      | none => .bad)
    | none => (match lstOf s x with
      | some l => (match intsOf l with
        | some ns => .ok (.lst ((ns.mergeSort leI2).map .int)) s
        | none => (match strsOf l with
          | some zs => if zs.length < 64 then .ok (.lst ((zs.mergeSort leS).map .str)) s else .bad
          | none => .bad))
      | none => .bad))
  | _ => .bad
theorem reps_strs {K : Frag} {w : Wd} : ∀ l : List Str, Reps K w (l.map V.str) (l.map D.str)
  | [] => .nil
  | z :: l => .cons (.str z) (reps_strs l)
theorem reps_ints {K : Frag} {w : Wd} : ∀ l : List Int, Reps K w (l.map V.int) (l.map D.int)
  | [] => .nil
  | z :: l => .cons (.int z) (reps_ints l)
section
variable {X : Cx}
abbrev rSrtAll (K : Frag) : List V → Hp → VK → Prop := fun xs H Q => (∃ (a : Addr) (kvs : List (Key × V)) (ks : List Str), xs = [.ref a] ∧ Rd H a (.dK kvs) ∧ kvs.map (·.1) = ks.map Sum.inr ∧ ks.length < 64 ∧
    ∀ ys p, ys.Perm ks → sortedS ys = true → H p = none → Q (.ref p) (upd H p (.lst (ys.map V.str)))) ∨ rSortedI K xs H Q ∨ rSortedS K xs H Q
theorem cr_sortedAll (hc : X.calm = true) : CallR X (.builtin "sorted") (rSrtAll X.K) := CallR.or (call_sortedD hc) (CallR.or cr_sortedI cr_sortedS)
theorem v_sorted : VRC X.K (rSrtAll X.K) sortedD := fun w s xs ds Q E st rs hp => by
  unfold sortedD at hp
  split at hp
  · obtain ⟨x, rfl, rx⟩ := rs.one
    split at hp
    · split at hp
      · split at hp
        · rename_i _ d _ m hm _ ks hk h64
          obtain ⟨p, l, rfl, hr, kv⟩ := dctOf_ok st rx hm
          refine .inl ⟨p, l, ks, rfl, hr, keysS_ok kv hk, h64, fun ys q h1 h2 np => ?_⟩
          rw [sortedS_uniq h1 h2]
          exact hp.frz st (fun q nq => rep_newL st (reps_strs _) nq) q np
        · exact hp.elim
      · exact hp.elim
    · split at hp
      · split at hp
        · rename_i _ d _ hm _ l hl _ ns hn
          obtain ⟨p, vs, rfl, hr, rv⟩ := lstOf_ok st rx hl
          have ev := intsOf_ok rv hn
          subst ev
          refine .inr (.inl ⟨p, ns, rfl, hr, fun ys q h1 h2 np => ?_⟩)
          rw [leI2_uniq h1 h2]
          exact hp.frz st (fun q nq => rep_newL st (reps_ints _) nq) q np
        · split at hp
          · split at hp
            · rename_i _ d _ hm _ l hl _ hn _ zs hz h64
              obtain ⟨p, vs, rfl, hr, rv⟩ := lstOf_ok st rx hl
              have ev := strsOf_ok rv hz
              subst ev
              refine .inr (.inr ⟨p, zs, rfl, hr, h64, fun ys q h1 h2 np => ?_⟩)
              rw [sortedS_uniq h1 h2]
              exact hp.frz st (fun q nq => rep_newL st (reps_strs _) nq) q np
            · exact hp.elim
          · exact hp.elim
      · exact hp.elim
  · exact hp.elim
end
end Mp
set_option Elab.async false
set_option linter.all false
set_option maxRecDepth 100000
set_option maxHeartbeats 1000000
/-! Mp: zip(*rows), rows a tuple of tuples of one length: at the library's level. -/
namespace ZN
open PySem RZ
open PySem.Sem (wp)
/-- iterators it, it + 1, .. over the tuples ls (below B), all at place k, with the items xs there -/
def Ready (h : Heap) (B k : Nat) : Nat → List Addr → List Value → Prop
  | _, [], xs => xs = []
  | it, l :: ls, xs => ∃ x xs', xs = x :: xs' ∧ h.IsTupleIter it l k ∧ @LT.lt Nat _ l B ∧ (∃ items, h.IsTuple l items ∧ items[k]? = some x) ∧ Ready h B k (it + 1) ls xs'
def After (h : Heap) (k : Nat) : Nat → List Addr → Prop
  | _, [] => True
  | it, l :: ls => h.IsTupleIter it l k ∧ After h k (it + 1) ls
theorem Ready.stay {B k : Nat} {h h' : Heap} : ∀ {ls : List Addr} {it : Nat} {xs : List Value}, (∀ (c : Nat) (o : Obj), (c < B ∨ it ≤ c ∧ c < it + ls.length) → h.get? c = some o → h'.get? c = some o) → Ready h B k it ls xs → Ready h' B k it ls xs
  | [], _, _, _, r => r
  | l :: ls, it, xs, k1, ⟨x, xs', e, h1, h2, ⟨items, ⟨o, ho, hr⟩, hx⟩, h4⟩ => ⟨x, xs', e, h1.at fun o q => k1 it o (.inr ⟨Nat.le_refl _, by simp⟩) q, h2, ⟨items, ⟨o, k1 l o (.inl h2) ho, hr⟩, hx⟩,
      Ready.stay (fun (c : Nat) (o : Obj) hc q => k1 c o (hc.imp id fun z => ⟨by omega, by simp only [List.length_cons]; omega⟩) q) h4⟩
theorem After.stay {k : Nat} {h h' : Heap} : ∀ {ls : List Addr} {it : Nat}, (∀ (c : Nat) (o : Obj), it ≤ c ∧ c < it + ls.length → h.get? c = some o → h'.get? c = some o) → After h k it ls → After h' k it ls
  | [], _, _, _ => trivial
  | l :: ls, it, k1, ⟨h1, h4⟩ => ⟨h1.at fun o q => k1 it o ⟨Nat.le_refl _, by simp⟩ q, After.stay (fun (c : Nat) (o : Obj) hc q => k1 c o ⟨by omega, by simp only [List.length_cons]; omega⟩ q) h4⟩
theorem After.get {k : Nat} {h : Heap} : ∀ {ls : List Addr} {it : Nat} {c : Nat}, After h k it ls → it ≤ c → c < it + ls.length → ∃ l, h.IsTupleIter c l k
  | [], it, c, _, h1, h2 => by simp at h2; omega
  | l :: ls, it, c, a, h1, h2 => by
    by_cases e : c = it
    · subst e; exact ⟨l, a.1⟩
    · exact a.2.get (by omega) (by simp only [List.length_cons] at h2; omega)
theorem Ready.after {B k : Nat} {h : Heap} : ∀ {ls : List Addr} {it : Nat} {xs : List Value}, Ready h B k it ls xs → After h k it ls
  | [], _, _, _ => trivial
  | _ :: _, _, _, ⟨_, _, _, h1, _, _, h4⟩ => ⟨h1, h4.after⟩
theorem Ready.length {B k : Nat} {h : Heap} : ∀ {ls : List Addr} {it : Nat} {xs : List Value}, Ready h B k it ls xs → xs.length = ls.length
  | [], _, _, r => by rw [show _ = [] from r]; rfl
  | _ :: _, _, _, ⟨_, _, e, _, _, _, h4⟩ => by rw [e, List.length_cons, List.length_cons, h4.length]
section
end
/-- the zip object: what it handed out last, whether it was held -/
def IsZ (h : Heap) (z TI TO : Nat) : Prop := ∃ (g0 : Value) (b : Bool), (g0 = .none ∨ ∃ T : Nat, g0 = rawInt T) ∧ h.get? z = some { cls := .type "zip", dict := none, data := .fields #[g0, .bool b, .bool false, .ref TI, .ref TO], slots := #[] }
theorem IsZ.at {h h' : Heap} {z TI TO : Nat} (x : IsZ h z TI TO) (e : ∀ o, h.get? z = some o → h'.get? z = some o) : IsZ h' z TI TO := let ⟨g, b, q, r⟩ := x; ⟨g, b, q, e _ r⟩
section
end
section
end
section
end
end ZN
set_option Elab.async false
set_option linter.all false
set_option maxRecDepth 100000
set_option maxHeartbeats 4000000
/-! Mp: zip(*rows). -/
namespace Mp
open PySem PySem.Spec PyProof.Rows L2
/-! ### on data -/
inductive RowR (K : Frag) (w : Wd) : List Addr → List (List V) → List (List D) → Prop
  | nil : RowR K w [] [] []
  | cons {a : Addr} {vs : List V} {ds : List D} {as : List Addr} {vss : List (List V)} {dss : List (List D)} : TAt K w a vs → Reps K w vs ds → RowR K w as vss dss → RowR K w (a :: as) (vs :: vss) (ds :: dss)
theorem RowR.ext {K : Frag} {w w' : Wd} (e : Ext w w') : ∀ {ls : List Addr} {vss : List (List V)} {dss : List (List D)}, RowR K w ls vss dss → RowR K w' ls vss dss
  | _, _, _, .nil => .nil
  | _, _, _, .cons h r t => .cons (h.ext e) (r.ext e) (t.ext e)
section
end
end Mp
set_option Elab.async false
set_option linter.all false
set_option maxRecDepth 100000
set_option maxHeartbeats 4000000
/-! Mp: isinstance of a tuple of classes, len of dicts, list(range(n)). -/
namespace Mp
open PySem PySem.Spec PyProof.Rows L2
section
end
section
variable {X : Cx}
/-! ### len -/
abbrev rLenRd : List V → Hp → VK → Prop := fun xs H Q => ∃ a kvs, xs = [V.ref a] ∧ Rd H a (.dK kvs) ∧ Q (.int (kvs.length : Nat)) H
theorem call_lenRd : CallR X (.builtin "len") rLenRd := by
  intro pins s σ H xs us Q I r h
  obtain ⟨a, kvs, rfl, ha, q⟩ := h
  obtain ⟨u, rfl, ru⟩ := vals1 r
  cases ru
  exact d_len I ha fun t s' I' => ⟨.int kvs.length, H, I', ⟨t, rfl⟩, q⟩
def lenX (ds : List D) (s : Sto) : Res D := match ds with
  | [x] => (match dctOf s x with
    | some m => .ok (.int (m.length : Nat)) s
    | none => lenD ds s)
  | _ => .bad
theorem v_lenX : VRC X.K (fun xs H Q => (∃ x n, xs = [x] ∧ LenV X.K x H n ∧ Q (.int (n : Nat)) H) ∨ rLenRd xs H Q) lenX := fun w s xs ds Q E st rs hp => by
  unfold lenX at hp
  split at hp
  · split at hp
    · rename_i m hm
      obtain ⟨x, rfl, rx⟩ := rs.one
      obtain ⟨p, l, rfl, hr, kv⟩ := dctOf_ok st rx hm
      refine .inr ⟨p, l, rfl, hr, ?_⟩
      rw [kv.length]
      exact hp.pure st (.int _)
    · exact .inl (v_len w s xs _ Q E st rs hp)
  · exact hp.elim
theorem call_lenX : CallR X (.builtin "len") (fun xs H Q => (∃ x n, xs = [x] ∧ LenV X.K x H n ∧ Q (.int (n : Nat)) H) ∨ rLenRd xs H Q) := CallR.or call_len call_lenRd
end
/-! ### list(range(n)) -/
@[irreducible] def listRgD (k : Bool) (ds : List D) (s : Sto) : Res D := match ds with
  | [.int n] => if 0 ≤ n ∧ n ≤ 16777216 then newL k (intL 0 n.toNat) s else .bad
  | _ => .bad
def listRgM (k : Bool) (a : DE) : DE := bindM a fun x => fun _ s => listRgD k [x] s
section
variable {X : Cx} {W : WX} {a : Expr} {p p2 pos pos2 : Pos} {ma : DE}
theorem e_listRg (k : Bool) (hc : X.calm = true) (hg : Gl X "list") (hm : X.mg "list" = none) (hg2 : Gl X "range") (hm2 : X.mg "range" = none) (ha : PE X a (tE X.K W ma)) (na : starEach [a] X.env = (false, eval a X.env) :: starEach [] X.env := by rfl) :
    PE X (.Call (.Name "list" p) [.Call (.Name "range" p2) [a] [] pos2] [] pos) (tE X.K W (listRgM k ma)) :=
  PE.imp (pe_listRg hc hg hm (prg_1 hg2 hm2 ha na)) fun t H Q h => by
    obtain ⟨r, s, w, rfl, env, st, hp⟩ := h
    exact hp.bind env st fun x d s1 w1 e1 st1 r1 hp1 => by
      unfold listRgD at hp1
      split at hp1
      · rename_i n hd
        cases hd
        split at hp1
        · rename_i hn
          cases r1
          refine ⟨n, rfl, RgOk.of_le (by omega) hn.2 (by omega) hn.1, ?_⟩
          have rr : ∀ m : Nat, Reps X.K w1 (rgV 0 (m : Nat)) (intL 0 m) := fun m => by
            unfold rgV intL
            rw [Int.sub_zero, Int.toNat_natCast]
            generalize List.range m = l
            induction l with
            | nil => exact .nil
            | cons i l ih => exact .cons (.int _) ih
          have e : n = ((n.toNat : Nat) : Int) := (Int.toNat_of_nonneg hn.1).symm
          have z := hp1.newL st1 (rr n.toNat)
          rw [← e] at z
          exact z
        · exact hp1.elim
      · exact hp1.elim
end
end Mp
set_option Elab.async false
set_option linter.all false
set_option maxRecDepth 100000
set_option maxHeartbeats 4000000
/-! Mp: lambdas without parameters, handed to a def. -/
namespace Mp
open PySem PySem.Spec PyProof.Rows L2
/-! ### a frame as data -/
/-! ### mirrors -/
/-! ### the lambda is made -/
section
end
/-! ### it is called -/
section
variable {X : Cx} {pins : List (Addr × Obj)} {t : L2.St} {H : Hp} {s : Shared}
/-- a def that gets a lambda: its text for any reading of the call -/
def LamD (P : Program) (w : World) (K : Frag) (mg : Str → Option Value) (base : Heap) (N : List Str) (x : Str) (sg : Scope) (g : Addr) (k : Nat) (bg : List Stmt) (a : Str) (b : DE → DS) : Prop :=
  ∀ (cdv : Value) (A : Around) (outer : List Env) (s : Shared) (H : Hp) (th : DE), Rm k (A.deeper (envOfC x sg s.heap.objs.size g cdv)) →
    (∀ (pn : List (Addr × Obj)) (xe : Value → Shared → Prop) (W : WX) (p1 p2 : Pos), Takes ((cxOf C8.CX0 P w K mg base N x sg g cdv A outer s H C8.E0).tr pn xe) W → PE ((cxOf C8.CX0 P w K mg base N x sg g cdv A outer s H C8.E0).tr pn xe) (.Call (.Name a p1) [] [] p2) (tE K W th)) →
    PSs (cxOf C8.CX0 P w K mg base N x sg g cdv A outer s H C8.E0).nox bg (tS K W0 (b th))
end
end Mp
set_option Elab.async false
set_option linter.all false
set_option maxRecDepth 100000
set_option maxHeartbeats 4000000
/-! Mp: the head and the end of a law in which lambdas are made. -/
namespace Mp
open PySem PySem.Spec PyProof.Rows L2
/-! ### the head -/
/-! ### the end -/
section
end
/-! ### a def in which lambdas are made -/
section
variable {P : Program} {w : World} {K : Frag} {mg : Str → Option Value} {base : Heap}
theorem LamD.mono {N : List Str} {x a : Str} {sg : Scope} {g : Addr} {k j : Nat} {bg : List Stmt} {b : DE → DS} (h : LamD P w K mg base N x sg g k bg a b) (hk : k ≤ j) : LamD P w K mg base N x sg g j bg a b := fun cdv A outer s H th hr act => h cdv A outer s H th (hr.mono hk) act
end
end Mp
set_option Elab.async false
set_option linter.all false
set_option maxRecDepth 100000
set_option maxHeartbeats 4000000
/-! Mp: a text some times. -/
namespace Mp
open PySem PySem.Spec PyProof.Rows L2
section
end
end Mp
set_option Elab.async false
set_option linter.all false
set_option maxRecDepth 100000
set_option maxHeartbeats 4000000
/-! Mp: a text backwards. -/
namespace Mp
open PySem PySem.Spec PyProof.Rows L2
def revS (z : Str) : Str := ⟨z.cps.toList.reverse.toArray⟩
theorem rev_picked (z : Str) (t : Tok) : sliceMade z t none none (some (-1, t)) = .str (revS z) := by
  unfold sliceMade
  rw [if_neg (by intro h; rw [Bool.and_eq_true] at h; exact absurd h.1 (by simp))]
  unfold slicePicked revS
  congr 2
  have e : Builtin.Str.strSliceIndices ((none : Option (Int × Tok)).map (·.1)) ((none : Option (Int × Tok)).map (·.1)) (-1) z.cps.size = sliceRange ((z.cps.size : Int) - 1) (-1) (-1) := rfl
  show ((Builtin.Str.strSliceIndices _ _ (-1) z.cps.size).filterMap _).toArray = _
  rw [e, PySem.W.krv_sliceRange, PySem.W.krv_range, List.filterMap_reverse, PySem.W.krv_all]
def tRevS (te : TE) : TE := fun σ H Q => te σ H fun x H1 => ∃ z, x = .str z ∧ z.length ≤ sizeLine ∧ Q (.str (revS z)) H1
section
variable {X : Cx} {W : WX}
theorem pe_revS {e : Expr} {te : TE} {k : Nat} {p1 p2 p3 pos : Pos} (he : PE X e te) : PE X (.Subscript e (.Slice none none (some (.UnaryOp .USub (.Constant (.int 1) k p1) p2)) p3) pos) (tRevS te) := by
  refine ⟨fun pins s σ H Q I h => ?_⟩
  refine Subscript_ (thn (he.run pins s σ H _ I h) fun v s1 ⟨x, H1, I1, r1, q1⟩ => ?_)
  obtain ⟨z, ex, hz, q⟩ := q1
  subst ex
  obtain ⟨t, rfl⟩ := r1
  have hst : PO X (some (.UnaryOp .USub (.Constant (.int 1) k p1) p2)) (tPart (tUn (rU fun i => .int (-i)) (tC (.int 1)))) := po_some (pe_un un_neg pe_int)
  refine wpAny_Slice (thn (po_none.run pins s1 σ H1 (fun o H2 => o = none ∧ H2 = H1) I1 ⟨rfl, rfl⟩) fun vl s2 ⟨l, H2, I2, pl, el, e2⟩ => ?_)
  subst el e2
  refine thn (po_none.run pins s2 σ H2 (fun o H3 => o = none ∧ H3 = H2) I2 ⟨rfl, rfl⟩) fun vu s3 ⟨u, H3, I3, pu, eu, e3⟩ => ?_
  subst eu e3
  refine thn (hst.run pins s3 σ H3 (fun o H4 => o = some (-1) ∧ H4 = H3) I3 ⟨1, rfl, -1, rfl, rfl, rfl⟩) fun vs s4 ⟨o, H4, I4, ps, eo, e4⟩ => ?_
  subst eo e4
  cases pl
  cases pu
  obtain ⟨st, rfl, est⟩ := IsPart.raw ps
  have I5 : Inv X pins σ H4 { s4 with heap := s4.heap.push { cls := .type "slice", data := .fields #[.none, .none, partValue st] } } := I4.kept (t' := s4.toks) fun b ob q => Heap.get?_push_of_some _ q
  show wpAny (model X.prog X.w) X.A (subscriptTail e (.Slice none none (some (.UnaryOp .USub (.Constant (.int 1) k p1) p2)) p3) (.str z t) (.ref s4.heap.objs.size)) (EP X pins σ Q) X.xe { s4 with heap := s4.heap.push { cls := .type "slice", data := .fields #[.none, .none, partValue st] } }
  refine tail_any (ops := [.str z t, .ref s4.heap.objs.size]) (typeIs_str _ _ _) (F.slot_str_getitem.lookup) ?_ (by with_unfolding_all rfl)
  cases st with
  | none => cases est
  | some p =>
    obtain ⟨i, t2⟩ := p
    have ei : i = -1 := Option.some.inj est
    subst ei
    refine wpAny_getItem_str_slice (l := none) (u := none) (st := some (-1, t2)) ⟨_, Heap.get?_push_size _ rfl, rfl, rfl⟩ rfl ?_
    have hm : sliceMade z t none none (some (-1, t2)) = .str (revS z) := rev_picked z t2
    rw [hm]
    refine ⟨?_, .str (revS z), H4, I5.tok _, ⟨_, rfl⟩, q⟩
    have : (revS z).length = z.length := by
      show z.cps.toList.reverse.toArray.size = z.cps.size
      simp
    omega
def revD (x : D) (s : Sto) : Res D := match x with
  | .str z => if z.length ≤ sizeLine then .ok (.str (revS z)) s else .bad
  | _ => .bad
theorem e_rev {e : Expr} {ma : DE} {k : Nat} {p1 p2 p3 pos : Pos} (ha : PE X e (tE X.K W ma)) : PE X (.Subscript e (.Slice none none (some (.UnaryOp .USub (.Constant (.int 1) k p1) p2)) p3) pos) (tE X.K W (unM revD ma)) :=
  PE.imp (pe_revS ha) fun t H Q h => by
    obtain ⟨r, s, w, rfl, env, st, hp⟩ := h
    exact hp.bind env st fun x d s1 w1 e1 st1 r1 hp1 => by
      unfold revD at hp1
      cases r1 with
      | str z =>
        dsimp only at hp1
        split at hp1
        · rename_i hz
          exact ⟨z, rfl, hz, hp1.pure st1 (.str _)⟩
        · exact hp1.elim
      | _ => exact hp1.elim
end
end Mp
set_option Elab.async false
set_option linter.all false
set_option maxRecDepth 100000
set_option maxHeartbeats 4000000
/-! Mp: classmethods; a class called by a local name. -/
namespace Mp
open PySem PySem.Spec PyProof.Rows L2
section
variable {X : Cx} {W : WX} {a : Expr} {es : List Expr} {pos p apos : Pos} {mr : DM (List D)} {m x cc : Str} {k : Nat} {f g pa : Addr} {mf : DF} {mc : Value}
theorem run_cmD {pins : List (Addr × Obj)} {t : L2.St} {H : Hp} {s : Shared} {Q : VK} {E : XK} {us : List Value} {vs : List V} {sp : Sp} {CX : CXT} {q C : Addr} (F : FnG X.prog X.w X.K X.mg X.base CX k g sp) (hr : Rm k X.A) (hx : PassesAt CX X t E) (I : Inv X ((q, PySem.W.methodObj (.ref g) (.ref C)) :: pins) t H s)
    (r : Vals vs us) (h : sp (.ref C :: vs) H Q E) : wpAny (model X.prog X.w) X.A (call (.ref q) us) (EP X pins t Q) X.xe s := by
  have z : wpAny (model X.prog X.w) X.A (call (.ref q) us) (EP X ((q, PySem.W.methodObj (.ref g) (.ref C)) :: pins) t Q) X.xe s :=
    wpAny_call (PySem.W.method_call (ClX.pin_at I) (codeAny_mono (F X.A X.stack s H (.ref C :: us) (.ref C :: vs) Q E hr I.env0 (.cons rfl r) h) fun z s' hz => by
      cases z with
      | error er => exact hx _ H s er s' I hz
      | ok fl =>
        cases fl with
        | ret u => exact I.after hz
        | _ => exact hz.elim))
  exact thn z fun _ _ y => ClX.unpinE y
/-- C.m(e, ..), m a classmethod of C -/
theorem e_cmeth {pl : Sem Bool} (tk : Takes X W) (R : ClX.CRead X.K (He.ga X.K cc) mc) (c : ClX.CMet X.K (He.ga X.K cc) mc m pa g) (F : FnD X.prog X.w X.K X.mg X.base k g mf) (hr : Rm k X.A) (hg : Gl X cc) (hm : X.mg cc = some (.ref (He.ga X.K cc)))
    (ha : PA X (a :: es) (tA X.K W mr)) (hdb : (cc == ("__debug__" : Str)) = false := by decide) (hst : starEach (a :: es) X.env = (false, eval a X.env) :: starEach es X.env := by rfl) (hpl : (backTo pos (starEach es X.env)).any (·.1) = false := by rfl)
    (ht : eval (.Call (.Attribute (.Name cc p) m apos) (a :: es) [] pos) X.env = (do
      let ov ← eval (.Name cc p) X.env
      standAt apos.atName
      let (f, first) ← holding [ov] (getMethod ov m pl)
      callWith pos f first (backTo pos (starEach (a :: es) X.env)) (backToKw pos (keywordEach [] X.env))) := by rfl) :
    PE X (.Call (.Attribute (.Name cc p) m apos) (a :: es) [] pos) (tE X.K W (callM mf (consA (cM (.glo cc)) mr))) := by
  refine ⟨fun pins s t H Q I h => ?_⟩
  obtain ⟨r, so, w, rfl, env, st, hp⟩ := h
  refine PySem.W.methodCall_KW (pl := pl) (ld_glob I hg hm ?_ hdb) ht
  refine ClX.getmethcm_ok I R c fun s2 I2 => ?_
  refine ClX.callwith_cm I2 (ClX.base_none I (Nat.le_refl _)) c.fi (thn (ha.run pos _ s2 t w.H (fun vs H1 => spD X.K mf (.ref (He.ga X.K cc) :: vs) H1 Q (WE W t)) I2 ⟨r, so, w, rfl, env, st, ?_⟩) fun us s3 ⟨vs, H2, I3, rv, q2⟩ => ⟨⟨ClX.pin_at I3, I3.kIn⟩, ?_⟩) hst hpl
  · unfold callM consA bindM cM at hp
    cases e : mr r so with
    | ok dv s1 =>
      dsimp only [pureM] at hp
      rw [e] at hp
      exact fun vs w1 e1 st1 r1 => sp_post (.cons (.glo cc) r1) st1 (Post.ext e1 hp)
    | exc C fs s1 =>
      dsimp only [pureM] at hp
      rw [e] at hp
      exact hp
    | bad =>
      dsimp only [pureM] at hp
      rw [e] at hp
      exact hp
  · exact run_cmD F hr (passAt tk t) I3 rv q2
/-- x(e, ..), x a local name that holds the class cc -/
def makeLM (kk : Bool) (cc : Str) (mf : DF) (mn : DE) (mr : DM (List D)) : DE := bindM mn fun c => match c with
  | .glo y => if y = cc then makeM kk cc mf mr else fun _ _ => .bad
  | _ => fun _ _ => .bad
end
/-! ### the head's facts -/
abbrev ckCr (x : Str) : Frag → Bool := fun K => PySem.W.readsIn K (He.ga K x) (.type "type") && decide (PySem.W.specialIn K (.ref (He.ga K x)) "__getattribute__" = some (some (.builtin "type.__getattribute__")))
theorem Fx.cr {P : Program} {fb : List (Frag → Bool)} {fn : List DefM} {K : Frag} {mg : Str → Option Value} (Z : Fx P fb fn K mg) (i : Nat) {x : Str} (h : fb[i]? = some (ckCr x)) : ClX.CRead K (He.ga K x) (.type "type") := by
  have f := Z.fact i h
  simp only [ckCr, Bool.and_eq_true, decide_eq_true_eq] at f
  exact ⟨f.1, f.2⟩
abbrev ckCm (x m : Str) : Frag → Bool := fun K => He5.wrapB K (He.ga K x) "classmethod" "classmethod.__get__" m && PySem.W.fnIn K (He5.wf K (He.ga K x) "classmethod" m)
theorem Fx.cm {P : Program} {fb : List (Frag → Bool)} {fn : List DefM} {K : Frag} {mg : Str → Option Value} (Z : Fx P fb fn K mg) (i : Nat) {x m : Str} (h : fb[i]? = some (ckCm x m)) : ClX.CMet K (He.ga K x) (.type "type") m (He.ma K (He.ga K x) m) (He5.wf K (He.ga K x) "classmethod" m) := by
  have f := Z.fact i h
  simp only [ckCm, Bool.and_eq_true] at f
  exact He5.cmet_of f.1 f.2
end Mp
set_option Elab.async false
set_option linter.all false
set_option maxRecDepth 100000
set_option maxHeartbeats 4000000
/-! Mp: several except clauses, with names or without. -/
namespace Mp
open PySem PySem.Spec PyProof.Rows L2
section
end
/-! ### on data -/
inductive Hd where
  | pl (tb : List (Str × Bool)) (mh : DS)
  | as (i : Nat) (E : Str) (tb : List (Str × Bool)) (mh : Addr → Option Addr → List (Str × D) → DS)
noncomputable def manyF : List Hd → Str → List (Str × D) → En → Sto → Fl
  | [], C, fs, r, s => .exc C fs r s
  | .pl tb mh :: hs, C, fs, r, s => match tb.lookup C with
    | some true => noExc (mh r s)
    | some false => manyF hs C fs r s
    | none => .bad
  | .as i E tb mh :: hs, C, fs, r, s => match tb.lookup C with
    | some true => if C = E then joinF (fun a d => offS i (mh a d fs (r.set i (some (.exn a d C fs))) s)) else .bad
    | some false => manyF hs C fs r s
    | none => .bad
noncomputable def tryNS (mb : DS) (hs : List Hd) : DS := fun r s => match mb r s with
  | .exc C fs r' s' => manyF hs C fs r' s'
  | f => f
section
end
end Mp
set_option Elab.async false
set_option linter.all false
set_option maxRecDepth 100000
set_option maxHeartbeats 4000000
/-! Mp: a text any number of times. -/
namespace Mp
open PySem PySem.Spec PyProof.Rows L2
section
end
end Mp
set_option Elab.async false
set_option linter.all false
set_option maxRecDepth 100000
set_option maxHeartbeats 1000000
/-! Mp: zip(*rows), rows a tuple of lists of one length: at the library's level. -/
namespace ZL
open PySem RZ
open PySem.Sem (wp)
/-- iterators it, it + 1, .. over the tuples ls (below B), all at place k, with the items xs there -/
def Ready (h : Heap) (B k : Nat) : Nat → List Addr → List Value → Prop
  | _, [], xs => xs = []
  | it, l :: ls, xs => ∃ x xs', xs = x :: xs' ∧ h.IsListIter it l k ∧ @LT.lt Nat _ l B ∧ (∃ items, h.IsList l items ∧ items[k]? = some x) ∧ Ready h B k (it + 1) ls xs'
def After (h : Heap) (k : Nat) : Nat → List Addr → Prop
  | _, [] => True
  | it, l :: ls => h.IsListIter it l k ∧ After h k (it + 1) ls
theorem Ready.stay {B k : Nat} {h h' : Heap} : ∀ {ls : List Addr} {it : Nat} {xs : List Value}, (∀ (c : Nat) (o : Obj), (c < B ∨ it ≤ c ∧ c < it + ls.length) → h.get? c = some o → h'.get? c = some o) → Ready h B k it ls xs → Ready h' B k it ls xs
  | [], _, _, _, r => r
  | l :: ls, it, xs, k1, ⟨x, xs', e, h1, h2, ⟨items, ⟨o, ho, hr⟩, hx⟩, h4⟩ => ⟨x, xs', e, h1.at fun o q => k1 it o (.inr ⟨Nat.le_refl _, by simp⟩) q, h2, ⟨items, ⟨o, k1 l o (.inl h2) ho, hr⟩, hx⟩,
      Ready.stay (fun (c : Nat) (o : Obj) hc q => k1 c o (hc.imp id fun z => ⟨by omega, by simp only [List.length_cons]; omega⟩) q) h4⟩
theorem After.stay {k : Nat} {h h' : Heap} : ∀ {ls : List Addr} {it : Nat}, (∀ (c : Nat) (o : Obj), it ≤ c ∧ c < it + ls.length → h.get? c = some o → h'.get? c = some o) → After h k it ls → After h' k it ls
  | [], _, _, _ => trivial
  | l :: ls, it, k1, ⟨h1, h4⟩ => ⟨h1.at fun o q => k1 it o ⟨Nat.le_refl _, by simp⟩ q, After.stay (fun (c : Nat) (o : Obj) hc q => k1 c o ⟨by omega, by simp only [List.length_cons]; omega⟩ q) h4⟩
theorem After.get {k : Nat} {h : Heap} : ∀ {ls : List Addr} {it : Nat} {c : Nat}, After h k it ls → it ≤ c → c < it + ls.length → ∃ l, h.IsListIter c l k
  | [], it, c, _, h1, h2 => by simp at h2; omega
  | l :: ls, it, c, a, h1, h2 => by
    by_cases e : c = it
    · subst e; exact ⟨l, a.1⟩
    · exact a.2.get (by omega) (by simp only [List.length_cons] at h2; omega)
theorem Ready.after {B k : Nat} {h : Heap} : ∀ {ls : List Addr} {it : Nat} {xs : List Value}, Ready h B k it ls xs → After h k it ls
  | [], _, _, _ => trivial
  | _ :: _, _, _, ⟨_, _, _, h1, _, _, h4⟩ => ⟨h1, h4.after⟩
theorem Ready.length {B k : Nat} {h : Heap} : ∀ {ls : List Addr} {it : Nat} {xs : List Value}, Ready h B k it ls xs → xs.length = ls.length
  | [], _, _, r => by rw [show _ = [] from r]; rfl
  | _ :: _, _, _, ⟨_, _, e, _, _, _, h4⟩ => by rw [e, List.length_cons, List.length_cons, h4.length]
section
end
/-- the zip object: what it handed out last, whether it was held -/
def IsZ (h : Heap) (z TI TO : Nat) : Prop := ∃ (g0 : Value) (b : Bool), (g0 = .none ∨ ∃ T : Nat, g0 = rawInt T) ∧ h.get? z = some { cls := .type "zip", dict := none, data := .fields #[g0, .bool b, .bool false, .ref TI, .ref TO], slots := #[] }
theorem IsZ.at {h h' : Heap} {z TI TO : Nat} (x : IsZ h z TI TO) (e : ∀ o, h.get? z = some o → h'.get? z = some o) : IsZ h' z TI TO := let ⟨g, b, q, r⟩ := x; ⟨g, b, q, e _ r⟩
section
end
section
end
section
end
end ZL
set_option Elab.async false
set_option linter.all false
set_option maxRecDepth 100000
set_option maxHeartbeats 4000000
/-! Mp: zip(*rows), the rows lists or tuples. -/
namespace Mp
open PySem PySem.Spec PyProof.Rows L2
/-! ### on data -/
inductive RowRL (K : Frag) (w : Wd) : List Addr → List (List V) → List (List D) → Prop
  | nil : RowRL K w [] [] []
  | cons {a : Addr} {vs : List V} {ds : List D} {as : List Addr} {vss : List (List V)} {dss : List (List D)} : LAt K w a vs → Reps K w vs ds → RowRL K w as vss dss → RowRL K w (a :: as) (vs :: vss) (ds :: dss)
theorem RowRL.ext {K : Frag} {w w' : Wd} (e : Ext w w') : ∀ {ls : List Addr} {vss : List (List V)} {dss : List (List D)}, RowRL K w ls vss dss → RowRL K w' ls vss dss
  | _, _, _, .nil => .nil
  | _, _, _, .cons h r t => .cons (h.ext e) (r.ext e) (t.ext e)
section
end
end Mp
set_option Elab.async false
set_option linter.all false
set_option maxRecDepth 100000
set_option maxHeartbeats 4000000
/-! Mp: comprehensions of two clauses, starred items of a display. -/
namespace Mp
open PySem PySem.Spec PyProof.Rows L2
open Classical in
noncomputable def lcF2 (c : Src) (g : DG) (tt : DM Bool) (mi1 : DM Src) (g1 : DG) (tt1 : DM Bool) (te : DE) (vs1 : List Nat) (r : En) : List D → List D → Sto → Res (List D)
  | [], acc, s => if SrcOk c s then .ok acc s else .bad
  | d :: l, acc, s => if SrcOk c s then (match g d r s with
    | none => .bad
    | some p => (match tt p.1 p.2 with
      | .ok k s1 => if k = true then (match mi1 p.1 s1 with
        | .ok c1 s2 => (match lcF c1 g1 tt1 te (wipeE p.1 vs1) c1.its acc s2 with
          | .ok acc2 s3 => lcF2 c g tt mi1 g1 tt1 te vs1 r l acc2 s3
          | _ => .bad)
        | _ => .bad) else lcF2 c g tt mi1 g1 tt1 te vs1 r l acc s1
      | _ => .bad)) else .bad
noncomputable def lc2M (k : Bool) (mi : DM Src) (g : DG) (tt : DM Bool) (mi1 : DM Src) (g1 : DG) (tt1 : DM Bool) (te : DE) (vs vs1 : List Nat) : DE := bindM mi fun c => fun r s => match lcF2 c g tt mi1 g1 tt1 te vs1 (wipeE r vs) c.its [] s with
  | .ok acc s' => newL k acc s'
  | _ => .bad
section
end
/-- a list, a tuple, a text that is walked within -/
def srcJ (s : Sto) : D → Option Src
  | .tup l => some ⟨l, none⟩
  | .lst l => some ⟨l, none⟩
  | .rol l => some ⟨l, none⟩
  | .str z => some ⟨chars z, none⟩
  | .cel n => (match s[n]? with
    | some (some (.lst l)) => some ⟨l, some n⟩
    | _ => none)
  | _ => none
def seqJ (a : DE) : DM Src := bindM a fun x => fun _ s => okO s (srcJ s x)
section
end
section
end
/-! ### starred items -/
def starC (e : DE) (m : DM (List D)) : DM (List D) := bindM e fun x => bindM (fun _ s => okO s (seqOf s x)) fun l => bindM m fun ys => pureM (l ++ ys)
section
end
end Mp
set_option Elab.async false
set_option linter.all false
set_option maxRecDepth 100000
set_option maxHeartbeats 4000000
/-! Mp: a dict merged into an empty one (displays with two stars, calls with two stars). -/
namespace MmX
open PySem PySem.Spec PyProof.Rows L2
section
variable {prog : Program} {w : World} {K : Type} [DecidableEq K] {knd : KeyKind prog w K} {A : Around} {E : Value → Shared → Prop} {s : Shared}
theorem dictPut_ok {d : Addr} {kvs : List (K × Value)} {k : K} {key v : Value} {Q : Unit → Shared → Prop} (hkey : knd.is k key = true) (hm : s.heap.DictOf knd d kvs)
    (hnot : k ∉ kvs.map (·.1)) (hQ : ∀ h', h'.DictOf knd d (kvs ++ [(k, v)]) → Heap.SameBut d s.heap h' → Q () { s with heap := h' })
    (hsz : kvs.length ≤ sizeLine) :
    wpAny (model prog w) A (dictPut d (knd.hash k) key v) Q E s := by
  obtain ⟨o, es, ep, ho, hc, hd, hk, hp, hn⟩ := hm
  have hes : es.size ≤ sizeLine := by
    have e1 := hp.length
    have e2 : es.toList.length = es.size := by simp
    omega
  unfold dictPut
  refine wpAny_bind (wpAny_dictFind_of hkey ho hd hk ?_)
  have hidx : (es.findIdx? fun e => knd.is k e.key) = kvs.findIdx? fun kv => decide (kv.1 = k) := by
    rw [← hp.findIdx k]
    obtain ⟨l⟩ := es
    simp
  have hnone : (es.findIdx? fun e => knd.is k e.key) = none := by
    rw [hidx, List.findIdx?_eq_none_iff]
    intro kv hkv
    exact decide_eq_false fun e => hnot (List.mem_map.mpr ⟨kv, hkv, e⟩)
  rw [hnone]
  refine wpAny_updateDictKeys (hz := hes) ho hd (hQ _ ⟨_, _, ep + 1, Heap.get?_update_self _ ho (Obj.isFreed_of_dict (Obj.data_mapDictKeys hd _)),
      hc.mapDictKeys _, Obj.data_mapDictKeys hd _, hk.push hkey _, ?_, ?_⟩ (Heap.SameBut.update ..))
  · have := hp.append hkey (knd.hash k) v
    obtain ⟨l⟩ := es
    simpa using this
  · rw [List.map_append, List.nodup_append]
    refine ⟨hn, by simp, ?_⟩
    intro a ha b hb
    simp only [List.map_cons, List.map_nil, List.mem_singleton] at hb
    subst hb
    exact fun e => hnot (e ▸ ha)
theorem dictFind_new {d : Addr} {kvs : List (K × Value)} {k : K} {key : Value} {Q : Option Nat → Shared → Prop} (hkey : knd.is k key = true) (hm : s.heap.DictOf knd d kvs)
    (hnot : k ∉ kvs.map (·.1)) (hQ : Q none s) : wpAny (model prog w) A (dictFind d key (knd.hash k)) Q E s := by
  obtain ⟨o, es, ep, ho, hc, hd, hk, hp, hn⟩ := hm
  refine wpAny_dictFind_of hkey ho hd hk ?_
  have hidx : (es.findIdx? fun e => knd.is k e.key) = kvs.findIdx? fun kv => decide (kv.1 = k) := by
    rw [← hp.findIdx k]
    obtain ⟨l⟩ := es
    simp
  have hnone : (es.findIdx? fun e => knd.is k e.key) = none := by
    rw [hidx, List.findIdx?_eq_none_iff]
    intro kv hkv
    exact decide_eq_false fun e => hnot (List.mem_map.mpr ⟨kv, hkv, e⟩)
  rw [hnone]
  exact hQ
theorem merge_ok {u : Bool} {d o : Addr} {more : List (K × Value)} {Q : Unit → Shared → Prop} (hdo : d ≠ o) (hoS : (o == sysModules) = false)
    (hd : s.heap.DictOf knd d []) (ho : s.heap.DictOf knd o more)
    (hQ : ∀ h', h'.DictOf knd d more → h'.DictOf knd o more → Heap.SameBut d s.heap h' → Q () { s with heap := h' })
    (hsz : more.length ≤ sizeLine) :
    wpAny (model prog w) A (mergeMapping d (.ref o) u) Q E s := by
  obtain ⟨od, esd, epd, hod, hcd, hdd, hkd, hpd, hnd⟩ := id hd
  obtain ⟨oo, eso, epo, hoo, hco, hdo', hko, hpo, hno⟩ := id ho
  have hlen : more.length = eso.size := by rw [← hpo.length]; simp
  unfold mergeMapping
  refine wpAny_bind (wpAny_isInstance ho.typeIs isSubtype_dict_dict ?_)
  dsimp only
  rw [if_pos rfl]
  refine wpAny_bind (wpAny_specialOf ho.typeIs F.slot_dict_iter.lookup ?_)
  rw [show (some (Value.builtin "dict.__iter__") == some (Value.builtin "dict.__iter__")) = true from beq_self_eq_true _]
  refine wpAny_bind (wpAny_pure ?_)
  dsimp only
  rw [if_neg (by rw [hoS]; exact Bool.false_ne_true)]
  refine wpAny_bind (wpAny_dictEntries hod hdd ?_)
  have hemp : esd.isEmpty = true := by
    have h0 := hpd.length
    obtain ⟨l⟩ := esd
    simpa using h0
  rw [if_pos hemp]
  refine wpAny_bind (wpAny_dictEntries hoo hdo' ?_)
  have hloop : (forIn eso PUnit.unit fun e (_ : PUnit) => (match e.key with
      | Value.ref a => do
        let q ← specialOf e.key (Str.ofString "__eq__")
        if (q != some (Value.builtin "object.__eq__")) = true then
          if (Array.filter (fun x => x.hash == e.hash) eso).size > 1 then do
            (unsupported "dict.merge-into-an-empty-dict:keys-of-equal-hash" : Sem PUnit)
            pure (ForInStep.yield PUnit.unit)
          else pure (ForInStep.yield PUnit.unit)
        else pure (ForInStep.yield PUnit.unit)
      | x => pure (ForInStep.yield PUnit.unit) : Sem (ForInStep PUnit))) = pure PUnit.unit := by
    rw [← Array.forIn_toList]
    refine forIn_yield_id _ fun e he c => ?_
    obtain ⟨k, hkey, _⟩ := hko e (Array.mem_toList_iff.mp he)
    have hb := knd.byValue k _ hkey
    cases ek : e.key with
    | ref a => rw [ek] at hb; cases hb
    | _ => rfl
  refine wpAny_bind (wpAny_of_eq hloop ?_)
  refine wpAny_bind (wpAny_dictEntries hoo hdo' ?_)
  refine wpAny_bind (wpAny_dictEpoch hoo hdo' ?_)
  refine wpAny_bind ?_
  rw [List.range_eq_range']
  refine wpAny_forIn_list _
      (fun rest _ s' => ∃ h' i, s' = { s with heap := h' } ∧ rest = List.range' i (eso.size - i) ∧ i ≤ eso.size ∧ h'.DictOf knd d (more.take i) ∧ h'.get? o = some oo ∧ Heap.SameBut d s.heap h')
      _ ?_ ?_ _ _ ⟨s.heap, 0, rfl, by simp, Nat.zero_le _, by simpa using hd, hoo, Heap.SameBut.refl _ _⟩
  · rintro x rest b s' ⟨h', i, rfl, hr, hi, hd', hoo', hs'⟩
    have hlt : i < eso.size := by
      rcases Nat.lt_or_ge i eso.size with h | h
      · exact h
      · rw [Nat.sub_eq_zero_of_le h] at hr; simp at hr
    obtain ⟨rfl, hrest⟩ : x = i ∧ rest = List.range' (i + 1) (eso.size - (i + 1)) := by
      have e : eso.size - i = (eso.size - (i + 1)) + 1 := by omega
      rw [e, List.range'_succ] at hr
      injection hr with h1 h2
      exact ⟨h1, h2⟩
    refine wpAny_bind (wpAny_dictEntries hoo' hdo' ?_)
    rw [Array.getElem?_eq_getElem hlt]
    obtain ⟨kv, hkv⟩ : ∃ kv, more[x]? = some kv := ⟨more[x]'(by rw [hlen]; exact hlt), List.getElem?_eq_getElem _⟩
    obtain ⟨k, v⟩ := kv
    obtain ⟨hkey, hval⟩ := hpo.get? (e := eso[x]) (by simp [hlt]) hkv
    obtain ⟨k', hkey', hhash⟩ := hko eso[x] (Array.getElem_mem hlt)
    obtain rfl : k' = k := knd.inj _ _ _ hkey' hkey
    have hnew : k' ∉ (more.take x).map (·.1) := by
      intro hm
      have hx : x < more.length := by omega
      have e : more = more.take x ++ (k', v) :: more.drop (x + 1) := by
        rw [List.getElem?_eq_getElem hx] at hkv
        have := Option.some.inj hkv
        rw [← this, ← List.drop_eq_getElem_cons hx, List.take_append_drop]
      rw [e, List.map_append, List.nodup_append] at hno
      exact hno.2.2 k' hm k' (by simp) rfl
    have hmx : (more.take x).length ≤ sizeLine := by rw [List.length_take]; omega
    have htk : more.take x ++ [(k', v)] = more.take (x + 1) := by rw [List.take_add_one, hkv]; rfl
    dsimp only
    rw [hhash, hval]
    have put : ∀ Q' : Unit → Shared → Prop, (∀ h'', h''.DictOf knd d (more.take (x + 1)) → Heap.SameBut d h' h'' → Q' () { s with heap := h'' }) → wpAny (model prog w) A (dictPut d (knd.hash k') eso[x].key v) Q' E { s with heap := h' } := fun Q' hQ' =>
      dictPut_ok (s := { s with heap := h' }) hkey hd' hnew (fun h'' a b => hQ' h'' (htk ▸ a) b) hmx
    refine wpAny_bind (wpAny_holding ?_)
    cases u with
    | false =>
      refine put _ fun h'' hd'' hs'' => ?_
      have hoo'' : h''.get? o = some oo := (hs''.2 o (Ne.symm hdo)).trans hoo'
      refine wpAny_bind (wpAny_dictEpoch hoo'' hdo' ?_)
      rw [if_neg (by simp)]
      exact wpAny_pure ⟨h'', x + 1, rfl, hrest, hlt, hd'', hoo'', hs'.trans hs''⟩
    | true =>
      rw [if_pos rfl]
      refine wpAny_bind (dictFind_new (s := { s with heap := h' }) hkey hd' hnew ?_)
      refine put _ fun h'' hd'' hs'' => ?_
      have hoo'' : h''.get? o = some oo := (hs''.2 o (Ne.symm hdo)).trans hoo'
      refine wpAny_bind (wpAny_dictEpoch hoo'' hdo' ?_)
      rw [if_neg (by simp)]
      exact wpAny_pure ⟨h'', x + 1, rfl, hrest, hlt, hd'', hoo'', hs'.trans hs''⟩
  · rintro b s' ⟨h', i, rfl, hr, hi, hd', hoo', hs'⟩
    have hin : i = eso.size := by
      rcases Nat.lt_or_ge i eso.size with h | h
      · have e : eso.size - i = (eso.size - (i + 1)) + 1 := by omega
        rw [e, List.range'_succ] at hr; exact nomatch hr
      · exact Nat.le_antisymm hi h
    refine wpAny_pure (hQ h' ?_ ⟨oo, eso, epo, hoo', hco, hdo', hko, hpo, hno⟩ hs')
    rw [hin, ← hlen, List.take_length] at hd'; exact hd'
end
section
variable {X : Cx} {e : Expr} {te : TE} {pos : Pos}
def tSpr (te : TE) : TE := fun σ H Q => ∀ p, H p = none → te σ (upd H p (.dK [])) fun x H1 => ∃ a kvs, x = .ref a ∧ a ≠ p ∧ Rd H1 a (.dK kvs) ∧ H1 p = some (.dK []) ∧ Q (.ref p) (upd H1 p (.dK kvs))
end
end MmX
namespace Mp
open PySem PySem.Spec PyProof.Rows L2
/-- {**e} -/
def sprM (e : DE) : DE := bindM e fun x => fun _ s => match dctOf s x with
  | some m => .ok (.dct m) s
  | none => .bad
section
end
end Mp
set_option Elab.async false
set_option linter.all false
set_option maxRecDepth 100000
set_option maxHeartbeats 4000000
/-! Mp: operators and comparisons by a class's own defs. -/
namespace OwI
open PySem PySem.Spec PyProof.Rows L2
section
end
end OwI
namespace Mp
open PySem PySem.Spec PyProof.Rows L2
/-- an operator: an own def where both are instances of one class, otherwise f -/
def ownD (tb : List (Str × DF)) (f : D → D → Sto → Res D) (x y : D) (s : Sto) : Res D := match insOf s x with
  | some (C, _) => (match insOf s y with
    | some (C', _) => if C' = C then (match tb.lookup C with
      | some m => m [x, y] s
      | none => .bad) else .bad
    | none => .bad)
  | none => f x y s
def negB : Res D → Res D
  | .ok (.bl b) s => .ok (.bl (!b)) s
  | .ok _ _ => .bad
  | .exc C fs s => .exc C fs s
  | .bad => .bad
/-- == and != by an own __eq__ where both are instances -/
def eqO (neg : Bool) (tb : List ((Str × Str) × DF)) (x y : D) (s : Sto) : Res D := match insOf s x with
  | some (C, _) => (match insOf s y with
    | some (C', _) => (match tb.lookup (C, C') with
      | some m => if neg then negB (m [x, y] s) else m [x, y] s
      | none => .bad)
    | none => .bad)
  | none => eqG neg x y s
section
variable {X : Cx} {W : WX} {a b : Expr} {pos : Pos} {ma mb : DE}
/-- the rows: the def, and the class before the others of its own order -/
inductive OTab (X : Cx) (m : Str) : List (Str × DF) → Prop
  | nil : OTab X m []
  | cons {C : Str} {f : DF} {r : List (Str × DF)} : MethD X C m f → PySem.W.selfFirst X.K (He.ga X.K C) = true → OTab X m r → OTab X m ((C, f) :: r)
theorem OTab.get {m C : Str} {f : DF} : ∀ {tb : List (Str × DF)}, OTab X m tb → tb.lookup C = some f → MethD X C m f ∧ PySem.W.selfFirst X.K (He.ga X.K C) = true
  | _, .nil, h => by simp at h
  | _, .cons (C := E) h1 h2 r, h => by
    by_cases e : C = E
    · subst e
      rw [List.lookup_cons_self] at h
      cases h
      exact ⟨h1, h2⟩
    · rw [List.lookup_cons, show (C == E) = false from beq_eq_false_iff_ne.mpr e] at h
      exact r.get h
/-- rows for two classes -/
inductive QTab (X : Cx) (neg : Bool) : List ((Str × Str) × DF) → Prop
  | nil : QTab X neg []
  | cons {C C' : Str} {f : DF} {r : List ((Str × Str) × DF)} : MethD X C "__eq__" f → (∃ k, neg = true → (∃ g, Meth X.K (He.ga X.K C) "__eq__" g ∧ FnD X.prog X.w X.K X.mg X.base k g f ∧ Rm (k + 1) X.A) ∧ PySem.W.findIn X.K (.ref (He.ga X.K C)) "__ne__" = some (some (.builtin "object.__ne__")) ∧ PySem.W.subIn X.K (.ref (He.ga X.K C)) (.type "object") = some true) → PySem.W.notFirst X.K (He.ga X.K C) (.ref (He.ga X.K C')) = true → QTab X neg r → QTab X neg (((C, C'), f) :: r)
theorem QTab.get {neg : Bool} {C C' : Str} {f : DF} : ∀ {tb : List ((Str × Str) × DF)}, QTab X neg tb → tb.lookup (C, C') = some f → MethD X C "__eq__" f ∧ (∃ k, neg = true → (∃ g, Meth X.K (He.ga X.K C) "__eq__" g ∧ FnD X.prog X.w X.K X.mg X.base k g f ∧ Rm (k + 1) X.A) ∧ PySem.W.findIn X.K (.ref (He.ga X.K C)) "__ne__" = some (some (.builtin "object.__ne__")) ∧ PySem.W.subIn X.K (.ref (He.ga X.K C)) (.type "object") = some true) ∧ PySem.W.notFirst X.K (He.ga X.K C) (.ref (He.ga X.K C')) = true
  | _, .nil, h => by simp at h
  | _, .cons (C := E) (C' := E') h1 h2 h3 r, h => by
    by_cases e : (C, C') = (E, E')
    · cases e
      rw [List.lookup_cons_self] at h
      cases h
      exact ⟨h1, h2, h3⟩
    · rw [List.lookup_cons, show ((C, C') == (E, E')) = false from beq_eq_false_iff_ne.mpr e] at h
      exact r.get h
end
end Mp
set_option Elab.async false
set_option linter.all false
set_option maxRecDepth 100000
set_option maxHeartbeats 4000000
/-! Mp: dict(pairs), dict(d); get, items of dicts. -/
namespace Mp
open PySem PySem.Spec PyProof.Rows L2
def pairsD : List D → Option (List (Key × D))
  | [] => some []
  | .tup [k, v] :: l => (match keyD k with
    | some q => (pairsD l).map fun m => (q, v) :: m
    | none => none)
  | _ :: _ => none
/-- a new dict: a cell's, or frozen -/
def newDc (k : Bool) (m : List (Key × D)) (s : Sto) : Res D := if k = true then .ok (.cel s.length) (s ++ [some (.dct m)]) else .ok (.dct m) s
def dictPD (k : Bool) (ds : List D) (s : Sto) : Res D := match ds with
  | [x] => (match dctOf s x with
    | some m => newDc k m s
    | none => (match lstOf s x with
      | some l => (match pairsD l with
        | some kvs => newDc k (mergeA [] kvs) s
        | none => .bad)
      | none => .bad))
  | _ => .bad
section
variable {K : Frag} {w : Wd} {s : Sto}
theorem pairsD_ok {l : List D} : ∀ {vs : List V} {kvs : List (Key × D)}, Reps K w vs l → pairsD l = some kvs → ∃ (ps : List Addr) (kv : List (Key × V)), vs = ps.map V.ref ∧ Paired (fun p kv => SqT K w.H p [kV kv.1, kv.2]) ps kv ∧ KVR K w kv kvs := by
  induction l with
  | nil =>
    intro vs kvs r h
    cases r
    cases h
    exact ⟨[], [], rfl, .nil, .nil⟩
  | cons d l ih =>
    intro vs kvs r h
    cases r with
    | @cons v _ vs _ r1 r2 =>
      cases r1 with
      | @tup a us ds ha rs =>
        cases rs with
        | nil => cases h
        | cons q1 q2 =>
          cases q2 with
          | nil => cases h
          | cons q3 q4 =>
            cases q4 with
            | cons _ _ => cases h
            | nil =>
              rename_i k0 d0 v0 d1
              unfold pairsD at h
              cases ek : keyD d0 with
              | none => rw [ek] at h; cases h
              | some q =>
                rw [ek] at h
                dsimp only at h
                obtain ⟨m, hm, rfl⟩ := Option.map_eq_some_iff.mp h
                obtain ⟨ps, kv, rfl, hp, hk⟩ := ih r2 hm
                have e := keyD_ok q1 ek
                subst e
                exact ⟨a :: ps, (q, v0) :: kv, rfl, .cons ha.sq hp, .cons q3 hk⟩
      | _ => cases h
/-- behind a new dict -/
theorem newDc_post {E : XK} {Q : VK} {k : Bool} {l : List (Key × V)} {m : List (Key × D)} (hp : Post K (Rep K) w E Q (newDc k m s)) (st : StR K w s) (kv : KVR K w l m) {p : Addr} (np : w.H p = none) :
    Q (.ref p) (upd w.H p (.dK l)) ∨ ∃ d u, V.ref p = .ref d ∧ upd w.H p (.dK l) d = some u ∧ Mut (some u) ∧ ∀ od, Q (.ref p) (upd (upd w.H p (.dK l)) d (.frz od u)) := by
  cases k with
  | true =>
    have hp' : Post K (Rep K) w E Q (.ok (.cel s.length) (s ++ [some (.dct m)])) := hp
    have ex := Wd.cell_ext st (o := .dK l) np
    exact .inl (hp' (.ref p) (w.cell s.length p (.dK l)) ex (Wd.cell_st st np ⟨l, upd_same, kv.ext ex⟩) (.cel (if_pos rfl)))
  | false =>
    have hp' : Post K (Rep K) w E Q (.ok (.dct m) s) := hp
    refine .inr ⟨p, .dK l, rfl, upd_same, trivial, fun od => ?_⟩
    have e3 : upd (upd w.H p (.dK l)) p (.frz od (.dK l)) = (w.frz p (.frz od (.dK l))).H := by
      funext b
      show _ = upd w.H p (.frz od (.dK l)) b
      by_cases hb : b = p
      · subst hb
        rw [upd_same, upd_same]
      · rw [upd_ne hb, upd_ne hb, upd_ne hb]
    have ex := Wd.frz_ext st (o := .frz od (.dK l)) np
    rw [e3]
    exact hp' (.ref p) _ ex (Wd.frz_st st np) (Rep.dctK Wd.frz_z Wd.frz_h (kv.ext ex))
end
section
variable {X : Cx} {W : WX} {a : Expr} {pos p : Pos} {mr : DM (List D)}
theorem e_dict (k : Bool) (hc : X.calm = true) (hg : Gl X "dict") (hm : X.mg "dict" = none) (ha : PA X [a] (tA X.K W mr))
    (he : starEach [a] X.env = (false, eval a X.env) :: starEach [] X.env := by rfl) : PE X (.Call (.Name "dict" p) [a] [] pos) (tE X.K W (argM (dictPD k) mr)) :=
  PE.imp (pe_frz (pe_callTy (x := "dict") (T := "dict") (CallR.or (call_dictP hc) call_dictD) hg hm (by decide +kernel) ha (by decide) (by decide) he rfl)) fun t H Q h => by
    obtain ⟨r, s, w, rfl, env, st, hp⟩ := h
    exact hp.bind env st fun vs ds s1 w1 e1 st1 r1 hp1 => by
      unfold dictPD at hp1
      cases r1 with
      | nil => exact hp1.elim
      | @cons v d vs ds q1 q2 =>
        cases q2 with
        | cons _ _ => exact hp1.elim
        | nil =>
          dsimp only at hp1
          cases ed : dctOf s1 d with
          | some m =>
            rw [ed] at hp1
            obtain ⟨p, l, rfl, hd, kv⟩ := dctOf_ok st1 q1 ed
            exact .inr ⟨p, l, rfl, hd, fun q nq => newDc_post hp1 st1 kv nq⟩
          | none =>
            rw [ed] at hp1
            dsimp only at hp1
            cases el : lstOf s1 d with
            | none => rw [el] at hp1; exact hp1.elim
            | some l =>
              rw [el] at hp1
              dsimp only at hp1
              cases ep : pairsD l with
              | none => rw [ep] at hp1; exact hp1.elim
              | some kvs =>
                rw [ep] at hp1
                obtain ⟨p, us, rfl, hl, rs⟩ := lstOf_ok st1 q1 el
                obtain ⟨ps, kv, rfl, hpr, hk⟩ := pairsD_ok rs ep
                exact .inl ⟨p, ps, kv, rfl, hl, hpr, fun q nq => newDc_post hp1 st1 (KVR.merge .nil hk) nq⟩
end
end Mp
set_option Elab.async false
set_option linter.all false
set_option maxRecDepth 100000
set_option maxHeartbeats 4000000
/-! Mp: a tuple times an int; operators by own defs, the usual ones behind them; facts of own comparisons. -/
namespace TmX
open PySem PySem.Spec PyProof.Rows L2
open AutoSeq1 (wpAny_loadPart')
section
end
end TmX
namespace Mp
open PySem PySem.Spec PyProof.Rows L2
section
end
end Mp
set_option Elab.async false
set_option linter.all false
set_option maxRecDepth 100000
/-! Mp: the head's run, looked at thrice. -/
noncomputable section
namespace Mp
open PySem PySem.W PySem.Calls PyProof.Rows HandSHeadRun
def hdA (r : OpenRow) (M : Nat) (w : World) (os : OsState) : Option Bool := (endF (stepQ (denQ tabQ) r.prog w) M r.prog w os).map fun s => looksF r.prog (boot_heap w.params) s.abs
def hdB (r : OpenRow) (q : Program) (M : Nat) (loose : List PySem.Str) (w : World) (os : OsState) := (endF (stepQ (denQ tabQ) r.prog w) M r.prog w os).map fun s => seenQ q loose (importedModules r.prog.main.body) (fun s => xlAt q [] s && recOk r.toRowW.records s) s.abs
def hdC {T : Type} (r : OpenRow) (ob : SharedT → T) (M : Nat) (w : World) (os : OsState) : Option T := (endF (stepQ (denQ tabQ) r.prog w) M r.prog w os).map ob
theorem run_split {r : OpenRow} {q : Program} {H : Hook} {ob : SharedT → H.α} {M : Nat} {loose : List PySem.Str} {w : World} (a : ∀ os, hdA r M w os = some true) (b : ∀ os, hdB r q M loose w os = some (openGood q loose)) (c : ∀ os, hdC r ob M w os = some (H.val w)) : RunEq r q H ob M loose w := fun os => by
  have ha := a os
  have hb := b os
  have hc := c os
  unfold hdA at ha
  unfold hdB at hb
  unfold hdC at hc
  cases e : endF (stepQ (denQ tabQ) r.prog w) M r.prog w os with
  | none => rw [e] at ha; cases ha
  | some s =>
    rw [e] at ha hb hc
    have ha := Option.some.inj ha
    have hb := Option.some.inj hb
    have hc := Option.some.inj hc
    show some (looksF r.prog (boot_heap w.params) s.abs, seenQ q loose (importedModules r.prog.main.body) (fun s => xlAt q [] s && recOk r.toRowW.records s) s.abs, ob s) = _
    dsimp only at ha hb
    rw [ha, hb, hc]
end Mp
set_option Elab.async false
set_option linter.all false
set_option maxRecDepth 100000
/-! Mp: the head's third look, in parts. -/
noncomputable section
namespace Mp
open PySem PySem.W PySem.Calls PyProof.Rows HandSHeadRun
def fgM (n : Nat) (s : SharedT) : Frag := He.frG (getT s) (asM (getT s) n)
section
variable {r : OpenRow} {M : Nat} {w : World} {os : OsState} {T U : Type}
theorem hdC_pair {f : SharedT → T} {g : SharedT → U} {x : T} {y : U} (a : hdC r f M w os = some x) (b : hdC r g M w os = some y) : hdC r (fun s => (f s, g s)) M w os = some (x, y) := by
  unfold hdC at *
  cases e : endF (stepQ (denQ tabQ) r.prog w) M r.prog w os with
  | none => rw [e] at a; cases a
  | some s =>
    rw [e] at a b
    have a := Option.some.inj a
    have b := Option.some.inj b
    show some (f s, g s) = _
    rw [a, b]
theorem hdC_and {f g : SharedT → Bool} (a : hdC r f M w os = some true) (b : hdC r g M w os = some true) : hdC r (fun s => f s && g s) M w os = some true := by
  unfold hdC at *
  cases e : endF (stepQ (denQ tabQ) r.prog w) M r.prog w os with
  | none => rw [e] at a; cases a
  | some s =>
    rw [e] at a b
    have a := Option.some.inj a
    have b := Option.some.inj b
    show some (f s && g s) = _
    rw [a, b]
    rfl
theorem hdC_all {X : Type} {F : SharedT → X} {l m : List (X → Bool)} (a : hdC r (fun s => l.all fun f => f (F s)) M w os = some true) (b : hdC r (fun s => m.all fun f => f (F s)) M w os = some true) : hdC r (fun s => (l ++ m).all fun f => f (F s)) M w os = some true := by
  have h := hdC_and a b
  have e : (fun s : SharedT => (l ++ m).all fun f => f (F s)) = fun s => (l.all fun f => f (F s)) && (m.all fun f => f (F s)) := funext fun s => List.all_append
  rw [e]
  exact h
end
end Mp
set_option Elab.async false
set_option linter.all false
set_option maxRecDepth 100000
set_option maxHeartbeats 4000000
/-! Mp: defs with a parameter of two stars; calls with keywords for it. -/
namespace KwX
open PySem PySem.Spec PyProof.Rows L2
theorem forIn_fix {A B : Type} {z : A} (f : B → A × List B → Sem (ForInStep (A × List B))) : ∀ (kws ex : List B), (∀ p ∈ kws, ∀ e, f p (z, e) = pure (.yield (z, e ++ [p]))) → forIn kws (z, ex) f = pure (z, ex ++ kws)
  | [], ex, _ => by rw [List.forIn_nil, List.append_nil]
  | p :: kws, ex, h => by
    rw [List.forIn_cons, h p List.mem_cons_self]
    show (forIn kws (z, ex ++ [p]) f) = _
    rw [forIn_fix f kws _ fun q hq => h q (List.mem_cons_of_mem _ hq), List.append_assoc]
    rfl
theorem zip_lookup : ∀ {ps : List Str} {us : List Value}, us.length = ps.length → ps.Nodup → ∀ n ∈ ps, ∃ u, (ps.zip us).lookup n = some u
  | [], _, _, _, _, h => by cases h
  | p :: ps, u :: us, hl, hn, n, h => by
    rw [List.zip_cons_cons, List.lookup_cons]
    by_cases e : n = p
    · subst e
      simp
    · rw [show (n == p) = false by simpa using e]
      rcases List.mem_cons.mp h with h | h
      · exact absurd h e
      · exact zip_lookup (by simpa using hl) (List.nodup_cons.mp hn).2 n h
theorem fm_congr {A B : Type} {f g : A → Option B} : ∀ {l : List A}, (∀ x ∈ l, f x = g x) → l.filterMap f = l.filterMap g
  | [], _ => rfl
  | x :: l, h => by
    rw [List.filterMap_cons, List.filterMap_cons, h x List.mem_cons_self, fm_congr fun y hy => h y (List.mem_cons_of_mem _ hy)]
theorem zip_fm : ∀ {ps : List Str} {us : List Value}, us.length = ps.length → ps.Nodup → (ps.filterMap fun n => ((ps.zip us).lookup n).map (n, ·)) = ps.zip us
  | [], [], _, _ => rfl
  | p :: ps, u :: us, hl, hn => by
    have hn := List.nodup_cons.mp hn
    have e : (ps.filterMap fun n => (((p, u) :: ps.zip us).lookup n).map (n, ·)) = ps.filterMap fun n => ((ps.zip us).lookup n).map (n, ·) := fm_congr fun n hm => by
      rw [List.lookup_cons, show (n == p) = false from beq_eq_false_iff_ne.mpr fun z => hn.1 (z ▸ hm)]
    rw [List.filterMap_cons, List.zip_cons_cons, List.lookup_cons_self]
    show (p, u) :: _ = _
    rw [e, zip_fm (by simpa using hl) hn.2]
theorem bindArgs_kw {fd : FuncData} {ps : List Str} {ar : Arg} (hp : fd.params.posonlyargs = []) (ha : fd.params.args.map (·.arg) = ps) (hk : fd.params.kwonlyargs = []) (hv : fd.params.vararg = none) (hkw : fd.params.kwarg = some ar) (hd : fd.defaults = .none) (us : List Value) (kws : List (Str × Value)) (hl : us.length = ps.length) (hnot : ∀ p ∈ kws, p.1 ∉ ps) (hz : kws.length ≤ sizeLine + 1) (nd : ps.Nodup) : bindArgs fd ⟨us, kws⟩ = ((alloc ({ cls := .type "dict", data := .dict #[] } : Obj) : Sem Addr) >>= fun d => forIn kws PUnit.unit (fun x _ => nsSet d x.1 x.2 >>= fun _ => pure (ForInStep.yield PUnit.unit)) >>= fun _ => pure (ps.zip us ++ [(ar.arg, .ref d)])) := by
  unfold bindArgs
  simp only [hp, ha, hk, hv, hkw, hd, List.map_nil, List.nil_append, List.append_nil]
  rw [forIn_fix (z := ps.zip us) _ kws [] fun p hm e => by
    have h1 : ps.contains p.1 = false := by simpa using hnot p hm
    rw [h1]
    rfl]
  have hmiss : (List.filter (fun n => (List.lookup n (ps.zip us)).isNone) ps) = [] := by
    rw [List.filter_eq_nil_iff]
    intro n hn
    obtain ⟨u, e⟩ := zip_lookup hl nd n hn
    rw [e]
    simp
  have e0 : seqItems? Value.none = pure none := rfl
  simp only [e0, pure_bind, Option.getD_none, List.nil_append]
  have h2 : (decide (us.length > ps.length) && (none : Option Arg).isNone) = false := by simp [hl]
  rw [h2]
  simp [hmiss, zip_fm hl nd]
  intro z
  omega
/-! ### the dict is filled -/
section
variable {prog : Program} {w : World} {A : Around} {E : Value → Shared → Prop} {d : Addr}
theorem putName_new {es : List DictEntry} {n : Nat} {k : Str} {hsh : Int} {key v : Value} (hs : ∀ e ∈ es, e.key.isStr k = false) : Obj.putName k hsh key v (PySem.W.dictOf es n) = PySem.W.dictOf (es ++ [⟨hsh, key, v⟩]) (n + 1) := by
  have e1 : es.any (·.key.isStr k) = false := by
    cases q : es.any (·.key.isStr k) with
    | false => rfl
    | true => obtain ⟨e, he, z⟩ := List.any_eq_true.mp q; rw [hs e he] at z; cases z
  rw [PySem.W.putName_dict, PySem.W.putL_new hs]
  show PySem.W.dictOf _ (if es.any (·.key.isStr k) then n else n + 1) = _
  rw [e1, if_neg Bool.false_ne_true]
theorem nsSet_new {s : Shared} {es : List DictEntry} {n : Nat} {k : Str} {v : Value} {Q : Unit → Shared → Prop} (D : s.heap.get? d = some (PySem.W.dictOf es n))
    (hs : ∀ e ∈ es, e.key.isStr k = false) (hr : ∀ e ∈ es, e.refKey = false)
    (h : ∀ h', Heap.SameBut d s.heap h' → h'.get? d = some (PySem.W.dictOf (es ++ [⟨PyData.keyHash w.params k, .str k s.toks, v⟩]) (n + 1)) → Q () { s with heap := h', toks := s.toks + 1 }) :
    wpAny (model prog w) A (nsSet d k v) Q E s := by
  have e2 : es.any (·.refKey) = false := by
    cases q : es.any (·.refKey) with
    | false => rfl
    | true => obtain ⟨e, he, z⟩ := List.any_eq_true.mp q; rw [hr e he] at z; cases z
  have c : aRefKeyMayBeTheName k es.toArray = false := by
    rw [aRefKeyMayBeTheName_at, ← Array.any_toList, ← Array.any_toList]
    show (!es.any (·.key.isStr k) && es.any (·.refKey)) = false
    rw [e2, Bool.and_false]
  unfold nsSet
  refine wpAny_bind (wpAny_bind (wpAny_askSetting (wpAny_pure (wpAny_bind (wpAny_mkText (wpAny_bind (wpAny_loadPart D ?_)))))))
  dsimp only
  rw [c]
  refine wpAny_updatePart D (h _ (Heap.SameBut.update ..) ?_)
  have e := putName_new (n := n) (hsh := PyData.keyHash w.params k) (key := .str k s.toks) (v := v) hs
  rw [← e]
  exact Heap.get?_update_self _ D (by show (Obj.putName k (PyData.keyHash w.params k) (.str k s.toks) v (PySem.W.dictOf es n)).isFreed = false; rw [e]; rfl)
theorem fill_ok {Q : PUnit → Shared → Prop} : ∀ (ex : List (Str × Value)) (s : Shared) (es : List DictEntry) (n : Nat), s.heap.get? d = some (PySem.W.dictOf es n) →
    (∀ e ∈ es, ∀ x ∈ ex, e.key.isStr x.1 = false) → (∀ e ∈ es, e.refKey = false) → (ex.map (·.1)).Nodup →
    (∀ h', Heap.SameBut d s.heap h' → h'.get? d = some (PySem.W.dictOf (es ++ PySem.W.kwEs w.params s.toks ex) (n + ex.length)) → Q ⟨⟩ { s with heap := h', toks := s.toks + ex.length }) →
    wpAny (model prog w) A (forIn ex PUnit.unit fun x _ => (nsSet d x.1 x.2 >>= fun _ => pure (ForInStep.yield PUnit.unit))) Q E s
  | [], s, es, n, D, _, _, _, h => by
    rw [List.forIn_nil]
    refine wpAny_pure (h s.heap (Heap.SameBut.refl _ _) ?_)
    rw [show PySem.W.kwEs w.params s.toks [] = [] from rfl, List.append_nil]
    exact D
  | x :: r, s, es, n, D, hs, hr, hn, h => by
    obtain ⟨hn1, hn2⟩ := List.nodup_cons.mp (show (x.1 :: r.map (·.1)).Nodup from hn)
    rw [List.forIn_cons]
    refine wpAny_bind (wpAny_bind (nsSet_new D (fun e he => hs e he x (.head _)) hr fun h' S' D' => wpAny_pure ?_))
    show wpAny (model prog w) A (forIn r PUnit.unit fun x _ => (nsSet d x.1 x.2 >>= fun _ => pure (ForInStep.yield PUnit.unit))) Q E { s with heap := h', toks := s.toks + 1 }
    refine fill_ok r { s with heap := h', toks := s.toks + 1 } _ _ D' (fun e he y hy => ?_) (fun e he => ?_) hn2 fun h'' S'' D'' => ?_
    · rcases List.mem_append.mp he with he | he
      · exact hs e he y (.tail _ hy)
      · obtain rfl := List.mem_singleton.mp he
        show (x.1 == y.1) = false
        exact beq_eq_false_iff_ne.mpr fun q => hn1 (by rw [q]; exact List.mem_map_of_mem hy)
    · rcases List.mem_append.mp he with he | he
      · exact hr e he
      · obtain rfl := List.mem_singleton.mp he
        rfl
    · have t1 : s.toks + 1 + r.length = s.toks + (r.length + 1) := by omega
      have t2 : n + 1 + r.length = n + (r.length + 1) := by omega
      show Q ⟨⟩ { s with heap := h'', toks := s.toks + 1 + r.length }
      rw [t1]
      refine h h'' (S'.trans S'') ?_
      rw [t2, List.append_assoc] at D''
      exact D''
def kK {T : Type} (l : List (Str × T)) : List (Key × T) := l.map fun p => (.inr p.1, p.2)
theorem kwEs_keyed : ∀ (ex : List (Str × Value)) (t : Tok), ∀ e ∈ PySem.W.kwEs w.params t ex, ∃ k, (mixKind prog w).is k e.key = true ∧ e.hash = (mixKind prog w).hash k := fun ex t e he => by
  obtain ⟨k, u, hk, hh⟩ := PySem.W.kwEs_key ex t e he
  exact ⟨.inr k, by rw [hk]; exact mixKind_str prog w k u, hh.trans rfl⟩
theorem kwEs_pairs : ∀ (ex : List (Str × Value)) (t : Tok), Pairs (mixKind prog w) (PySem.W.kwEs w.params t ex) (kK ex)
  | [], _ => Pairs.nil
  | x :: r, t => Pairs.cons (mixKind_str prog w x.1 t) rfl (kwEs_pairs r (t + 1))
theorem kK_nodup {T : Type} {l : List (Str × T)} (h : (l.map (·.1)).Nodup) : ((kK l).map (·.1)).Nodup := by
  unfold kK
  rw [List.map_map]
  have e : (l.map ((fun p : Key × T => p.1) ∘ fun p : Str × T => ((Sum.inr p.1, p.2) : Key × T))) = (l.map (·.1)).map (Sum.inr : Str → Key) := by rw [List.map_map]; rfl
  rw [e]
  generalize l.map (·.1) = ks at h
  induction ks with
  | nil => exact .nil
  | cons k ks ih =>
    rw [List.nodup_cons] at h
    rw [List.map_cons, List.nodup_cons]
    refine ⟨fun z => ?_, ih h.2⟩
    obtain ⟨j, hj, e⟩ := List.mem_map.mp z
    exact h.1 (Sum.inr.inj e ▸ hj)
theorem dictOf_kw {h : Heap} {ex : List (Str × Value)} {t : Tok} {n : Nat} (D : h.get? d = some (PySem.W.dictOf (PySem.W.kwEs w.params t ex) n)) (hn : (ex.map (·.1)).Nodup) : h.DictOf (mixKind prog w) d (kK ex) :=
  ⟨_, _, _, D, ⟨rfl, rfl, rfl⟩, rfl, fun e he => kwEs_keyed ex t e (List.mem_toArray.mp he), kwEs_pairs ex t, kK_nodup hn⟩
end
/-! ### a new object laid ahead of a def's body, in more than one step -/
section
variable {P : Program} {w : World} {K : PySem.W.Frag} {mg : Str → Option Value} {base : Heap} {A : Around} {outer : List Env} {s : Shared} {H : Hp}
theorem env0_put {h' : Heap} {t' : Nat} {u : HO} (e0 : Env0 P w K mg base A outer s H) (kp : ∀ b x, s.heap.get? b = some x → h'.get? b = some x) (sz : s.heap.objs.size ≤ h'.objs.size) (new : ObjOk P w (upd H s.heap.objs.size u) h' s.heap.objs.size u) :
    Env0 P w K mg base A outer { s with heap := h', toks := t' } (upd H s.heap.objs.size u) := by
  refine ⟨e0.frames, e0.mod, fun b x e => ⟨kp b x (e0.bs b x e).1, ?_⟩, ?_, Heap.FunFrames.of_keeps (fun b x e _ => ⟨x, kp b x e, rfl⟩) e0.funs, fun b hb => ?_, e0.hok.laid kp (Nat.le_refl _) new, e0.bare⟩
  · rw [upd_ne (Nat.ne_of_lt (Heap.lt_size (e0.bs b x e).1))]
    exact (e0.bs b x e).2
  · show base.objs.size ≤ h'.objs.size
    exact Nat.le_trans e0.bsz sz
  · obtain ⟨_, x, hx, _⟩ := e0.funs.mem hb
    rw [upd_ne (Nat.ne_of_lt (Heap.lt_size hx))]
    exact e0.frf b hb
end
end KwX
namespace Mp
open PySem PySem.Spec PyProof.Rows L2
/-- the keys as texts -/
def kS : List (Key × D) → Option (List (Str × D))
  | [] => some []
  | (.inr k, d) :: l => (kS l).map fun r => (k, d) :: r
  | (.inl _, _) :: _ => none
theorem kS_kK : ∀ {m : List (Key × D)} {l : List (Str × D)}, kS m = some l → m = KwX.kK l
  | [], l, h => by
    cases h
    rfl
  | (.inr k, d) :: m, l, h => by
    unfold kS at h
    cases e : kS m with
    | none => rw [e] at h; cases h
    | some r =>
      rw [e] at h
      cases h
      rw [kS_kK e]
      rfl
  | (.inl _, _) :: _, _, h => by cases h
/-- the body of a def f(a, .., **d): the last value is the dict -/
def bodyK (ps : List Str) (n : Nat) (b : DS) : DF := fun ds s => match ds.getLast? with
  | some (.dct m) => (match kS m with
    | some l => if ds.length = ps.length + 1 ∧ (l.map (·.1)).Nodup ∧ (∀ k ∈ l.map (·.1), k ∉ ps) ∧ l.length ≤ 1000 then bodyX n b ds s else .bad
    | none => .bad)
  | _ => .bad
/-- values by position, values by keywords -/
def spDK (K : Frag) (m : DF) (vs : List V) (kvs : List (Str × V)) : Hp → VK → XK → Prop := fun H Q E => ∃ ds dks so u, u.H = H ∧ Reps K u vs ds ∧ KVR K u kvs dks ∧ StR K u so ∧ Post K (Rep K) u E Q (m (ds ++ [.dct (KwX.kK dks)]) so)
def FnDK (P : Program) (w : World) (K : Frag) (mg : Str → Option Value) (base : Heap) (k : Nat) (f : Addr) (m : DF) : Prop :=
  ∀ (A : Around) (outer : List Env) (s : Shared) (H : Hp) (us : List Value) (vs : List V) (kws : List (Str × Value)) (kvs : List (Str × V)) (Q : VK) (E : XK), Rm k A → Env0 P w K mg base A outer s H → Vals vs us → KV kvs kws → spDK K m vs kvs H Q E →
    codeAny (model P w) A (.call (.ref f) ⟨us, kws⟩) (CR (L2.CX P w) outer P w H s Q E) s
theorem FnDK.mono {P : Program} {w : World} {K : Frag} {mg : Str → Option Value} {base : Heap} {j k : Nat} {f : Addr} {m : DF} (F : FnDK P w K mg base j f m) (h : j ≤ k) : FnDK P w K mg base k f m := fun A outer s H us vs kws kvs Q E hr => F A outer s H us vs kws kvs Q E (hr.mono h)
theorem kv_keys {T : Type} : ∀ {l : List (T × V)} {m : List (T × Value)}, KV l m → l.map (·.1) = m.map (·.1)
  | _, _, .nil => rfl
  | _, _, .cons h r => by
    rw [List.map_cons, List.map_cons, h.1, kv_keys r]
theorem kv_len {T : Type} {l : List (T × V)} {m : List (T × Value)} (h : KV l m) : l.length = m.length := by
  have := congrArg List.length (kv_keys h)
  simpa using this
theorem kv_kK : ∀ {l : List (Str × V)} {m : List (Str × Value)}, KV l m → KV (KwX.kK l) (KwX.kK m)
  | _, _, .nil => .nil
  | _, _, .cons h r => .cons ⟨congrArg Sum.inr h.1, h.2⟩ (kv_kK r)
theorem kvr_kK {K : Frag} {w : Wd} : ∀ {l : List (Str × V)} {m : List (Str × D)}, KVR K w l m → KVR K w (KwX.kK l) (KwX.kK m)
  | _, _, .nil => .nil
  | _, _, .cons h r => .cons h (kvr_kK r)
theorem kS_of : ∀ (l : List (Str × D)), kS (KwX.kK l) = some l
  | [] => rfl
  | (k, d) :: l => by
    show (kS (KwX.kK l)).map _ = _
    rw [kS_of l]
    rfl
section
variable {P : Program} {w : World} {K : Frag} {mg : Str → Option Value} {base : Heap}
theorem fn_okK {x qual : Str} {params : Arguments} {body : List Stmt} {scope : Scope} {kws0 : List (Str × V)} {f : Addr} {fd : FuncData} {N ps : List Str} {pk : Str} {k : Nat} {b : DS} (F : FunD K x qual params body scope [] kws0 f fd) (S : FnScope N (ps ++ [pk]) scope)
    (hp : params.posonlyargs = []) (ha : params.args.map (·.arg) = ps) (hk : params.kwonlyargs = []) (hv : params.vararg = none) (hkw0 : params.kwarg.map (·.arg) = some pk) (nd : ps.Nodup)
    (hbody : BodyD P w K mg base N qual scope f k body b) : FnDK P w K mg base (k + 1) f (bodyK ps N.length b) := by
  obtain ⟨ar, hkw, rfl⟩ : ∃ ar, params.kwarg = some ar ∧ ar.arg = pk := by
    cases e : params.kwarg with
    | none => rw [e] at hkw0; cases hkw0
    | some ar => rw [e] at hkw0; exact ⟨ar, rfl, Option.some.inj hkw0⟩
  obtain ⟨oc, od, dV, kV, doc, pm, an, cdv, ct, osl, rfl, lk, hcd, hD, hK⟩ := F.ex
  rcases hD with ⟨_, rfl⟩ | ⟨e, _⟩
  · intro A outer s H us vs kws kvs Q E hr e0 r rk h
    obtain ⟨ds, dks, so, u, rfl, rs, rd, st, hpost⟩ := h
    unfold bodyK at hpost
    rw [List.getLast?_append, show ([D.dct (KwX.kK dks)] : List D).getLast? = some (.dct (KwX.kK dks)) from rfl] at hpost
    dsimp only [Option.or] at hpost
    rw [kS_of] at hpost
    dsimp only at hpost
    split at hpost
    · rename_i hc
      obtain ⟨hlen, hnd, hnot, hfew⟩ := hc
      have l1 := rs.length
      have hlen : ds.length = ps.length := by
        rw [List.length_append] at hlen
        simpa using hlen
      have hlu : us.length = ps.length := by rw [← r.length]; omega
      have ek : kws.map (·.1) = dks.map (·.1) := by rw [← kv_keys rk, rd.keys]
      have hkl : kws.length = dks.length := by rw [← kv_len rk, rd.length]
      have hz : sizeLine = 16777216 := by decide
      have hn : u.H s.heap.objs.size = none := e0.hok.fresh (Nat.le_refl _)
      have hnd2 : (kws.map (·.1)).Nodup := by rw [ek]; exact hnd
      have e1 := Wd.frz_ext st (o := .frz (PySem.W.dictOf (PySem.W.kwEs w.params s.toks kws) (0 + kws.length)) (.dK (KwX.kK kvs))) hn
      have st1 := Wd.frz_st st (o := .frz (PySem.W.dictOf (PySem.W.kwEs w.params s.toks kws) (0 + kws.length)) (.dK (KwX.kK kvs))) hn
      generalize hob : PySem.W.dictOf (PySem.W.kwEs w.params s.toks kws) (0 + kws.length) = ob at e1 st1
      have rsT : Reps K (u.frz s.heap.objs.size (.frz ob (.dK (KwX.kK kvs)))) (vs ++ [V.ref s.heap.objs.size]) (ds ++ [.dct (KwX.kK dks)]) :=
        (rs.ext e1).append (.cons (Rep.dctK (w := u.frz s.heap.objs.size (.frz ob (.dK (KwX.kK kvs)))) Wd.frz_z Wd.frz_h (kvr_kK (rd.ext e1))) .nil)
      refine StX.run_bnd lk hcd S hr.rm e0 (G := fun xs H2 => xs = vs ++ [V.ref s.heap.objs.size] ∧ H2 = (u.frz s.heap.objs.size (.frz ob (.dK (KwX.kK kvs)))).H) (fun A' Ex Q' h => ?_) fun s2 H2 xs hx hr' => ?_
      · rw [KwX.bindArgs_kw (fd := PySem.W.fnOf x qual params body scope .none kV doc pm an cdv ct) hp ha hk hv hkw rfl us kws hlu (fun p hpm => hnot p.1 (by rw [← ek]; exact List.mem_map_of_mem hpm)) (by omega) nd]
        refine wpAny_bind (wpAny_alloc ?_)
        refine wpAny_bind (KwX.fill_ok (d := s.heap.objs.size) kws _ [] 0 (Heap.get?_push_size _ rfl) (fun _ he => nomatch he) (fun _ he => nomatch he) hnd2 fun h' sb hd => wpAny_pure ?_)
        rw [List.nil_append] at hd
        have hd : h'.get? s.heap.objs.size = some (PySem.W.dictOf (PySem.W.kwEs w.params s.toks kws) (0 + kws.length)) := hd
        have kp : ∀ b o, s.heap.get? b = some o → h'.get? b = some o := fun b o e => by
          rw [sb.2 b (Nat.ne_of_lt (Heap.lt_size e))]
          exact Heap.get?_push_of_some _ e
        have sz : s.heap.objs.size ≤ h'.objs.size := by
          rw [sb.1]
          show _ ≤ (s.heap.push _).objs.size
          rw [Heap.size_push]
          omega
        have hnew : ObjOk P w (upd u.H s.heap.objs.size (.frz ob (.dK (KwX.kK kvs)))) h' s.heap.objs.size (.frz ob (.dK (KwX.kK kvs))) := by
          refine ⟨by rw [← hob]; exact hd, ?_, ?_, KwX.kK kws, kv_kK rk, KwX.dictOf_kw hd hnd2⟩
          · have : (KwX.kK kvs).length = kvs.length := by unfold KwX.kK; rw [List.length_map]
            rw [this, kv_len rk, hkl]
            omega
          · exact beq_eq_false_iff_ne.mpr (Nat.ne_of_gt (StX.env0_big e0))
        have hun : Un (frs outer) [] u.H (upd u.H s.heap.objs.size (.frz ob (.dK (KwX.kK kvs)))) s.heap h' := Un.laid kp (Nat.le_refl _) hn
        have q := h { s with heap := h', toks := s.toks + kws.length } _ (vs ++ [V.ref s.heap.objs.size]) (us ++ [Value.ref s.heap.objs.size]) (KwX.env0_put e0 kp sz hnew) hun rfl (fun er s3 => StX.cxUp outer s u.H _ _ E er s3 hun kp rfl) (r.append (.cons rfl .nil)) (by rw [List.length_append, List.length_append, r.length, hlu] <;> rfl) ⟨rfl, rfl⟩
        rw [List.zip_append hlu.symm] at q
        exact q
      · obtain ⟨rfl, rfl⟩ := hx
        exact ⟨_, hbody cdv A outer s2 _ E (hr.deeper _), body_end rsT st1 (Post.ext e1 hpost)⟩
    · exact hpost.elim
  · exact absurd rfl e
end
end Mp
set_option Elab.async false
set_option linter.all false
set_option maxRecDepth 100000
set_option maxHeartbeats 4000000
/-! Mp: an own class called with keywords, with a dict behind two stars. -/
namespace KwX
open PySem PySem.Spec PyProof.Rows L2
section
variable {M : Model} {A : Around} {E : Value → Shared → Prop} {s : Shared} {K : PySem.W.Frag} {f : Value} {first : List Value} {Q : Value → Shared → Prop} {pos : Pos} {args : List (Bool × Sem Value)} {kws : List (Option Str × Sem Value)}
theorem callWith_DS (hk : PySem.W.keepIn K f = true) (hst : (args.any (·.1) || kws.any (·.1.isNone)) = true) (h : wpAny M A (evalArgs f true args kws) (fun a s₁ => K.In s₁.heap ∧ wpAny M A (call f (first ++ a.pos) a.kw) Q E s₁) E s) :
    wpAny M A (callWith pos f first args kws) Q E s := by
  unfold callWith
  refine wpAny_bind (wpAny_holding (wpAny_mono h (fun a s₁ h₁ => wpAny_bind (wpAny_standAt ?_)) fun _ _ x => x))
  obtain ⟨k, hk', L⟩ := PySem.W.keeps_K (M := M) hk _ h₁.1
  simp only [hst]
  refine wpAny_bind (L.here ?_)
  have tail : ∀ {t : Sem Value}, wpAny M A t Q E s₁ → wpAny M A (t >>= fun r => holding [r] point >>= fun _ => pure r) Q E s₁ :=
    fun ht => wpAny_bind (wpAny_mono ht (fun r s₂ hr => wpAny_bind (wpAny_holding (wpAny_point (wpAny_pure hr)))) fun _ _ x => x)
  have marked (mk : Value) : wpAny M A (callMarked mk f (first ++ a.pos) a.kw) Q E s₁ := by unfold callMarked; exact Calls.wpAny_keep h₁.2
  rcases hk' with rfl | rfl | rfl <;> dsimp only <;> first | exact tail (marked _) | exact tail (PySem.W.wpAny_operating h₁.2) | exact tail (wpAny_operating h₁.2)
theorem evalArgs_DS {x : Sem Value} {rest : List (Bool × Sem Value)} {Q : Args → Shared → Prop} (hall : kws.all (·.1.isSome) = false)
    (h : wpAny M A (spliced ((false, x) :: rest)) (fun vs s₁ => wpAny M A (mergedKeywords f kws) (fun d s₂ => wpAny M A (keywordsIn f d) (fun kw s₃ => Q ⟨vs, kw⟩ s₃) E s₂) E s₁) E s) :
    wpAny M A (evalArgs f true ((false, x) :: rest) kws) Q E s := by
  unfold evalArgs
  show wpAny M A (spliced ((false, x) :: rest) >>= _) Q E s
  refine wpAny_bind (wpAny_mono h (fun vs s₁ h₁ => ?_) fun _ _ x => x)
  refine wpAny_holding ?_
  simp only [hall]
  refine wpAny_bind (wpAny_mono h₁ (fun d s₂ h₂ => ?_) fun _ _ x => x)
  refine wpAny_bind (wpAny_pure ?_)
  exact wpAny_bind (wpAny_holding (wpAny_mono h₂ (fun kw s₃ h₃ => wpAny_pure h₃) fun _ _ x => x))
end
section
variable {prog : Program} {w : World} {A : Around} {E : Value → Shared → Prop} {s : Shared} {f : Value} {d : Addr}
theorem keywordsIn_ok {l : List (Str × Value)} {Q : List (Str × Value) → Shared → Prop} (D : s.heap.DictOf (mixKind prog w) d (kK l)) (h : Q l s) : wpAny (model prog w) A (keywordsIn f d) Q E s := by
  obtain ⟨o, es, ep, ho, hc, hd, hk, hp, hn⟩ := D
  unfold keywordsIn
  refine wpAny_bind (wpAny_dictEntries ho hd ?_)
  have key : ∀ (es : List DictEntry) (l kw : List (Str × Value)) (g : DictEntry → List (Str × Value) → Sem (ForInStep (List (Str × Value)))), Pairs (mixKind prog w) es (kK l) →
      (∀ e kw k t, e.key = .str k t → g e kw = pure (.yield (kw ++ [(k, e.val)]))) → forIn es kw g = pure (kw ++ l) := by
    intro es
    induction es with
    | nil =>
      intro l kw g hp hg
      cases l with
      | nil => rw [List.forIn_nil, List.append_nil]
      | cons x l => cases hp
    | cons e es ih =>
      intro l kw g hp hg
      cases l with
      | nil => cases hp
      | cons x l =>
        have hp : Pairs (mixKind prog w) (e :: es) ((.inr x.1, x.2) :: kK l) := hp
        cases hp with
        | cons h1 h2 h3 =>
          rcases keyIs_shape (k := .inr x.1) h1 with ⟨i, t, z, _⟩ | ⟨y, t, z, ek⟩
          · exact nomatch z
          · obtain rfl := Sum.inr.inj z
            rw [List.forIn_cons, hg e kw x.1 t ek]
            show forIn es (kw ++ [(x.1, e.val)]) g = _
            rw [ih l _ g h3 hg, h2, List.append_assoc]
            rfl
  rw [← Array.forIn_toList, key es.toList l [] _ hp fun e kw k t ek => by
    rw [ek]]
  refine wpAny_bind (wpAny_pure ?_)
  exact wpAny_pure h
end
section
variable {X : Cx} {e : Expr} {te : TE} {pos kp : Pos} {f : Value}
theorem kwd_run (he : PE X e te) {pins : List (Addr × Obj)} {s : Shared} {σ : L2.St} {H : Hp} {Q : VK} (I : Inv X pins σ H s) (q : MmX.tSpr te σ H Q) :
    wpAny (model X.prog X.w) X.A (mergedKeywords f (backToKw pos (keywordEach [⟨none, e, kp⟩] X.env))) (fun d s' => EP X pins σ Q (.ref d) s') X.xe s := by
  have hn := I.hok.fresh (Nat.le_refl s.heap.objs.size)
  have I1 := I.laid (a := s.heap.objs.size) (o := .dK []) (h' := s.heap.push { cls := .type "dict", data := .dict #[] }) (t' := s.toks) (fun _ _ q => Heap.get?_push_of_some _ q) (Nat.le_refl _) (dk_empty s.heap I.big)
  show wpAny _ _ (mergedKeywords f [(none, do let x ← eval e X.env; standAt pos; pure x)]) _ _ s
  unfold mergedKeywords
  refine wpAny_bind (wpAny_alloc ?_)
  refine wpAny_bind (wpAny_holding ?_)
  dsimp only
  rw [List.forIn_cons]
  dsimp only
  refine wpAny_bind (wpAny_bind (wpAny_bind ?_))
  rw [if_pos (show ([] : List (Str × Sem Value)).isEmpty = true from rfl)]
  refine wpAny_pure ?_
  refine wpAny_bind (wpAny_bind (thn (he.run pins _ σ _ _ I1 (q _ hn)) fun v s2 ⟨x, H2, I2, rx, a, kvs, ex, ne, hd, hp, hq⟩ => wpAny_bind (wpAny_standAt (wpAny_pure ?_))))
  subst ex
  cases rx
  obtain ⟨z, lo, vs, rel, dd⟩ := dk_rd I2.hok hd
  obtain ⟨z0, hd0, vs0, r0, dd0⟩ := dk_of I2.hok hp
  cases r0
  refine wpAny_bind (wpAny_onRaise (wpAny_holding (wpAny_tryCatch (wpAny_onRaise (MmX.merge_ok (knd := mixKind X.prog X.w) (Ne.symm ne) lo dd0 dd (fun h' d' _ hs => ?_) (by rw [← rel.length]; exact z))))))
  refine wpAny_pure ?_
  dsimp only
  rw [List.forIn_nil]
  refine wpAny_pure ?_
  rw [if_pos (show ([] : List (Str × Sem Value)).isEmpty = true from rfl)]
  refine wpAny_pure ?_
  have he : ∃ q, h'.get? s.heap.objs.size = some q := let ⟨q, _, _, hq, _⟩ := d'; ⟨q, hq⟩
  exact wpAny_pure ⟨.ref s.heap.objs.size, _, d_write I2 (by rw [hp]; exact True.intro) hs he (dk_new z hd0 rel d'), rfl, hq⟩
end
end KwX
namespace Mp
open PySem PySem.Spec PyProof.Rows L2
/-- arguments by position, then a dict of keywords -/
def kwA (a : DM (List D)) (b : DM (List (Str × D))) : DM (List D) := bindM a fun ds => bindM b fun l => pureM (ds ++ [.dct (KwX.kK l)])
/-- **e -/
def sprK (e : DE) : DM (List (Str × D)) := bindM e fun x => fun _ s => match dctOf s x with
  | some m => (match kS m with
    | some l => .ok l s
    | none => .bad)
  | none => .bad
/-- k = e, .. -/
def kwM (ks : List Str) (b : DM (List D)) : DM (List (Str × D)) := bindM b fun es => pureM (ks.zip es)
section
variable {X : Cx} {W : WX} {a e : Expr} {es : List Expr} {pos p kp : Pos} {mr : DM (List D)} {me mn : DE} {x cc : Str} {k : Nat} {f : Addr} {mf : DF} {kws : List Keyword}
theorem run_makeAtK {pins : List (Addr × Obj)} {t : L2.St} {H : Hp} {s : Shared} {Q : VK} {E : XK} {us : List Value} {vs : List V} {kv : List (Str × Value)} {kz : List (Str × V)} {C : Addr} (M : Mk X.K C f) (F : FnDK X.prog X.w X.K X.mg X.base k f mf) (hr : Rm (k + 1) X.A)
    (hx : PassesAt (L2.CX X.prog X.w) X t E) (I : Inv X pins t H s) (r : Vals vs us) (rk : KV kz kv)
    (h : ∀ x dx, H x = none → H dx = none → dx ≠ x → spDK X.K mf (.ref x :: vs) kz (upd (upd H dx (.own x)) x (.ins C dx [])) (fun v H2 => v = .non ∧ Q (.ref x) H2) E) : wpAny (model X.prog X.w) X.A (call (.ref C) us kv) (EP X pins t Q) X.xe s := by
  have h0 := h (s.heap.objs.size + 1) s.heap.objs.size (I.hok.fresh (Nat.le_succ _)) (I.hok.fresh (Nat.le_refl _)) (Nat.ne_of_lt (Nat.lt_succ_self _))
  have J := Inv.made (C := C) I
  have rr : Vals (V.ref (s.heap.objs.size + 1) :: vs) (Value.ref (s.heap.objs.size + 1) :: us) := .cons rfl r
  refine wpAny_call (make_map (f := f) I.kIn M.makes M.init (beq_iff_eq.mp M.fn) (codeAny_mono (F _ X.stack _ _ (.ref (s.heap.objs.size + 1) :: us) _ kv kz _ E (hr.make C us kv) (J.env0.make C us kv) rr rk h0) fun z s' hz => ?_))
  cases z with
  | error er => exact hx pins _ _ er s' J hz
  | ok fl =>
    cases fl with
    | ret u =>
      obtain ⟨v, H3, J3, rv, ev, q3⟩ := J.after hz
      subst ev
      exact ⟨rv, ⟨.ref (s.heap.objs.size + 1), H3, J3, rfl, q3⟩⟩
    | next => exact hz.elim
    | brk => exact hz.elim
    | cont => exact hz.elim
theorem make_midK {w : Wd} {s : Sto} {vs : List V} {dv : List D} {kz : List (Str × V)} {kd : List (Str × D)} {t : L2.St} {Q : VK} {E : XK} {cc : Str} {kk : Bool} (st : StR X.K w s) (rs : Reps X.K w vs dv) (rk : KVR X.K w kz kd)
    (hp : Post X.K (Rep X.K) w E Q (match mf (.cel s.length :: (dv ++ [.dct (KwX.kK kd)])) (s ++ [some (.ins cc [])]) with
      | .ok .non s' => freezeI kk s.length s'
      | .ok _ _ => .bad
      | .exc E fs s' => .exc E fs s'
      | .bad => .bad)) :
    ∀ x dx, w.H x = none → w.H dx = none → dx ≠ x → spDK X.K mf (.ref x :: vs) kz (upd (upd w.H dx (.own x)) x (.ins (He.ga X.K cc) dx [])) (fun v H2 => v = .non ∧ Q (.ref x) H2) E := fun x dx nx ndx ne => by
  have e1 := Wd.put_ext st (o := .own x) ndx
  have st1 := Wd.put_st st (o := .own x) ndx
  have nx1 : (w.put dx (.own x)).H x = none := (upd_ne fun z => ne z.symm).trans nx
  have e2 := Wd.cell_ext st1 (o := .ins (He.ga X.K cc) dx []) nx1
  have st2 : StR X.K ((w.put dx (.own x)).cell s.length x (.ins (He.ga X.K cc) dx [])) (s ++ [some (.ins cc [])]) := Wd.cell_st st1 nx1 ⟨dx, [], upd_same, .nil⟩
  have hA : ((w.put dx (.own x)).cell s.length x (.ins (He.ga X.K cc) dx [])).A s.length = some x := if_pos rfl
  have rs2 : Reps X.K ((w.put dx (.own x)).cell s.length x (.ins (He.ga X.K cc) dx [])) (.ref x :: vs) (.cel s.length :: dv) := .cons (.cel hA) (rs.ext (e1.trans e2))
  refine ⟨.cel s.length :: dv, kd, _, (w.put dx (.own x)).cell s.length x (.ins (He.ga X.K cc) dx []), rfl, rs2, rk.ext (e1.trans e2), st2, ?_⟩
  have hp2 := Post.ext (e1.trans e2) hp
  show Post _ _ _ _ _ (mf (.cel s.length :: (dv ++ [.dct (KwX.kK kd)])) (s ++ [some (.ins cc [])]))
  cases e : mf (.cel s.length :: (dv ++ [.dct (KwX.kK kd)])) (s ++ [some (.ins cc [])]) with
  | bad => rw [e] at hp2; exact hp2
  | exc E2 fs s2 => rw [e] at hp2; exact hp2
  | ok d s3 =>
    rw [e] at hp2
    intro v w3 e3 st3 rv
    cases rv with
    | non =>
      refine ⟨rfl, ?_⟩
      have A3 := e3.A _ _ hA
      have hp3 := Post.ext e3 hp2
      dsimp only at hp3
      unfold freezeI at hp3
      cases kk with
      | true => exact hp3.pure st3 (.cel A3)
      | false =>
        have hp4 : Post X.K (Rep X.K) w3 E Q (match s3[s.length]? with
          | some (some (.ins C fs)) => .ok (.ins C fs) (s3.set s.length none)
          | _ => .bad) := hp3
        cases e5 : s3[s.length]? with
        | none => rw [e5] at hp4; exact hp4.elim
        | some oc =>
          rw [e5] at hp4
          cases oc with
          | none => exact hp4.elim
          | some ct =>
            cases ct with
            | ins C fs =>
              obtain ⟨a1, h1, hz, dx1, l, hh, kv⟩ := st3.at_ _ _ e5
              have ea : a1 = x := Option.some.inj (h1.symm.trans A3)
              subst ea
              exact hp4 (.ref a1) (w3.ice a1) Wd.ice_ext (Wd.ice_st st3 e5 h1) (.insK (.inr rfl) hh (kv.ext Wd.ice_ext))
            | _ => exact hp4.elim
    | _ => exact hp2.elim
/-- what {**e} asks, of data -/
theorem spr_imp {t : L2.St} {H : Hp} {Q : VK} {te : TE} (hte : te = tE X.K W me) (h : tE X.K W (sprM me) t H Q) : MmX.tSpr te t H (fun v H1 => Q v H1 ∨ ∃ d u, v = .ref d ∧ H1 d = some u ∧ Mut (some u) ∧ ∀ od, Q v (upd H1 d (.frz od u))) := by
  subst hte
  obtain ⟨r, s, w, rfl, env, st, hp⟩ := h
  intro p np
  have hz : ¬ w.Z p := fun z => st.fz p z np
  have hP : ¬ w.P p := fun z => (st.pz p z).2 np
  have ex : Ext w (w.pin p (.dK [])) := Wd.pin_ext st np
  refine ⟨r, s, w.pin p (.dK []), rfl, env.ext ex, Wd.pin_st st np, ?_⟩
  unfold sprM bindM at hp
  cases em : me r s with
  | exc C fs s1 =>
    rw [em] at hp
    exact fun ed w' e' st' x' => hp ed w' (ex.trans e') st' x'
  | bad => rw [em] at hp; exact hp
  | ok d s1 =>
    rw [em] at hp
    dsimp only at hp
    intro x w1 e1 st1 r1
    cases ed : dctOf s1 d with
    | none => rw [ed] at hp; exact hp.elim
    | some m =>
      rw [ed] at hp
      obtain ⟨a, l, rfl, hd, kv⟩ := dctOf_ok st1 r1 ed
      have hP1 : w1.P p := e1.P p (.inr rfl)
      have hh1 : w1.H p = some (.dK []) := (e1.HP p (.inr rfl)).trans upd_same
      by_cases hap : a = p
      · subst hap
        exfalso
        cases d with
        | dct m1 =>
          obtain ⟨a, o, l, e2, z, h1, h2⟩ := r1.dct_inv
          cases e2
          exact (st1.pz a hP1).1 z
        | cel n =>
          cases r1 with
          | cel ha =>
            unfold dctOf at ed
            dsimp only at ed
            cases es : s1[n]? with
            | none => rw [es] at ed; cases ed
            | some o =>
              cases o with
              | none => rw [es] at ed; cases ed
              | some c => exact st1.np n c _ es ha hP1
        | _ => cases ed
      · refine ⟨a, l, rfl, hap, hd, hh1, .inr ⟨p, .dK l, rfl, upd_same, trivial, fun od => ?_⟩⟩
        obtain ⟨w2, e2, x2, st2, rp⟩ := unpin_frz (ex.trans e1) st1 hP hz hP1 kv od
        have e3 : upd (upd w1.H p (.dK l)) p (.frz od (.dK l)) = w2.H := by
          rw [e2]
          funext b
          by_cases hb : b = p
          · subst hb; rw [upd_same, upd_same]
          · rw [upd_ne hb, upd_ne hb, upd_ne hb]
        rw [e3]
        exact hp (.ref p) w2 x2 st2 rp
/-- the keywords of a dict behind two stars, as they are handed over -/
theorem kws_run {fv : Value} {pins : List (Addr × Obj)} {s : Shared} {t : L2.St} {w : Wd} {r : En} {so : Sto} {P : List (Str × Value) → Shared → Prop} (he : PE X e (tE X.K W me)) (I : Inv X pins t w.H s) (env : EnvR X.K w r t) (st : StR X.K w so) {T : Type} {R : Wd → V → T → Prop} {E : XK} {Q : VK}
    {g : List (Str × D) → DM T} (hE : E = fun c d H' => W c d t H') (hp : Post X.K R w E Q (bindM (sprK me) g r so))
    (k : ∀ kv kz kd s3 w3 so3, Inv X pins t w3.H s3 → KV kz kv → Ext w w3 → StR X.K w3 so3 → KVR X.K w3 kz kd → Post X.K R w3 E Q (g kd r so3) → P kv s3) :
    wpAny (model X.prog X.w) X.A (mergedKeywords fv (backToKw pos (keywordEach [⟨none, e, kp⟩] X.env))) (fun d s2 => wpAny (model X.prog X.w) X.A (keywordsIn fv d) P X.xe s2) X.xe s := by
  subst hE
  have hs : tE X.K W (sprM me) t w.H (fun v H1 => ∃ d o l kd w3 so3, v = .ref d ∧ H1 = w3.H ∧ w3.H d = some (.frz o (.dK (KwX.kK l))) ∧ Ext w w3 ∧ StR X.K w3 so3 ∧ KVR X.K w3 l kd ∧ Post X.K R w3 (fun c d H' => W c d t H') Q (g kd r so3)) := by
    refine ⟨r, so, w, rfl, env, st, ?_⟩
    unfold sprK bindM at hp
    unfold sprM bindM
    cases em : me r so with
    | exc C fs s1 => rw [em] at hp; exact hp
    | bad => rw [em] at hp; exact hp
    | ok d s1 =>
      rw [em] at hp
      dsimp only at hp ⊢
      cases ed : dctOf s1 d with
      | none => rw [ed] at hp; exact hp.elim
      | some m =>
        rw [ed] at hp
        dsimp only at hp ⊢
        cases ek : kS m with
        | none => rw [ek] at hp; exact hp.elim
        | some l =>
          rw [ek] at hp
          dsimp only at hp
          intro v w3 e3 st3 r3
          have e5 := kS_kK ek
          subst e5
          obtain ⟨a, o, lv, rfl, z, hh, kvr⟩ := r3.dct_inv
          obtain ⟨lz, elz, kz⟩ : ∃ lz : List (Str × V), lv = KwX.kK lz ∧ KVR X.K w3 lz l := by
            clear hp ed ek hh z r3
            induction l generalizing lv with
            | nil =>
              cases kvr
              exact ⟨[], rfl, .nil⟩
            | cons q l ih =>
              obtain ⟨qk, qd⟩ := q
              cases kvr with
              | cons h1 h2 =>
                obtain ⟨lz, e1, h3⟩ := ih _ h2
                subst e1
                exact ⟨(qk, _) :: lz, rfl, .cons h1 h3⟩
          subst elz
          exact ⟨a, o, lz, l, w3, s1, rfl, rfl, hh, e3, st3, kz, Post.ext e3 hp⟩
  refine thn (KwX.kwd_run he I (spr_imp rfl hs)) fun d s2 ⟨v, H1, I1, rv, q⟩ => ?_
  obtain ⟨H2, I2, a, o, l, kd, w3, so3, ev, eH, hh, e3, st3, kz, hp3⟩ : ∃ H2, Inv X pins t H2 s2 ∧ ∃ d o l kd w3 so3, v = .ref d ∧ H2 = w3.H ∧ w3.H d = some (.frz o (.dK (KwX.kK l))) ∧ Ext w w3 ∧ StR X.K w3 so3 ∧ KVR X.K w3 l kd ∧ Post X.K R w3 (fun c d H' => W c d t H') Q (g kd r so3) := by
    rcases q with q | ⟨d', u, e1, hd, mu, q⟩
    · exact ⟨H1, I1, q⟩
    · obtain ⟨od, I2⟩ := I1.lock hd mu
      exact ⟨_, I2, q od⟩
  subst ev
  subst eH
  obtain rfl : d = a := Value.ref.inj rv
  obtain ⟨z, lo, vs, rel, dd⟩ := dk_rd I2.hok (.inr ⟨o, hh⟩)
  obtain ⟨kv, ekv, rkv⟩ : ∃ kv : List (Str × Value), vs = KwX.kK kv ∧ KV l kv := by
    clear hp3 kz hh rv q hs dd lo z hp
    induction l generalizing vs with
    | nil =>
      cases rel
      exact ⟨[], rfl, .nil⟩
    | cons q l ih =>
      obtain ⟨qk, qd⟩ := q
      have rel : KV ((Sum.inr qk, qd) :: KwX.kK l) vs := rel
      cases rel with
      | @cons _ b _ _ h1 h2 =>
        obtain ⟨kv, e1, h3⟩ := ih _ h2
        subst e1
        obtain ⟨bk, bv⟩ := b
        obtain ⟨h1, h4⟩ := h1
        have h1 : (Sum.inr qk : Key) = bk := h1
        subst h1
        exact ⟨(qk, bv) :: kv, rfl, .cons ⟨rfl, h4⟩ h3⟩
  subst ekv
  exact KwX.keywordsIn_ok dd (k kv l kd s2 w3 so3 I2 rkv e3 st3 kz hp3)
theorem makeM_kw {kk : Bool} {mk : DM (List (Str × D))} : makeM kk cc mf (kwA mr mk) = bindM mr fun ds => bindM mk fun l => fun _ s => match mf (.cel s.length :: (ds ++ [.dct (KwX.kK l)])) (s ++ [some (.ins cc [])]) with
    | .ok .non s' => freezeI kk s.length s'
    | .ok _ _ => .bad
    | .exc E fs s' => .exc E fs s'
    | .bad => .bad := by
  unfold makeM kwA
  rw [bind_assoc]
  congr 1
  funext ds
  rw [bind_assoc]
  rfl
/-- x(e, .., **d), x a local name that holds the class cc -/
theorem e_makeLK (kk : Bool) (tk : Takes X W) (M : Mk X.K (He.ga X.K cc) f) (F : FnDK X.prog X.w X.K X.mg X.base k f mf) (hr : Rm (k + 1) X.A) (hn : PE X (.Name x p) (tE X.K W mn))
    (ha : PA X (a :: es) (tA X.K W mr)) (he : PE X e (tE X.K W me)) (hs : starEach (a :: es) X.env = (false, eval a X.env) :: starEach es X.env := by rfl) :
    PE X (.Call (.Name x p) (a :: es) [⟨none, e, kp⟩] pos) (tE X.K W (makeLM kk cc mf mn (kwA mr (sprK me)))) := by
  refine ⟨fun pins s t H Q I h => ?_⟩
  obtain ⟨r, so, w, rfl, env, st, hp⟩ := h
  refine wpAny_Call_Name_kw (thn (hn.run pins s t w.H (fun v H1 => v = .ref (He.ga X.K cc) ∧ ∃ so1 w1, H1 = w1.H ∧ EnvR X.K w1 r t ∧ StR X.K w1 so1 ∧ Post X.K (Rep X.K) w1 (fun c d H' => W c d t H') Q (makeM kk cc mf (kwA mr (sprK me)) r so1)) I ⟨r, so, w, rfl, env, st, ?_⟩) fun v s1 ⟨y, H1, I1, r1, ey, so1, w1, eH, env1, st1, hp1⟩ => ?_)
  · unfold makeLM bindM at hp
    cases e0 : mn r so with
    | ok d s1 =>
      rw [e0] at hp
      intro v w1 e1 st1 r1
      have hp := Post.ext e1 hp
      cases d with
      | glo y =>
        dsimp only at hp
        by_cases ec : y = cc
        · subst ec
          rw [if_pos rfl] at hp
          cases r1
          exact ⟨rfl, s1, w1, rfl, env.ext e1, st1, hp⟩
        · rw [if_neg ec] at hp
          exact hp.elim
      | _ => exact hp.elim
    | exc C fs s1 => rw [e0] at hp; exact hp
    | bad => rw [e0] at hp; exact hp
  · subst ey
    subst eH
    cases r1
    rw [makeM_kw] at hp1
    refine KwX.callWith_DS M.kp ?_ ?_
    · rw [hs]
      show (_ || true) = true
      rw [Bool.or_true]
    · rw [hs]
      refine KwX.evalArgs_DS rfl ?_
      have z := ha.run pos pins s1 t w1.H (fun vs H2 => ∃ dv so2 w2, H2 = w2.H ∧ Ext w1 w2 ∧ StR X.K w2 so2 ∧ Reps X.K w2 vs dv ∧ Post X.K (Rep X.K) w2 (fun c d H' => W c d t H') Q (bindM (sprK me) (fun l => fun _ s => match mf (.cel s.length :: (dv ++ [.dct (KwX.kK l)])) (s ++ [some (.ins cc [])]) with
        | .ok .non s' => freezeI kk s.length s'
        | .ok _ _ => .bad
        | .exc E fs s' => .exc E fs s'
        | .bad => .bad) r so2)) I1 (hp1.bind env1 st1 fun vs dv so2 w2 e2 st2 rs hp2 => ⟨dv, so2, w2, rfl, e2, st2, rs, hp2⟩)
      rw [hs] at z
      refine thn z fun us s2 ⟨vs, H2, I2, rv, dv, so2, w2, eH2, e2, st2, rs, hp2⟩ => ?_
      subst eH2
      exact kws_run he I2 (env1.ext e2) st2 rfl hp2 fun kv kz kd s3 w3 so3 I3 rk e3 st3 kd3 hp3 => ⟨I3.kIn, run_makeAtK (E := WE W t) M F hr (passAt tk t) I3 rv rk (make_midK (t := t) st3 (rs.ext e3) kd3 hp3)⟩
/-! ### keywords that are written -/
end
end Mp
set_option Elab.async false
set_option linter.all false
set_option maxRecDepth 100000
set_option maxHeartbeats 4000000
/-! Mp: dict.get, list(d), max(xs), sorted texts of any number, a dict held against an empty one. -/
namespace Mp
open PySem PySem.Spec PyProof.Rows L2
/-! ### d.get(k, x) -/
def getM (o k x : DE) : DE := bindM o fun d => fun r s => match dctOf s d with
  | none => .bad
  | some _ => (bindM k fun y => bindM x fun z => fun _ s => match dctOf s d with
    | some m => (match keyD y with
      | some k => .ok ((getK m k).getD z) s
      | none => .bad)
    | none => .bad) r s
section
variable {X : Cx} {W : WX} {o e f : Expr} {pos apos : Pos} {mo me mf : DE}
theorem e_get2 (hu : X.A.units + 1 < cLine) (ho : PE X o (tE X.K W mo)) (he : PE X e (tE X.K W me)) (hf : PE X f (tE X.K W mf)) (m : M2 X o "get" apos e f pos) : PE X (.Call (.Attribute o "get" apos) [e, f] [] pos) (tE X.K W (getM mo me mf)) :=
  PE.imp (pe_dget2 hu ho he hf m) fun t H Q h => by
    obtain ⟨r, s, w, rfl, env, st, hp⟩ := h
    exact hp.bind env st fun x d s1 w1 e1 st1 r1 hp1 => by
      cases ed : dctOf s1 d with
      | none => rw [ed] at hp1; exact hp1.elim
      | some m0 =>
        rw [ed] at hp1
        obtain ⟨p0, l0, rfl, hd0, _⟩ := dctOf_ok st1 r1 ed
        refine ⟨p0, rfl, .inl ⟨l0, hd0⟩, hp1.bind (env.ext e1) st1 fun y dy s2 w2 e2 st2 r2 hp2 => hp2.bind ((env.ext e1).ext e2) st2 fun z dz s3 w3 e3 st3 r3 hp3 => ?_⟩
        cases ed3 : dctOf s3 d with
        | none => rw [ed3] at hp3; exact hp3.elim
        | some m =>
          rw [ed3] at hp3
          dsimp only at hp3
          cases ek : keyD dy with
          | none => rw [ek] at hp3; exact hp3.elim
          | some k =>
            rw [ek] at hp3
            dsimp only at hp3
            obtain ⟨p, l, ep, hd, kv⟩ := dctOf_ok st3 ((r1.ext e2).ext e3) ed3
            cases ep
            have ey := keyD_ok (r2.ext e3) ek
            have g := getK_ok (k := k) kv
            refine ⟨valV l k, .inl ⟨l, k, hd, ey, rfl⟩, ?_⟩
            cases eg : getK m k with
            | none =>
              rw [eg] at g hp3
              rw [g]
              exact hp3.pure st3 r3
            | some d3 =>
              rw [eg] at g hp3
              obtain ⟨v, hv, rv⟩ := g
              rw [hv]
              exact hp3.pure st3 rv
end
/-! ### sorted(xs) of texts, any number of them -/
section
end
/-! ### list(d) -/
def listKD (k : Bool) (ds : List D) (s : Sto) : Res D := match ds with
  | [x] => (match dctOf s x with
    | some m => newL k (m.map fun p => keyV p.1) s
    | none => listD k [x] s)
  | _ => .bad
abbrev rListK (K : Frag) : List V → Hp → VK → Prop := fun xs H Q => (∃ p ys, xs = [.ref p] ∧ (SqL K H p ys ∨ SqT K H p ys) ∧ ∀ l, H l = none → Q (.ref l) (upd H l (.lst ys))) ∨ ∃ (a : Addr) (kvs : List (Key × V)), xs = [.ref a] ∧ Rd H a (.dK kvs) ∧ ∀ p, H p = none → Q (.ref p) (upd H p (.lst (kvs.map fun kv => kV kv.1)))
section
variable {X : Cx}
theorem call_listK (hc : X.calm = true) : CallR X (.type "list") (rListK X.K) := CallR.or call_list_of (call_listD hc)
theorem reps_keys {K : Frag} {w : Wd} : ∀ {l : List (Key × V)} {m : List (Key × D)}, KVR K w l m → Reps K w (l.map fun kv => kV kv.1) (m.map fun p => keyV p.1)
  | _, _, .nil => .nil
  | _, _, .cons (k := k) h r => .cons (by cases k <;> constructor) (reps_keys r)
theorem v_listK {k : Bool} : VRC X.K (rListK X.K) (listKD k) := fun w s xs ds Q E st rs hp => by
  unfold listKD at hp
  split at hp
  · rename_i x
    cases ed : dctOf s x with
    | none =>
      rw [ed] at hp
      exact .inl (v_list w s xs [x] Q E st rs hp)
    | some m =>
      rw [ed] at hp
      dsimp only at hp
      obtain ⟨y, rfl, ry⟩ := rs.one
      obtain ⟨p, l, rfl, hd, kv⟩ := dctOf_ok st ry ed
      exact .inr ⟨p, l, rfl, hd, hp.newL st (reps_keys kv)⟩
  · exact hp.elim
end
/-! ### max(xs) of ints -/
def maxI : Int → List Int → Int
  | m, [] => m
  | m, x :: l => maxI (if m < x then x else m) l
theorem maxI_ge : ∀ (l : List Int) (m : Int), m ≤ maxI m l ∧ ∀ y ∈ l, y ≤ maxI m l
  | [], m => ⟨Int.le_refl m, fun _ h => by cases h⟩
  | x :: l, m => by
    have e : maxI m (x :: l) = maxI (if m < x then x else m) l := rfl
    rw [e]
    by_cases h : m < x
    · rw [if_pos h]
      obtain ⟨h1, h2⟩ := maxI_ge l x
      refine ⟨by omega, fun y hy => ?_⟩
      rcases List.mem_cons.mp hy with rfl | hy
      · exact h1
      · exact h2 y hy
    · rw [if_neg h]
      obtain ⟨h1, h2⟩ := maxI_ge l m
      refine ⟨h1, fun y hy => ?_⟩
      rcases List.mem_cons.mp hy with rfl | hy
      · omega
      · exact h2 y hy
theorem maxI_mem : ∀ (l : List Int) (m : Int), maxI m l = m ∨ maxI m l ∈ l
  | [], m => .inl rfl
  | x :: l, m => by
    have e : maxI m (x :: l) = maxI (if m < x then x else m) l := rfl
    rw [e]
    rcases maxI_mem l (if m < x then x else m) with h | h
    · rw [h]
      split
      · exact .inr List.mem_cons_self
      · exact .inl rfl
    · exact .inr (List.mem_cons_of_mem _ h)
def max1D (ds : List D) (s : Sto) : Res D := match ds with
  | [x] => (match lstOf s x with
    | some l => (match intsOf l with
      | some (n :: ns) => .ok (.int (maxI n ns)) s
      | _ => .bad)
    | none => .bad)
  | _ => .bad
section
variable {X : Cx}
theorem v_max1 : VRC X.K (rMax X.K) max1D := fun w s xs ds Q E st rs hp => by
  unfold max1D at hp
  split at hp
  · obtain ⟨x, rfl, rx⟩ := rs.one
    split at hp
    · rename_i _ d _ l hl
      split at hp
      · rename_i n ns hi
        obtain ⟨p, vs, rfl, hr, rv⟩ := lstOf_ok st rx hl
        have ev := intsOf_ok rv hi
        subst ev
        refine ⟨p, n :: ns, rfl, hr, by simp, fun m h1 h2 => ?_⟩
        have hm : m = maxI n ns := by
          obtain ⟨g1, g2⟩ := maxI_ge ns n
          have a1 : m ≤ maxI n ns := by
            rcases List.mem_cons.mp h1 with rfl | h1
            · exact g1
            · exact g2 m h1
          have a2 : maxI n ns ≤ m := by
            rcases maxI_mem ns n with e | e
            · rw [e]; exact h2 n List.mem_cons_self
            · exact h2 _ (List.mem_cons_of_mem _ e)
          omega
        rw [hm]
        exact hp.pure st (.int _)
      · exact hp.elim
    · exact hp.elim
  · exact hp.elim
end
/-! ### d == {} -/
section
end
/-! ### xs * n, a list of one's own -/
section
end
end Mp
set_option Elab.async false
set_option linter.all false
set_option maxRecDepth 100000
set_option maxHeartbeats 4000000
/-! Mp: sorted(xs, key=f), f a method of an own object or a function of one's own: the sort, over any law J that the calls of f keep. -/
namespace SkJ
open PySem PySem.W PySem.Calls PyProof.Rows
section
variable {prog : Program} {w : World} {A : Around} {E : Value → Shared → Prop} {s : Shared} {a kS : Addr} {b : Bool} {vs : List Value} {e1 : Nat} {P : PySem.Fin → Shared → Prop} {kz : List PyData}
/-- the loop over the items, and what follows it -/
theorem rest {f : Value} (J : Nat → List Value → Shared → Prop) (hka : kS ≠ a) (nk : s.heap.get? kS = some (seqObj "list" #[] 0)) (na : s.heap.get? a = some (seqObj "list" #[] e1))
    (hlen : kz.length = vs.length) (hZ : vs.length ≤ sizeLine) (hal : AllAlike kz) (hsk : Sortable kz) (hu : ∀ d, d ∈ kz → A.units + d.depth < cLine) (j0 : J 0 [] s)
    (jset : ∀ i ks s1 h', J i ks s1 → (∃ kA e, s1.heap.get? kS = some (seqObj "list" kA e)) → (∃ kA e, h'.get? kS = some (seqObj "list" kA e)) → (∀ b o, b ≠ kS → s1.heap.get? b = some o → h'.get? b = some o) → J i ks { s1 with heap := h' })
    (turn : ∀ i v k ks s1 kA e, vs[i]? = some v → kz[i]? = some k → J i ks s1 → s1.heap.get? kS = some (seqObj "list" kA e) → s1.heap.get? a = some (seqObj "list" #[] e1) →
      wpAny (model prog w) A (call f [v]) (fun u s2 => J (i + 1) (ks ++ [u]) s2 ∧ s2.heap.get? kS = some (seqObj "list" kA e) ∧ s2.heap.get? a = some (seqObj "list" #[] e1)) (fun _ _ => False) s1)
    (jend : ∀ ks s1, J vs.length ks s1 → EachIs (fun v k => ∃ as, Reads s1.heap v k as) ks kz)
    (h : ∀ ks s1 h' tk out c kA e, J vs.length ks s1 → s1.heap.get? kS = some (seqObj "list" kA e) → s1.heap.get? a = some (seqObj "list" #[] e1) → (∀ b o, b ≠ a → b ≠ kS → s1.heap.get? b = some o → h'.get? b = some o) → h'.get? a = some (seqObj "list" (List.toArray out) c) → KeyedOut b kz vs out →
      P (.done (.ret .none)) { s1 with heap := h', toks := tk }) :
    wpAny (model prog w) A (ksk_rest a f b vs.toArray e1 (.ref kS)) P E s := by
  unfold ksk_rest
  refine wpAny_bind (wpAny_rule ?_)
  first
    | rw [List.forIn_toArray]
    | (rw [← Array.forIn_toList]; simp only [List.toList_toArray])
    | rw [← Array.forIn_toList]
  refine wpAny_bind (ksk_fold (fun i s' => ∃ kA e, kA.size = i ∧ J i kA.toList s' ∧ s'.heap.get? kS = some (seqObj "list" kA e) ∧ s'.heap.get? a = some (seqObj "list" #[] e1)) vs 0 s ⟨#[], 0, rfl, j0, nk, na⟩ ?step ?done)
  case step =>
    rintro j x s' hx ⟨kA, e, hks, hJ, nk', na'⟩
    simp only [Nat.zero_add] at hJ hks ⊢
    have hj : j < vs.length := (List.getElem?_eq_some_iff.mp hx).1
    obtain ⟨k, hkj⟩ : ∃ k, kz[j]? = some k := ⟨_, List.getElem?_eq_getElem (by omega)⟩
    refine wpAny_bind (wpAny_attempt (wpAny_mono (turn j x k kA.toList s' kA e hx hkj hJ nk' na') (fun v s'' he => ?_) fun _ _ hF => hF.elim))
    obtain ⟨hJ2, nk2, na2⟩ := he
    try dsimp only
    have s1 := Heap.SameBut.update s''.heap kS (Obj.mapSeq (·.push v))
    obtain ⟨c2, hc2⟩ : ∃ c2, (s''.heap.update kS (Obj.mapSeq (·.push v))).get? kS = some (seqObj "list" (kA.push v) c2) := ⟨_, get?_update_seq nk2 (·.push v)⟩
    refine wpAny_bind (listUpdate_at nk2 rfl ?_ (by omega) (by rw [Array.size_push]; omega))
    refine wpAny_pure ⟨rfl, kA.push v, c2, by rw [Array.size_push, hks], ?_, hc2, (s1.2 a hka.symm).trans na2⟩
    have q := jset (j + 1) (kA.toList ++ [v]) s'' _ hJ2 ⟨_, _, nk2⟩ ⟨_, _, hc2⟩ fun b o hb ho => (s1.2 b hb).trans ho
    rw [Array.toList_push]
    exact q
  case done =>
    rintro s' ⟨kA, e, hks, hJ, nk', na'⟩
    rw [Nat.zero_add] at hJ hks
    have hk' := jend _ _ hJ
    try dsimp only
    refine wpAny_bind (listItems_at nk' rfl ?_)
    obtain ⟨G, g1, g2⟩ := L2.restrict s'.heap fun b => decide (b ≠ a ∧ b ≠ kS)
    have gS : ∀ b o, b ≠ a → G.get? b = some o → s'.heap.get? b = some o := fun b o hb ho => by
      by_cases hbk : b = kS
      · subst hbk
        rw [g2 b (decide_eq_false fun z => z.2 rfl)] at ho
        cases ho
      · rw [← g1 b (decide_eq_true ⟨hb, hbk⟩)]
        exact ho
    exact keyH_end (κ := dataKind s'.heap kz) (h₁ := G) gS (g2 kS (decide_eq_false fun z => z.2 rfl)) nk' na' hka (SortsAt.data (s := s') hk' hal hsk hu) (by rw [hks]) hZ fun h3 tk3 c k3 n3 => h kA.toList s' h3 tk3 _ c kA e hJ nk' na' (fun b o hb hbk ho => k3 b o hb (by rw [g1 b (decide_eq_true ⟨hb, hbk⟩)]; exact ho)) n3 ⟨s'.heap, kA.toList, hal, rfl, hk'⟩
/-- sorted(xs, key=f) -/
theorem sorted {l : Addr} {f : Value} {kw : List (Str × Value)} {Q : Value → Shared → Prop} (J : Addr → Nat → List Value → Shared → Prop) (ha : a = s.heap.objs.size + 1) (hl : s.heap.IsList l vs.toArray)
    (hlen : kz.length = vs.length) (hZ : vs.length ≤ sizeLine) (hal : AllAlike kz) (hsk : Sortable kz) (hu : ∀ d, d ∈ kz → A.units + 2 + d.depth < cLine)
    (ha1 : argsOk "sorted" ⟨[.ref l], kw⟩) (ha2 : ∀ x, argsOk "list.sort" ⟨[.ref x], kw⟩) (ht : ∀ x, Builtin.«list.sort» ⟨[.ref x], kw⟩ = ksk_tree x f b)
    (j0 : ∀ kS h', (∀ b o, s.heap.get? b = some o → h'.get? b = some o) → s.heap.objs.size ≤ kS → kS ≠ a → J kS 0 [] { s with heap := h' })
    (jset : ∀ kS i ks s1 h', J kS i ks s1 → (∃ kA e, s1.heap.get? kS = some (seqObj "list" kA e)) → (∃ kA e, h'.get? kS = some (seqObj "list" kA e)) → (∀ b o, b ≠ kS → s1.heap.get? b = some o → h'.get? b = some o) → J kS i ks { s1 with heap := h' })
    (turn : ∀ kS e1 i v k ks s1 kA e, vs[i]? = some v → kz[i]? = some k → J kS i ks s1 → s1.heap.get? kS = some (seqObj "list" kA e) → s1.heap.get? a = some (seqObj "list" #[] e1) →
      wpAny (model prog w) A.in1.in1 (call f [v]) (fun u s2 => J kS (i + 1) (ks ++ [u]) s2 ∧ s2.heap.get? kS = some (seqObj "list" kA e) ∧ s2.heap.get? a = some (seqObj "list" #[] e1)) (fun _ _ => False) s1)
    (jend : ∀ kS ks s1, J kS vs.length ks s1 → EachIs (fun v k => ∃ as, Reads s1.heap v k as) ks kz)
    (h : ∀ kS ks s1 h' tk out c kA e e1, J kS vs.length ks s1 → s1.heap.get? kS = some (seqObj "list" kA e) → s1.heap.get? a = some (seqObj "list" #[] e1) → (∀ b o, b ≠ a → b ≠ kS → s1.heap.get? b = some o → h'.get? b = some o) → h'.get? a = some (seqObj "list" (List.toArray out) c) → KeyedOut b kz vs out →
      Q (.ref a) { s1 with heap := h', toks := tk }) :
    wpAny (model prog w) A (call (.builtin "sorted") [.ref l] kw) Q E s := by
  subst ha
  refine sorted_of_sort hl hZ ha1 ha2 fun E' => ?_
  rw [ht]
  have ho := copyHeap_at s.heap vs
  have hsz : s.heap.objs.size + 1 < (copyHeap s.heap vs).objs.size := Heap.lt_size ho
  obtain ⟨e1, ho1⟩ : ∃ e1, ((copyHeap s.heap vs).update (s.heap.objs.size + 1) (Obj.mapSeq fun _ => (#[] : Array Value))).get? (s.heap.objs.size + 1) = some (seqObj "list" #[] e1) := ⟨_, get?_update_seq ho fun _ => #[]⟩
  have hkS : (((copyHeap s.heap vs).update (s.heap.objs.size + 1) (Obj.mapSeq fun _ => (#[] : Array Value))).push (seqObj "tuple" vs.toArray 0)).objs.size = (copyHeap s.heap vs).objs.size + 1 := by rw [size_push', Heap.size_update]
  have hne : (((copyHeap s.heap vs).update (s.heap.objs.size + 1) (Obj.mapSeq fun _ => (#[] : Array Value))).push (seqObj "tuple" vs.toArray 0)).objs.size ≠ s.heap.objs.size + 1 := by
    rw [hkS]
    omega
  have hle : s.heap.objs.size ≤ (((copyHeap s.heap vs).update (s.heap.objs.size + 1) (Obj.mapSeq fun _ => (#[] : Array Value))).push (seqObj "tuple" vs.toArray 0)).objs.size := by
    rw [hkS]
    omega
  unfold ksk_tree
  refine wpAny_bind (listItems_at ho rfl ?_)
  refine wpAny_bind (listUpdate_at ho rfl ?_ (by rw [List.size_toArray]; exact hZ) (Nat.zero_le _))
  refine wpAny_bind (seqEpoch_at ho1 rfl ?_)
  refine wpAny_bind (wpAny_newTuple ?_ (by show vs.length ≤ _; exact hZ))
  refine wpAny_bind (wpAny_newList ?_ (Nat.zero_le _))
  refine wpAny_holding ?_
  have kp : ∀ b o, s.heap.get? b = some o → (sortingHeap (copyHeap s.heap vs) (s.heap.objs.size + 1) vs).get? b = some o := fun b o q => sortingHeap_old (Nat.ne_of_lt (Nat.lt_succ_of_lt (Heap.lt_size q))) (copyHeap_old q)
  refine rest (kz := kz) (A := A.in1.in1) (s := { s with heap := (((copyHeap s.heap vs).update (s.heap.objs.size + 1) (Obj.mapSeq fun _ => (#[] : Array Value))).push (seqObj "tuple" vs.toArray 0)).push (seqObj "list" #[] 0) }) (kS := (((copyHeap s.heap vs).update (s.heap.objs.size + 1) (Obj.mapSeq fun _ => (#[] : Array Value))).push (seqObj "tuple" vs.toArray 0)).objs.size)
    (J _) hne (Heap.get?_push_size _ rfl) (Heap.get?_push_of_some _ (Heap.get?_push_of_some _ ho1)) hlen hZ hal hsk hu (j0 _ _ kp hle hne) (jset _) (turn _ e1) (jend _) fun ks s1 h' tk out c kA e q1 q2 q3 q4 q5 q6 => ⟨rfl, h _ ks s1 h' tk out c kA e e1 q1 q2 q3 q4 q5 q6⟩
end
end SkJ
set_option Elab.async false
set_option linter.all false
set_option maxRecDepth 100000
set_option maxHeartbeats 4000000
/-! Mp: sorted(xs, key=o.m) as a rule. -/
namespace Mp
open PySem PySem.Spec PyProof.Rows L2
abbrev KP := Int × Str
def kP (p : KP) : PyData := .tuple [.int p.1, .str p.2]
def kD (p : KP) : D := .tup [.int p.1, .str p.2]
def keysF (f : DF) (y : D) : List D → List KP → Sto → Res (List KP)
  | [], kd, s => .ok kd s
  | d :: l, kd, s => match f [y, d] s with
    | .ok (.tup [.int c, .str z]) s' => keysF f y l (kd ++ [(c, z)]) s'
    | _ => .bad
noncomputable def outK (kd : List KP) (l : List D) : List D := ((kd.zip l).mergeSort (PySem.W.dataLe false fun p => kP p.1)).map (·.2)
/-- the sort of the items x of the object y -/
noncomputable def sortF (f : DF) : DF := fun ds s => match ds with
  | [y, x] => (match lstOf s x with
    | some l => (match keysF f y l [] s with
      | .ok kd s' => .ok (.lst (outK kd l)) s'
      | _ => .bad)
    | none => .bad)
  | _ => .bad
noncomputable def sortKM (tb : List (Str × DF)) (m : Str) (me mo : DE) : DE := bindM me fun x => methM (tb.map fun p => (p.1, sortF p.2)) m mo (pureM [x])
theorem keysF_inv {f : DF} {y d : D} {l : List D} {kd kd' : List KP} {s s' : Sto} (h : keysF f y (d :: l) kd s = .ok kd' s') : ∃ c z s1, f [y, d] s = .ok (.tup [.int c, .str z]) s1 ∧ keysF f y l (kd ++ [(c, z)]) s1 = .ok kd' s' := by
  rw [keysF] at h
  split at h
  · rename_i c z s1 e
    exact ⟨c, z, s1, e, h⟩
  · cases h
theorem keysF_len {f : DF} {y : D} : ∀ {l : List D} {kd kd' : List KP} {s s' : Sto}, keysF f y l kd s = .ok kd' s' → kd'.length = kd.length + l.length
  | [], kd, kd', s, s', h => by
    rw [keysF] at h
    cases h
    rfl
  | d :: l, kd, kd', s, s', h => by
    obtain ⟨c, z, s1, _, h⟩ := keysF_inv h
    rw [keysF_len h, List.length_append, List.length_cons, List.length_cons, List.length_nil]
    omega
theorem vals_tup2 {c : Int} {z : Str} {its : List Value} (h : Vals [V.int c, V.str z] its) : ∃ t u, its = [.int c t, .str z u] := by
  cases h with
  | cons h1 r =>
    cases r with
    | cons h2 r =>
      cases r
      obtain ⟨t, rfl⟩ := h1
      obtain ⟨u, rfl⟩ := h2
      exact ⟨t, u, rfl⟩
/-- a key that is laid, as the sort reads it -/
theorem key_reads {X : Cx} {pins : List (Addr × Obj)} {t : L2.St} {w : Wd} {s : Shared} {v : V} {u : Value} {p : KP} (I : Inv X pins t w.H s) (r : Rep X.K w v (kD p)) (ru : RelV v u) : Reads s.heap u (kP p) [] := by
  unfold kD at r
  cases r with
  | @tup a vs ds h rs =>
    cases rs with
    | cons r1 rs =>
      cases rs with
      | cons r2 rs =>
        cases rs
        cases r1
        cases r2
        obtain rfl : u = Value.ref a := ru
        obtain ⟨its, rv, ⟨o, h1, h2, n, h3⟩, _⟩ := I.tuple h.sq
        obtain ⟨t1, t2, rfl⟩ := vals_tup2 rv
        exact .tuple h1 h2 h3 (.cons (as := []) (.int _ _) (.cons (as := []) (.str _ _) .nil))
theorem keys_read {X : Cx} {pins : List (Addr × Obj)} {t : L2.St} {w : Wd} {s : Shared} (I : Inv X pins t w.H s) : ∀ {kd : List KP} {vs : List V} {us : List Value}, Reps X.K w vs (kd.map kD) → Vals vs us → PySem.W.EachIs (fun v k => ∃ as, Reads s.heap v k as) us (kd.map kP)
  | [], vs, us, r, rv => by
    cases r
    cases rv
    exact .nil
  | p :: kd, vs, us, r, rv => by
    cases r with
    | cons r rs =>
      cases rv with
      | cons h hs => exact .cons ⟨[], key_reads I r h⟩ (keys_read I rs hs)
/-- pins more, of records that are ours -/
theorem Inv_pin2 {X : Cx} {pins : List (Addr × Obj)} {t : L2.St} {H : Hp} {s s0 : Shared} {pins0 : List (Addr × Obj)} {t0 : L2.St} {H0 : Hp} {a b : Addr} {o u : Obj} (I0 : Inv X pins0 t0 H0 s0) (I : Inv X pins t H s) (ha : s0.heap.objs.size ≤ a) (hb : s0.heap.objs.size ≤ b)
    (ea : s.heap.get? a = some o) (eb : s.heap.get? b = some u) (na : H a = none) (nb : H b = none) (da : ∀ v, o.data ≠ .cell v) (db : ∀ v, u.data ≠ .cell v) : Inv X ((a, o) :: (b, u) :: pins) t H s :=
  I.pins_of fun p hp => by
    rcases List.mem_cons.mp hp with rfl | hp
    · exact ⟨ea, na, Nat.ne_of_gt (Nat.lt_of_lt_of_le I0.lt ha), I0.nofs ha, da⟩
    · rcases List.mem_cons.mp hp with rfl | hp
      · exact ⟨eb, nb, Nat.ne_of_gt (Nat.lt_of_lt_of_le I0.lt hb), I0.nofs hb, db⟩
      · exact I.pin p (List.mem_append_right _ hp)
/-- a record of ours has turned -/
theorem Inv_turn {X : Cx} {pins : List (Addr × Obj)} {t : L2.St} {H : Hp} {s s0 : Shared} {t0 : L2.St} {H0 : Hp} {a : Addr} {h' : Heap} {t' : Nat} (I0 : Inv X pins t0 H0 s0) (I : Inv X pins t H s) (ha : s0.heap.objs.size ≤ a) (na : H a = none)
    (k : ∀ b o, b ≠ a → s.heap.get? b = some o → h'.get? b = some o) : Inv X pins t H { s with heap := h', toks := t' } := by
  refine I.turned k na (Nat.ne_of_gt (Nat.lt_of_lt_of_le I0.lt ha)) (.inr (Nat.le_trans I0.sz ha)) (fun x c e z => ?_) fun p hp z => ?_
  · obtain ⟨v, o, ho, _⟩ := I0.cell x c e
    exact absurd z (Nat.ne_of_lt (Nat.lt_of_lt_of_le (Heap.lt_size ho) ha))
  · exact absurd z (Nat.ne_of_lt (Nat.lt_of_lt_of_le (Heap.lt_size (I0.pin p hp).1) ha))
section
variable {X : Cx} {pins : List (Addr × Obj)} {t : L2.St} {w : Wd} {s : Shared} {Q : VK} {EE : XK} {f : DF} {d : D} {ds : List D} {xs : List V} {so : Sto} {q q0 g p : Addr} {kk : Nat}
theorem sort_run (I : Inv X pins t w.H s) (st : StR X.K w so) (rd : Rep X.K w (.ref q0) d) (zq : w.Z q) (hq : w.H q = some (.met g q0)) (F : FnD X.prog X.w X.K X.mg X.base kk g f) (hr : Rm (kk + 2) X.A) (hs : SqL X.K w.H p xs) (rs : Reps X.K w xs ds)
    (hp : Post X.K (Rep X.K) w EE Q (match keysF f d ds [] so with
      | .ok kd s' => .ok (.lst (outK kd ds)) s'
      | _ => .bad)) : wpAny (model X.prog X.w) X.A (call (.builtin "sorted") [.ref p] [(Str.ofString "key", .ref q)]) (EP X pins t Q) X.xe s := by
  cases ek : keysF f d ds [] so with
  | bad => rw [ek] at hp; exact hp.elim
  | exc C fs s' => rw [ek] at hp; exact hp.elim
  | ok kd s' =>
  rw [ek] at hp
  dsimp only at hp
  have hkl : kd.length = ds.length := by
    have := keysF_len ek
    rw [this]
    simp
  obtain ⟨its, rv, hl, hz⟩ := I.list hs
  have hxl := rv.length
  have hdl := rs.length
  refine SkJ.sorted (a := s.heap.objs.size + 1) (vs := its) (kz := kd.map kP) (b := false) (fun kS i ks s1 => s.heap.objs.size ≤ kS ∧ kS ≠ s.heap.objs.size + 1 ∧ ∃ w1 so1 kd1 kvs, Inv X pins t w1.H s1 ∧ w1.H (s.heap.objs.size + 1) = none ∧ w1.H kS = none ∧ Ext w w1 ∧ StR X.K w1 so1 ∧ kd1.length = i ∧ Vals kvs ks ∧ Reps X.K w1 kvs (kd1.map kD) ∧ keysF f d (ds.drop i) kd1 so1 = .ok kd s')
    rfl hl.isList (by rw [List.length_map]; omega) (by omega) (PySem.W.AllAlike.of fun b b' => ?_) (PySem.W.Sortable.tuples fun b => ⟨_, _, rfl⟩) (fun k hk => ?_) (ksk_s1 _ _) (fun x => ksk_l1 _ _) (fun x => ksk_t1 _ _) ?j0 ?jset ?turn ?jend ?fin
  · show PySem.W.alike (kP b) (kP b') = true
    unfold kP
    simp [PySem.W.alike, PySem.W.alikeAll]
  · obtain ⟨b, hb, rfl⟩ := List.mem_map.mp hk
    have := hr.rm.un
    have e : (kP b).depth = 1 := by
      unfold kP
      simp [PyData.depth, PyData.depthAll]
    rw [e]
    omega
  case j0 =>
    intro kS h' k h1 h2
    exact ⟨h1, h2, w, so, [], [], I.kept (t' := s.toks) k, I.hok.fresh (Nat.le_succ _), I.hok.fresh h1, Ext.refl w, st, rfl, .nil, .nil, ek⟩
  case jset =>
    rintro kS i ks s1 h' ⟨h1, h2, w1, so1, kd1, kvs, I1, n1, n2, e1, st1, hi, rv1, rs1, er⟩ _ _ k
    exact ⟨h1, h2, w1, so1, kd1, kvs, Inv_turn (t' := s1.toks) I I1 h1 n2 k, n1, n2, e1, st1, hi, rv1, rs1, er⟩
  case turn =>
    rintro kS e1 i v k ks s1 kA e hv hk ⟨h1, h2, w1, so1, kd1, kvs, I1, n1, n2, x1, st1, hi, rv1, rs1, er⟩ ok1 ok2
    have I2 := Inv_pin2 I I1 h1 (Nat.le_succ _) ok1 ok2 n2 n1 (fun _ z => by cases z) (fun _ z => by cases z)
    have hi' : i < ds.length := by
      have := (List.getElem?_eq_some_iff.mp hv).1
      omega
    rw [List.drop_eq_getElem_cons hi'] at er
    obtain ⟨c, z, so2, ec, er⟩ := keysF_inv er
    obtain ⟨xv, hx1, hx2⟩ := (rs.ext x1).get (List.getElem?_eq_getElem hi')
    obtain ⟨v', hv1, hv2⟩ := rv.get hx1
    rw [hv] at hv1
    cases hv1
    have hm : w1.H q = some (.met g q0) := (x1.H q zq).trans hq
    refine wpAny_call (PySem.W.method_call (I1.hok q _ hm) (codeAny_mono (F X.A.in1.in1 X.stack s1 w1.H [.ref q0, v] [.ref q0, xv] (fun u H2 => ∃ w2, w2.H = H2 ∧ Ext w1 w2 ∧ StR X.K w2 so2 ∧ Rep X.K w2 u (kD (c, z))) (fun _ _ _ => False) hr.in1.in1 I2.env0.in1.in1 (.cons rfl (.cons hv2 .nil))
      ⟨[d, ds[i]], so1, w1, rfl, .cons (rd.ext x1) (.cons hx2 .nil), st1, by rw [ec]; exact fun x w' e' st' r' => ⟨w', rfl, e', st', r'⟩⟩) fun zz s2 hz => ?_))
    cases zz with
    | error er =>
      obtain ⟨_, _, _, _, _, _, _, _, _, _, _, _, z⟩ := hz
      exact z.elim
    | ok fl =>
      cases fl with
      | ret u =>
        obtain ⟨xu, H2, I3, ru, w2, rfl, x2, st2, r2⟩ := I2.after hz
        refine ⟨⟨h1, h2, w2, so2, kd1 ++ [(c, z)], kvs ++ [xu], ?_, (I3.pin (_, _) (List.mem_append_right _ (List.mem_cons_of_mem _ List.mem_cons_self))).2.1, (I3.pin (_, _) (List.mem_append_right _ List.mem_cons_self)).2.1, x1.trans x2, st2, by rw [List.length_append, hi]; rfl, rv1.append (.cons ru .nil), ?_, er⟩,
          (I3.pin (_, _) (List.mem_append_right _ List.mem_cons_self)).1, (I3.pin (_, _) (List.mem_append_right _ (List.mem_cons_of_mem _ List.mem_cons_self))).1⟩
        · exact I3.pins_of fun p hp => I3.pin p (List.mem_append_right _ (List.mem_cons_of_mem _ (List.mem_cons_of_mem _ hp)))
        · rw [List.map_append]
          exact (rs1.ext x2).append (.cons r2 .nil)
      | _ => exact hz.elim
  case jend =>
    rintro kS ks s1 ⟨h1, h2, w1, so1, kd1, kvs, I1, n1, n2, x1, st1, hi, rv1, rs1, er⟩
    rw [List.drop_eq_nil_of_le (by omega)] at er
    rw [keysF] at er
    cases er
    exact keys_read I1 rs1 rv1
  case fin =>
    rintro kS ks s1 h' tk out c kA e e1 ⟨h1, h2, w1, so1, kd1, kvs, I1, n1, n2, x1, st1, hi, rv1, rs1, er⟩ ok1 ok2 kp ho hko
    rw [List.drop_eq_nil_of_le (by omega)] at er
    rw [keysF] at er
    cases er
    obtain ⟨hm, m1, m2⟩ := restrict s1.heap fun b => decide (b ≠ kS)
    obtain ⟨G, g1, g2⟩ := restrict h' fun b => decide (b ≠ s.heap.objs.size + 1)
    have J1 : Inv X pins t w1.H { s1 with heap := hm, toks := tk } := Inv_turn I I1 h1 n2 fun b o hb ho => by
      rw [m1 b (decide_eq_true hb)]
      exact ho
    have J2 : Inv X pins t w1.H { s1 with heap := G, toks := tk } := Inv_turn (s := { s1 with heap := hm, toks := tk }) I J1 (Nat.le_succ _) n1 fun b o hb ho => by
      by_cases hbk : b = kS
      · subst hbk
        have z := m2 b (decide_eq_false fun z => z rfl)
        rw [z] at ho
        cases ho
      · rw [m1 b (decide_eq_true hbk)] at ho
        rw [g1 b (decide_eq_true hb)]
        exact kp b o hb hbk ho
    have hkl2 : kd.length = its.length := hi
    obtain ⟨bs, ebs⟩ : ∃ bs : List (KP × (V × D)), bs = kd.zip (xs.zip ds) := ⟨_, rfl⟩
    have ek1 : bs.map (fun b => kP b.1) = kd.map kP := by
      rw [ebs, show (fun b : KP × (V × D) => kP b.1) = kP ∘ Prod.fst from rfl, ← List.map_map, List.map_fst_zip (by rw [List.length_zip]; omega)]
    have ek2 : bs.map (fun b => (b.1, b.2.2)) = kd.zip ds := by
      rw [ebs]
      clear ebs ek1
      have : ∀ (kd : List KP) (xs : List V) (ds : List D), xs.length = ds.length → (kd.zip (xs.zip ds)).map (fun b => (b.1, b.2.2)) = kd.zip ds := by
        intro kd
        induction kd with
        | nil => intro xs ds _; simp
        | cons k kd ih =>
          intro xs ds hl
          cases xs with
          | nil =>
            cases ds with
            | nil => simp
            | cons => simp at hl
          | cons x xs =>
            cases ds with
            | nil => simp at hl
            | cons d ds =>
              have := ih xs ds (by simpa using hl)
              simp [this]
      exact this kd xs ds hdl
    have hR : PySem.W.EachIs (fun u (b : KP × (V × D)) => RelV b.2.1 u) its bs := by
      rw [ebs]
      clear ebs ek1 ek2
      have : ∀ (kd : List KP) (xs : List V) (ds : List D) (its : List Value), kd.length = its.length → Vals xs its → xs.length = ds.length → PySem.W.EachIs (fun u (b : KP × (V × D)) => RelV b.2.1 u) its (kd.zip (xs.zip ds)) := by
        intro kd
        induction kd with
        | nil =>
          intro xs ds its hl rv _
          cases its with
          | nil => exact .nil
          | cons => simp at hl
        | cons k kd ih =>
          intro xs ds its hl rv hd
          cases rv with
          | nil => simp at hl
          | cons r rv =>
            cases ds with
            | nil => simp at hd
            | cons d ds => exact .cons r (ih _ ds _ (by simpa using hl) rv (by simpa using hd))
      exact this kd xs ds its hkl2 rv hdl
    have hB : ∀ b ∈ bs, Rep X.K w1 b.2.1 b.2.2 := by
      intro b hb
      rw [ebs] at hb
      have hb2 := (List.of_mem_zip hb).2
      obtain ⟨i, hi⟩ := List.mem_iff_getElem?.mp hb2
      rw [List.getElem?_zip_eq_some] at hi
      obtain ⟨v, h1, h2⟩ := (rs.ext x1).get hi.2
      rw [hi.1] at h1
      cases h1
      exact h2
    have hko2 := PySem.W.keyedOut_each (rev := false) (bs := bs) (fun b => kP b.1) (by rw [ek1]; exact hko) hR
    have eo : outK kd ds = (bs.mergeSort (PySem.W.dataLe false fun b => kP b.1)).map fun b => b.2.2 := by
      unfold outK
      rw [← ek2, ← List.map_mergeSort (s := PySem.W.dataLe false fun p : KP × D => kP p.1) (r := PySem.W.dataLe false fun b : KP × (V × D) => kP b.1) (fun a _ b _ => rfl), List.map_map]
      rfl
    have hM : ∀ b ∈ bs.mergeSort (PySem.W.dataLe false fun b => kP b.1), Rep X.K w1 b.2.1 b.2.2 := fun b hb => hB b (List.mem_mergeSort.mp hb)
    obtain ⟨ms, ems⟩ : ∃ ms, ms = bs.mergeSort (PySem.W.dataLe false fun b => kP b.1) := ⟨_, rfl⟩
    rw [← ems] at hko2 eo hM
    have hV : Vals (ms.map fun b => b.2.1) out := by
      clear ems eo hM ho hko
      induction hko2 with
      | nil => exact .nil
      | cons h _ ih => exact .cons h ih
    have hRs : Reps X.K w1 (ms.map fun b => b.2.1) (ms.map fun b => b.2.2) := by
      clear ems eo hko2 hV
      induction ms with
      | nil => exact .nil
      | cons m ms ih => exact .cons (hM m List.mem_cons_self) (ih fun b hb => hM b (List.mem_cons_of_mem _ hb))
    have hol : out.length = its.length := hko.length (by rw [List.length_map]; omega)
    refine ⟨.ref _, upd w1.H (s.heap.objs.size + 1) (.lst (ms.map fun b => b.2.1)), ?_, rfl, ?_⟩
    · exact Inv.laidN (s := { s1 with heap := G, toks := tk }) (h' := h') (t' := tk) J2 (fun b o hb => by
        by_cases e : b = s.heap.objs.size + 1
        · subst e
          rw [g2 _ (decide_eq_false fun z => z rfl)] at hb
          cases hb
        · rw [← g1 b (decide_eq_true e)]
          exact hb) (g2 _ (decide_eq_false fun z => z rfl)) n1 ⟨by have := hV.length; omega, out, c, hV, ho⟩
    · rw [eo] at hp
      exact (Post.ext x1 hp).frz st1 (fun p np => rep_newL st1 hRs np) _ n1
end
end Mp
set_option Elab.async false
set_option linter.all false
set_option maxRecDepth 100000
set_option maxHeartbeats 4000000
/-! Mp: sorted(xs, key=o.m): the rule. -/
namespace Mp
open PySem PySem.Spec PyProof.Rows L2
structure MethK (X : Cx) (C m : Str) (mf : DF) : Prop where
  cls : Cls X.K (He.ga X.K C)
  ex : ∃ (g : Addr) (k : Nat), BMeth X.K (He.ga X.K C) m g ∧ FnD X.prog X.w X.K X.mg X.base k g mf ∧ Rm (k + 2) X.A
inductive KTab (X : Cx) (m : Str) : List (Str × DF) → Prop
  | nil : KTab X m []
  | cons {C : Str} {f : DF} {r : List (Str × DF)} : MethK X C m f → KTab X m r → KTab X m ((C, f) :: r)
theorem KTab.get {X : Cx} {m C : Str} {f' : DF} : ∀ {tb : List (Str × DF)}, KTab X m tb → (tb.map fun p => (p.1, sortF p.2)).lookup C = some f' → ∃ f, f' = sortF f ∧ MethK X C m f
  | _, .nil, h => by simp at h
  | _, .cons (C := E) (f := f) h1 r, h => by
    rw [List.map_cons] at h
    by_cases e : C = E
    · subst e
      rw [List.lookup_cons_self] at h
      cases h
      exact ⟨f, rfl, h1⟩
    · have hb : (C == E) = false := by simpa using e
      rw [List.lookup_cons, hb] at h
      exact r.get h
section
variable {X : Cx} {W : WX} {a o : Expr} {pos p apos kpos : Pos} {me mo : DE} {m : Str}
theorem e_sortedK {tb : List (Str × DF)} (tk : Takes X W) (T : KTab X m tb) (hg : Gl X "sorted") (hm : X.mg "sorted" = none) (ha : PA X [a] (tA X.K W (consA me nilA))) (ho : PE X o (tE X.K W mo))
    (hb : attributeBase o m X.env (eval o X.env) = eval o X.env := by rfl)
    (he : backTo pos (starEach [a] X.env) = (false, eval a X.env) :: backTo pos (starEach [] X.env) := by rfl) (hpl : (backTo pos (starEach [a] X.env)).any (·.1) = false := by rfl)
    (hall : (backToKw pos (keywordEach [⟨some "key", .Attribute o m apos, kpos⟩] X.env)).all (·.1.isSome) = true := by rfl) (hnone : (backToKw pos (keywordEach [⟨some "key", .Attribute o m apos, kpos⟩] X.env)).any (·.1.isNone) = false := by rfl) (hks : (backToKw pos (keywordEach [⟨some "key", .Attribute o m apos, kpos⟩] X.env)).filterMap (·.1) = [Str.ofString "key"] := by rfl) :
    PE X (.Call (.Name "sorted" p) [a] [⟨some "key", .Attribute o m apos, kpos⟩] pos) (tE X.K W (sortKM tb m me mo)) := by
  refine ⟨fun pins s t H Q I h => ?_⟩
  obtain ⟨r, so, w, rfl, env, st, hp⟩ := h
  refine wpAny_Call_Name_kw (ld_blt I hg hm (u := .builtin "sorted") rfl ?_ (by decide) (by decide))
  refine PyProof.Rows.callWith_kw (thn (ha.run pos pins s t w.H (fun vs H1 => ∃ so1 w1 x xv, vs = [xv] ∧ w1.H = H1 ∧ Ext w w1 ∧ StR X.K w1 so1 ∧ Rep X.K w1 xv x ∧ Post X.K (Rep X.K) w1 (WE W t) Q (methM (tb.map fun p => (p.1, sortF p.2)) m mo (pureM [x]) r so1)) I ⟨r, so, w, rfl, env, st, ?_⟩) fun us s1 z => ?_) he hpl hall hnone
  · unfold consA bindM
    unfold sortKM bindM at hp
    cases e : me r so with
    | bad => rw [e] at hp; exact hp
    | exc C fs s1 => rw [e] at hp; exact hp
    | ok x so1 =>
      rw [e] at hp
      intro vs w1 e1 st1 r1
      cases r1 with
      | cons r1 rs =>
        cases rs
        exact ⟨so1, w1, x, _, rfl, rfl, e1, st1, r1, Post.ext e1 hp⟩
  · obtain ⟨vs, H1, I1, rv, so1, w1, x, xv, rfl, rfl, e1, st1, r1, hp1⟩ := z
    show wpAny _ _ (evalAll ((do let v ← eval (.Attribute o m apos) X.env; standAt pos; pure v) :: [])) _ _ s1
    refine PySem.wpAny_evalAll_cons (wpAny_bind (attr_of hb (meth_mid I1 ho (env.ext e1) st1 hp1 fun q0 C f' d s2 so2 w2 dx l I2 e2 st2 r2 hh g1 e3 hp2 => ?_)))
    obtain ⟨f, rfl, hc, g, kk, hm', F, hr⟩ := T.get e3
    refine getbound_ok I2 hh hc hm' g1 fun q s3 hq I3 => ?_
    refine wpAny_bind (wpAny_standAt (wpAny_pure ?_))
    refine PySem.wpAny_evalAll_nil ?_
    rw [hks]
    have x3 := Wd.frz_ext st2 (o := .met g q0) hq
    have st3 := Wd.frz_st st2 (o := .met g q0) hq
    have hp3 : Post X.K (Rep X.K) (w2.frz q (.met g q0)) (WE W t) Q (sortF f [d, x] so2) := Post.ext x3 hp2
    unfold sortF at hp3
    dsimp only at hp3
    cases el : lstOf so2 x with
    | none => rw [el] at hp3; exact hp3.elim
    | some ds =>
      rw [el] at hp3
      dsimp only at hp3
      obtain ⟨pp, xs, rfl, hs, rs⟩ := lstOf_ok st3 ((r1.ext e2).ext x3) el
      cases rv with
      | cons hv rv =>
        cases rv
        obtain rfl : _ = Value.ref pp := hv
        exact sort_run (w := w2.frz q (.met g q0)) I3 st3 (r2.ext x3) Wd.frz_z Wd.frz_h F hr hs rs hp3
end
end Mp
set_option Elab.async false
set_option linter.all false
set_option maxRecDepth 100000
set_option maxHeartbeats 4000000
/-! Mp: < of two keys (number, text). -/
namespace Mp
open PySem PySem.Spec PyProof.Rows L2
def ltKP (a b : KP) : Bool := if a.1 == b.1 then (if a.2 == b.2 then false else decide (a.2.cps.toList < b.2.cps.toList)) else decide (a.1 < b.1)
def ltKD (x y : D) (s : Sto) : Res D := match x with
  | .tup [.int a, .str z] => (match y with
    | .tup [.int b, .str u] => .ok (.bl (ltKP (a, z) (b, u))) s
    | _ => .bad)
  | _ => .bad
def rLtKP (K : Frag) : R2 := fun x y H Q => ∃ (a b : Addr) (c : Int) (z : Str) (c' : Int) (z' : Str), x = .ref a ∧ y = .ref b ∧ SqT K H a [.int c, .str z] ∧ SqT K H b [.int c', .str z'] ∧ Q (.bl (ltKP (c, z) (c', z'))) H
section
variable {X : Cx} {W : WX} {a b : Expr} {pos : Pos} {ma mb : DE}
theorem op_ltKP (hu : X.A.units < cLine) : OpR X (compareOp .Lt) (rLtKP X.K) := by
  intro pins s σ H x y v u Q I rx ry h
  obtain ⟨a, b, c, z, c', z', rfl, rfl, ha, hb, q⟩ := h
  cases rx
  cases ry
  obtain ⟨its, r1, p1, _⟩ := I.tuple ha
  obtain ⟨its2, r2, p2, _⟩ := I.tuple hb
  obtain ⟨t1, u1, rfl⟩ := vals_tup2 r1
  obtain ⟨t2, u2, rfl⟩ := vals_tup2 r2
  have R := Ob.RcOp.tuples_lt (A := X.A) (s := s) (e := fun j => if j = 0 then (c == c') else (z == z')) (r := fun j => if j = 0 then decide (c < c') else decide (z.cps.toList < z'.cps.toList)) p1 p2 hu (fun j h1 h2 => by
    match j, h1 with
    | 0, _ => exact SeqAt.EqAt.int_int _ _ _ _
    | 1, _ => exact SeqAt.EqAt.str_str _ _ _ _) (fun j h1 h2 _ => by
    match j, h1 with
    | 0, _ => exact Ob.RcOp.lt_int _ _ _ _
    | 1, _ => exact fun _ _ _ _ h => PyProof.Rows.lt_str h)
  have e : Ob.lexAt (fun j => if j = 0 then (c == c') else (z == z')) (fun j => if j = 0 then decide (c < c') else decide (z.cps.toList < z'.cps.toList)) (decide (2 < 2)) 0 2 = ltKP (c, z) (c', z') := by
    unfold ltKP
    rw [Ob.lexAt_succ, Ob.lexAt_succ, Ob.lexAt_zero]
    simp
  have zz : wpAny (model X.prog X.w) X.A (compareOp .Lt (.ref a) (.ref b)) (EP X pins σ Q) X.xe s := R X.prog X.w X.xe (EP X pins σ Q) ⟨.bl _, H, I, rfl, by
    show Q (.bl (Ob.lexAt _ _ (decide (2 < 2)) 0 2)) H
    rw [e]
    exact q⟩
  exact zz
theorem tup2_of {K : Frag} {w : Wd} {v : V} {c : Int} {z : Str} (r : Rep K w v (.tup [.int c, .str z])) : ∃ a, v = .ref a ∧ SqT K w.H a [.int c, .str z] := by
  cases r with
  | tup h rs =>
    cases rs with
    | cons r1 rs =>
      cases rs with
      | cons r2 rs =>
        cases rs
        cases r1
        cases r2
        exact ⟨_, rfl, h.sq⟩
theorem v_ltKP : VR2 X.K (rLtKP X.K) ltKD := fun w s x y d e Q E st rx ry hp => by
  unfold ltKD at hp
  split at hp
  · split at hp
    · obtain ⟨a, rfl, h1⟩ := tup2_of rx
      obtain ⟨b, rfl, h2⟩ := tup2_of ry
      exact ⟨a, b, _, _, _, _, rfl, rfl, h1, h2, hp.pure st (.bl _)⟩
    · exact hp.elim
  · exact hp.elim
theorem e_ltK (hu : X.A.units + 64 < cLine) (ha : PE X a (tE X.K W ma)) (hb : PE X b (tE X.K W mb)) : PE X (.Compare a [.Lt] [b] pos) (tE X.K W (binM ltKD ma mb)) := e_cmp (op_ltKP (Nat.lt_of_le_of_lt (Nat.le_add_right _ _) hu)) v_ltKP ha hb (nomark _)
end
end Mp
set_option Elab.async false
set_option linter.all false
set_option maxRecDepth 100000
set_option maxHeartbeats 4000000
/-! Mp: list(d.values()), list(d.items()). -/
namespace Mp
open PySem PySem.Spec PyProof.Rows L2 LiI
def tListVals (te : TE) : TE := fun σ H Q => te σ H fun x H1 => ∃ (a : Addr) (kvs : List (Key × V)), x = .ref a ∧ Rd H1 a (.dK kvs) ∧ ∀ p, H1 p = none → Q (.ref p) (upd H1 p (.lst (kvs.map (·.2))))
section
variable {X : Cx} {e : Expr} {te : TE} {p apos cpos pos : Pos}
theorem vals_at {kvs : List (Key × V)} {vs : List (Key × Value)} (r : KV kvs vs) : Vals (kvs.map (·.2)) (vs.map (·.2)) := by
  induction r with
  | nil => exact .nil
  | cons h _ ih => exact .cons h.2 ih
theorem pe_listVals (hc : X.calm = true) (he : PE X e te) (hg : Gl X "list") (hm : X.mg "list" = none) (hv : bootBuiltins "list" = some (.type "list")) (hbase : attributeBase e "values" X.env (eval e X.env) = eval e X.env := by rfl) (hline : (apos.endLine == cpos.line) = true := by rfl)
    (hs : starEach [.Call (.Attribute e "values" apos) [] [] cpos] X.env = (false, eval (.Call (.Attribute e "values" apos) [] [] cpos) X.env) :: starEach [] X.env := by rfl) :
    PE X (.Call (.Name "list" p) [.Call (.Attribute e "values" apos) [] [] cpos] [] pos) (tListVals te) := by
  refine ⟨fun pins s σ H Q I hq => ?_⟩
  refine wpAny_Call_Name_kw (ld_blt I hg hm hv ?_)
  refine PyProof.Rows.callWith_type1 ?_ hs rfl
  rw [hs]
  show wpAny _ _ (spliced ((false, eval (.Call (.Attribute e "values" apos) [] [] cpos) X.env) :: backTo pos (starEach [] X.env))) _ _ s
  refine Calls.spliced_cons ?_
  refine wpAny_Call_method (T := "dict") (id := "dict.values") hbase rfl hline F.plainAttrs_dict F.slot_dict_values F.type_dict_values (thn (he.run pins s σ H _ I hq) fun u s1 ⟨x, H1, I1, rx, d, kvs, ex, hd, q⟩ => ?_)
  subst ex
  obtain rfl : u = Value.ref d := rx
  obtain ⟨z, lo, vs, rel, dd⟩ := dk_rd I1.hok hd
  obtain ⟨ep, hat⟩ := dd.dictAt
  have I2 : Inv X pins σ H1 { s1 with heap := s1.heap.push { cls := .type "dict_values", data := .fields #[.ref d] } } := I1.kept (t' := s1.toks) fun b ob q => Heap.get?_push_of_some _ q
  refine ⟨dd.typeIs, dd.mapOf.noDict, ?_⟩
  show wpAny _ _ (callWith cpos (.builtin "dict.values") [.ref d] [] []) _ X.xe s1
  refine method_meetsIn F.slot_dict_values F.entry_dict_values rfl (PySem.evalArgs_none ⟨rfl, dd.typeIs, F.args_dict_values_1 _, _, meets_dict_values (mixKind X.prog X.w) d lo, ⟨vs, dd⟩, ?_⟩)
  refine Calls.spliced_nil ?_
  refine PySem.W.kdl_call (PySem.W.kdl_values (knd := mixKind X.prog X.w) (kvs := vs) (ep := ep) (d := d) (r := s1.heap.objs.size)) (I1.ok.hd hc) ⟨⟨_, Heap.get?_push_size _ rfl, rfl, rfl⟩, hat.push _⟩ (by rw [← rel.length]; exact z) fun h' tk acc c hk hD hacc => ?_
  have e1 : acc.toList = vs.map (·.2) := PySem.W.kdl_vals_eq acc.toList (by rw [Array.length_toList]; exact hacc.1) fun j v e => hacc.2 j v (by rw [← Array.getElem?_toList]; exact e)
  have hv : Vals (kvs.map (·.2)) acc.toList := by
    rw [e1]
    exact vals_at rel
  exact ⟨.ref _, upd H1 _ (.lst (kvs.map (·.2))), I2.laid (t' := tk) hk (Nat.le_refl _) (show ObjOk X.prog X.w _ _ _ (.lst (kvs.map (·.2))) from ⟨by rw [List.length_map]; exact z, acc.toList, c, hv, by rw [Array.toArray_toList]; exact hD⟩), rfl, q _ (I2.hok.fresh (Nat.le_refl _))⟩
end
/-! the combinators -/
def listValsM (k : Bool) (a : DE) : DE := bindM a fun x => fun _ s => match dctOf s x with
  | some m => newL k (m.map (·.2)) s
  | none => .bad
section
end
theorem reps_vals {K : Frag} {w : Wd} : ∀ {l : List (Key × V)} {m : List (Key × D)}, KVR K w l m → Reps K w (l.map (·.2)) (m.map (·.2))
  | _, _, .nil => .nil
  | _, _, .cons h r => .cons h (reps_vals r)
section
variable {X : Cx} {W : WX} {a : Expr} {p apos cpos pos : Pos} {ma : DE}
theorem e_listVals (k : Bool) (hc : X.calm = true) (hg : Gl X "list") (hm : X.mg "list" = none) (ha : PE X a (tE X.K W ma)) (hbase : attributeBase a "values" X.env (eval a X.env) = eval a X.env := by rfl) (hline : (apos.endLine == cpos.line) = true := by rfl)
    (hs : starEach [.Call (.Attribute a "values" apos) [] [] cpos] X.env = (false, eval (.Call (.Attribute a "values" apos) [] [] cpos) X.env) :: starEach [] X.env := by rfl) :
    PE X (.Call (.Name "list" p) [.Call (.Attribute a "values" apos) [] [] cpos] [] pos) (tE X.K W (listValsM k ma)) :=
  PE.imp (pe_listVals hc ha hg hm (by decide +kernel) hbase hline hs) fun t H Q h => by
    obtain ⟨r, s, w, rfl, env, st, hp⟩ := h
    exact hp.bind env st fun x d s1 w1 e1 st1 r1 hp1 => by
      cases ed : dctOf s1 d with
      | none => rw [ed] at hp1; exact hp1.elim
      | some m =>
        rw [ed] at hp1
        obtain ⟨p0, l0, rfl, hd0, kv⟩ := dctOf_ok st1 r1 ed
        exact ⟨p0, l0, rfl, hd0, hp1.newL st1 (reps_vals kv)⟩
end
end Mp
set_option Elab.async false
set_option linter.all false
set_option maxRecDepth 100000
set_option maxHeartbeats 4000000
/-! Mp: dict(zip(keys, values)) of two lists. -/
namespace L2
open PySem PySem.Spec PyProof.Rows
theorem is_of_rel {P : Program} {w : World} {k : Key} {u : Value} (r : RelV (kV k) u) : (mixKind P w).is k u = true := by
  cases k with
  | inl i => obtain ⟨t, rfl⟩ := r; exact mixKind_int P w i t
  | inr x => obtain ⟨t, rfl⟩ := r; exact mixKind_str P w x t
def tDz (K : PySem.W.Frag) (ta : TA) : TE := fun σ H Q => ta σ H fun vs H1 => ∃ (a b : Addr) (kvs : List (Key × V)), vs = [.ref a, .ref b] ∧ SqL K H1 a (kvs.map fun p => kV p.1) ∧ SqL K H1 b (kvs.map (·.2)) ∧ ∀ p, H1 p = none → Q (.ref p) (upd H1 p (.dK (mergeK [] kvs)))
theorem pe_dictZip {X : Cx} {e e2 : Expr} {ta : TA} {p pz pos posz : Pos} (hc : X.calm = true) (hg : Gl X "dict") (hm : X.mg "dict" = none) (hgz : Gl X "zip") (hmz : X.mg "zip" = none) (ha : PA X [e, e2] ta)
    (na : starEach [.Call (.Name "zip" pz) [e, e2] [] posz] X.env = (false, eval (.Call (.Name "zip" pz) [e, e2] [] posz) X.env) :: starEach [] X.env := by rfl)
    (hs : starEach [e, e2] X.env = (false, eval e X.env) :: starEach [e2] X.env := by rfl) (hpl : (backTo posz (starEach [e2] X.env)).any (·.1) = false := by rfl) :
    PE X (.Call (.Name "dict" p) [.Call (.Name "zip" pz) [e, e2] [] posz] [] pos) (tDz X.K ta) := by
  refine ⟨fun pins s σ H Q I h => ?_⟩
  have hz : wpAny (model X.prog X.w) X.A (eval (.Call (.Name "zip" pz) [e, e2] [] posz) X.env) (fun v s1 => ∃ (z TI TO i1 i2 a b : Addr) (kvs : List (Key × V)) (its its2 : List Value) (H1 : Hp), v = .ref z ∧ ZipApart z TI TO i1 i2 a b ∧ Inv X pins σ H1 s1 ∧ (∀ c ∈ [z, TO, i1, i2], FpOk X pins H1 c) ∧
      (IsZip s1.heap z TI TO .none ∧ IsPair s1.heap TI (.ref i1) (.ref i2) ∧ (∃ a b, IsPair s1.heap TO a b) ∧ s1.heap.IsListIter i1 a 0 ∧ s1.heap.IsListIter i2 b 0 ∧ s1.heap.IsList a its.toArray ∧ s1.heap.IsList b its2.toArray) ∧ Vals (kvs.map fun p => kV p.1) its ∧ Vals (kvs.map (·.2)) its2 ∧ its.length ≤ sizeLine ∧
      ∀ p, H1 p = none → Q (.ref p) (upd H1 p (.dK (mergeK [] kvs)))) X.xe s := by
    refine Call_ (ld_blt I hgz hmz PyProof.Rows.boot_zip (PyProof.Rows.callWith_type1 (thn (ha.run posz pins s σ H _ I h) fun us s1 ⟨vs, H1, I1, r1, q1⟩ => ?_) hs hpl))
    obtain ⟨a, b, kvs, ex, hqx, hqy, q⟩ := q1
    subst ex
    cases r1 with
    | cons r rr =>
      cases rr with
      | cons r' rr =>
        cases rr
        cases r
        cases r'
        obtain ⟨its, rv, p1, hl1⟩ := I1.list hqx
        obtain ⟨its2, rv2, p2, _⟩ := I1.list hqy
        refine call_zip_2 p1.isList p2.isList fun h' hz hTI hTO h1 h2 hsz hk => ?_
        have I2 : Inv X pins σ H1 { s1 with heap := h' } := I1.kept (t' := s1.toks) hk
        refine ⟨_, _, _, _, _, a, b, kvs, its, its2, H1, rfl, PySem.W.ktu_apart s1.heap.objs.size a b p1.lt p2.lt, I2, fun c hcm => ?_, ⟨hz, hTI, ⟨_, _, hTO⟩, h1, h2, p1.isList.at fun o e => hk _ o e, p2.isList.at fun o e => hk _ o e⟩, rv, rv2, ?_, q⟩
        · have e' : c = s1.heap.objs.size + 4 ∨ c = s1.heap.objs.size + 3 ∨ c = s1.heap.objs.size ∨ c = s1.heap.objs.size + 1 := by simpa using hcm
          have hle : s1.heap.objs.size ≤ c := by
            rcases e' with z | z | z | z
            · rw [z]; exact Nat.le_add_right _ _
            · rw [z]; exact Nat.le_add_right _ _
            · rw [z]; exact Nat.le_refl _
            · rw [z]; exact Nat.le_add_right _ _
          exact I1.fpOk hle (I1.hok.fresh hle)
        · rw [← rv.length]; exact hl1
  refine Call_ (ld_blt I hg hm boot_dict (PyProof.Rows.callWith_type1 (args_cons (thn hz fun v s1 ⟨z, TI, TO, i1, i2, a, b, kvs, its, its2, H1, ev, D, I1, hf, ok, rv, rv2, hlz, q⟩ => args_nil ?_) na) na))
  subst ev
  have l1 : its.length = kvs.length := by rw [← rv.length, List.length_map]
  have l2 : its2.length = kvs.length := by rw [← rv2.length, List.length_map]
  have hkv : ∀ (l : List (Key × V)) (m : List Value), Vals (l.map (·.2)) m → KV l ((l.map (·.1)).zip m) := by
    intro l
    induction l with
    | nil => intro m r; cases r; exact .nil
    | cons x l ih =>
      intro m r
      cases r with
      | cons r1 r2 => exact .cons ⟨rfl, r1⟩ (ih _ r2)
  refine PySem.call_dict_pairs (knd := mixKind X.prog X.w) (kvs := (kvs.map (·.1)).zip its2) (PairArg.zip z TI TO i1 i2 a b D its.toArray its2.toArray) (I1.ok.hd hc) ok ⟨by simp [l1, l2], fun i key v hr => ?_⟩ (by simp; omega) fun h' tk hd' hk => ?_
  · obtain ⟨e1, e2⟩ := hr
    have e1 : its[i]? = some key := by simpa using e1
    have e2 : its2[i]? = some v := by simpa using e2
    have hi : i < kvs.length := by rw [← l1]; exact (List.getElem?_eq_some_iff.mp e1).1
    have ek : (kvs.map fun p => kV p.1)[i]? = some (kV (kvs[i]).1) := by rw [List.getElem?_map, List.getElem?_eq_getElem hi]; rfl
    obtain ⟨u, hu, ru⟩ := rv.get ek
    rw [e1] at hu
    cases hu
    refine ⟨(kvs[i]).1, ?_, is_of_rel ru⟩
    rw [List.getElem?_zip_eq_some]
    exact ⟨by rw [List.getElem?_map, List.getElem?_eq_getElem hi]; rfl, e2⟩
  · have hmm : (s1.heap.objs.size == sysModules) = false := beq_eq_false_iff_ne.mpr (Nat.ne_of_gt I1.big)
    have rel := hkv kvs its2 rv2
    have hlen : (mergeK [] kvs).length ≤ sizeLine := by
      refine Nat.le_trans (length_mergeK kvs []) ?_
      rw [List.length_nil, Nat.zero_add, ← l1]
      exact hlz
    exact ⟨.ref s1.heap.objs.size, upd H1 s1.heap.objs.size (.dK (mergeK [] kvs)), I1.turnedNew (t' := tk) (ch := [z, TO, i1, i2]) (fun c o hb e => hk c o hb e) hf (Nat.le_refl _)
      (show ObjOk X.prog X.w _ _ _ (.dK (mergeK [] kvs)) from ⟨hlen, hmm, merged [] ((kvs.map (·.1)).zip its2), KV.merge rel .nil, hd'⟩), rfl, q _ (I1.hok.fresh (Nat.le_refl _))⟩
end L2
namespace Mp
open PySem PySem.Spec PyProof.Rows L2
def keysZ : List D → Option (List Key)
  | [] => some []
  | d :: l => (match keyD d with
    | some k => (keysZ l).map fun r => k :: r
    | none => none)
def dictZD (k : Bool) (ds : List D) (s : Sto) : Res D := match ds with
  | [x, y] => (match frzL x, frzL y with
    | some (true, l), some (true, m) => (match keysZ l with
      | some ks => if ks.length = m.length then newDc k (mergeA [] (ks.zip m)) s else .bad
      | none => .bad)
    | _, _ => .bad)
  | _ => .bad
section
variable {K : Frag} {w : Wd}
theorem keysZ_ok : ∀ {l : List D} {vs : List V} {ks : List Key}, Reps K w vs l → keysZ l = some ks → vs = ks.map kV
  | [], _, ks, r, h => by
    cases r
    cases h
    rfl
  | d :: l, _, ks, r, h => by
    cases r with
    | @cons v _ vs _ r1 r2 =>
      unfold keysZ at h
      cases ek : keyD d with
      | none => rw [ek] at h; cases h
      | some q =>
        rw [ek] at h
        dsimp only at h
        obtain ⟨m, hm, rfl⟩ := Option.map_eq_some_iff.mp h
        have e := keyD_ok r1 ek
        subst e
        rw [keysZ_ok r2 hm]
        rfl
theorem kvr_zipK : ∀ {ks : List Key} {vs : List V} {ds : List D}, Reps K w vs ds → KVR K w (ks.zip vs) (ks.zip ds)
  | [], _, _, _ => .nil
  | _ :: _, _, _, .nil => .nil
  | _ :: _, _, _, .cons h r => .cons h (kvr_zipK r)
end
section
variable {X : Cx} {W : WX} {a b : Expr} {pos posz p pz : Pos} {mr : DM (List D)}
theorem e_dictZ (k : Bool) (hc : X.calm = true) (hg : Gl X "dict") (hm : X.mg "dict" = none) (hgz : Gl X "zip") (hmz : X.mg "zip" = none) (ha : PA X [a, b] (tA X.K W mr))
    (na : starEach [.Call (.Name "zip" pz) [a, b] [] posz] X.env = (false, eval (.Call (.Name "zip" pz) [a, b] [] posz) X.env) :: starEach [] X.env := by rfl)
    (hs : starEach [a, b] X.env = (false, eval a X.env) :: starEach [b] X.env := by rfl) (hpl : (backTo posz (starEach [b] X.env)).any (·.1) = false := by rfl) :
    PE X (.Call (.Name "dict" p) [.Call (.Name "zip" pz) [a, b] [] posz] [] pos) (tE X.K W (argM (dictZD k) mr)) :=
  PE.imp (pe_frz (pe_dictZip hc hg hm hgz hmz ha na hs hpl)) fun t H Q h => by
    obtain ⟨r, s, w, rfl, env, st, hp⟩ := h
    exact hp.bind env st fun vs ds s1 w1 e1 st1 r1 hp1 => by
      unfold dictZD at hp1
      split at hp1
      · cases r1 with
        | cons q1 r2 =>
          cases r2 with
          | cons q2 r3 =>
            cases r3
            split at hp1
            · rename_i h1 h2
              split at hp1
              · rename_i ks ek
                split at hp1
                · rename_i hl
                  obtain ⟨a1, v1, rfl, rs1, k1⟩ := frzL_ok q1 h1
                  obtain ⟨a2, v2, rfl, rs2, k2⟩ := frzL_ok q2 h2
                  have e1 := keysZ_ok rs1 ek
                  have l2 := rs2.length
                  have hlv : ks.length = v2.length := by omega
                  refine ⟨a1, a2, ks.zip v2, rfl, ?_, ?_, fun q nq => newDc_post hp1 st1 (KVR.merge .nil (kvr_zipK rs2)) nq⟩
                  · have e : ((ks.zip v2).map fun p => kV p.1) = v1 := by
                      rw [e1, show (fun p : Key × V => kV p.1) = kV ∘ Prod.fst from rfl, ← List.map_map, List.map_fst_zip (by omega)]
                    rw [e]
                    exact LAt.sq k1
                  · have e : ((ks.zip v2).map (·.2)) = v2 := List.map_snd_zip (by omega)
                    rw [e]
                    exact LAt.sq k2
                · exact hp1.elim
              · exact hp1.elim
            · exact hp1.elim
      · exact hp1.elim
end
end Mp
set_option Elab.async false
set_option linter.all false
set_option maxRecDepth 100000
set_option maxHeartbeats 0
namespace G
open PySem PySem.Spec PyProof.Rows L2 Mp
abbrev PP : Program := (PySem.Challenge.rw_firstanswers_k15_whole_orders_of_other_l).prog
def top (i : Nat) : Stmt := PySem.Challenge.pw_firstanswers_k15_whole_orders_of_other_l.main.body.getD i (.Pass ⟨0, 0, 0, 0⟩)
theorem takes_blk {X : Cx} : Takes X W0 := fun u s' ⟨_, _, _, _, _, _, _, _, _, _, _, _, _, _, _, _, z⟩ => z.elim
theorem raise_row1 {T : FuncData → Prop} {C : Prop} (h : ∃ fd, T fd) (k : ∀ fd, T fd → C) : C := h.elim k
abbrev s_InvalidCost___init__ : Stmt := inClass (top 3) 0
def d_InvalidCost___init__ : DefM := ⟨fun K => He.ma K (He.ga K "InvalidCost") "__init__", "__init__", "InvalidCost.__init__", defArgs s_InvalidCost___init__, defBody s_InvalidCost___init__, defScope s_InvalidCost___init__, [], none⟩
abbrev s_InvalidLetters___init__ : Stmt := inClass (top 2) 0
def d_InvalidLetters___init__ : DefM := ⟨fun K => He.ma K (He.ga K "InvalidLetters") "__init__", "__init__", "InvalidLetters.__init__", defArgs s_InvalidLetters___init__, defBody s_InvalidLetters___init__, defScope s_InvalidLetters___init__, [], none⟩
abbrev s_InvalidWord___init__ : Stmt := inClass (top 4) 0
def d_InvalidWord___init__ : DefM := ⟨fun K => He.ma K (He.ga K "InvalidWord") "__init__", "__init__", "InvalidWord.__init__", defArgs s_InvalidWord___init__, defBody s_InvalidWord___init__, defScope s_InvalidWord___init__, [], none⟩
abbrev s_are_letters : Stmt := top 13
def d_are_letters : DefM := ⟨fun K => He.ga K "are_letters", "are_letters", "are_letters", defArgs s_are_letters, defBody s_are_letters, defScope s_are_letters, [], none⟩
abbrev s_is_integer : Stmt := top 10
def d_is_integer : DefM := ⟨fun K => He.ga K "is_integer", "is_integer", "is_integer", defArgs s_is_integer, defBody s_is_integer, defScope s_is_integer, [], none⟩
abbrev s_is_between : Stmt := top 11
def d_is_between : DefM := ⟨fun K => He.ga K "is_between", "is_between", "is_between", defArgs s_is_between, defBody s_is_between, defScope s_is_between, [], none⟩
abbrev s_is_letter : Stmt := top 12
def d_is_letter : DefM := ⟨fun K => He.ga K "is_letter", "is_letter", "is_letter", defArgs s_is_letter, defBody s_is_letter, defScope s_is_letter, [], none⟩
abbrev s_Order___init__ : Stmt := inClass (top 17) 0
def d_Order___init__ : DefM := ⟨fun K => He.ma K (He.ga K "Order") "__init__", "__init__", "Order.__init__", defArgs s_Order___init__, defBody s_Order___init__, defScope s_Order___init__, [], none⟩
abbrev s_Order_cost_of : Stmt := inClass (top 17) 7
def d_Order_cost_of : DefM := ⟨fun K => He.ma K (He.ga K "Order") "cost_of", "cost_of", "Order.cost_of", defArgs s_Order_cost_of, defBody s_Order_cost_of, defScope s_Order_cost_of, [], none⟩
abbrev s_Order_count_next : Stmt := inClass (top 17) 10
def d_Order_count_next : DefM := ⟨fun K => He.ma K (He.ga K "Order") "count_next", "count_next", "Order.count_next", defArgs s_Order_count_next, defBody s_Order_count_next, defScope s_Order_count_next, [], none⟩
abbrev s_Order_counts_to : Stmt := inClass (top 17) 11
def d_Order_counts_to : DefM := ⟨fun K => He.ma K (He.ga K "Order") "counts_to", "counts_to", "Order.counts_to", defArgs s_Order_counts_to, defBody s_Order_counts_to, defScope s_Order_counts_to, [], none⟩
abbrev s_Order_is_possible : Stmt := inClass (top 17) 13
def d_Order_is_possible : DefM := ⟨fun K => He.ma K (He.ga K "Order") "is_possible", "is_possible", "Order.is_possible", defArgs s_Order_is_possible, defBody s_Order_is_possible, defScope s_Order_is_possible, [], none⟩
abbrev s_Order_filled : Stmt := inClass (top 17) 12
def d_Order_filled : DefM := ⟨fun K => He.ma K (He.ga K "Order") "filled", "filled", "Order.filled", defArgs s_Order_filled, defBody s_Order_filled, defScope s_Order_filled, [], none⟩
abbrev s_Order_neighbor : Stmt := inClass (top 17) 14
def d_Order_neighbor : DefM := ⟨fun K => He.ma K (He.ga K "Order") "neighbor", "neighbor", "Order.neighbor", defArgs s_Order_neighbor, defBody s_Order_neighbor, defScope s_Order_neighbor, [], none⟩
abbrev s_Order_follower : Stmt := inClass (top 17) 15
def d_Order_follower : DefM := ⟨fun K => He.ma K (He.ga K "Order") "follower", "follower", "Order.follower", defArgs s_Order_follower, defBody s_Order_follower, defScope s_Order_follower, [], none⟩
abbrev s_is_word : Stmt := top 14
def d_is_word : DefM := ⟨fun K => He.ga K "is_word", "is_word", "is_word", defArgs s_is_word, defBody s_is_word, defScope s_is_word, [.int 160], none⟩
abbrev s_need_word : Stmt := top 15
def d_need_word : DefM := ⟨fun K => He.ga K "need_word", "need_word", "need_word", defArgs s_need_word, defBody s_need_word, defScope s_need_word, [.int 160], none⟩
abbrev s_Order_after : Stmt := inClass (top 17) 23
def d_Order_after : DefM := ⟨fun K => He.ma K (He.ga K "Order") "after", "after", "Order.after", defArgs s_Order_after, defBody s_Order_after, defScope s_Order_after, [], none⟩
abbrev s_Order_key : Stmt := inClass (top 17) 8
def d_Order_key : DefM := ⟨fun K => He.ma K (He.ga K "Order") "key", "key", "Order.key", defArgs s_Order_key, defBody s_Order_key, defScope s_Order_key, [], none⟩
abbrev s_Order_below : Stmt := inClass (top 17) 9
def d_Order_below : DefM := ⟨fun K => He.ma K (He.ga K "Order") "below", "below", "Order.below", defArgs s_Order_below, defBody s_Order_below, defScope s_Order_below, [], none⟩
abbrev s_Order_is_before : Stmt := inClass (top 17) 19
def d_Order_is_before : DefM := ⟨fun K => He.ma K (He.ga K "Order") "is_before", "is_before", "Order.is_before", defArgs s_Order_is_before, defBody s_Order_is_before, defScope s_Order_is_before, [], none⟩
abbrev s_Order_latest : Stmt := inClass (top 17) 6
def d_Order_latest : DefM := ⟨propG "Order" "latest", "latest", "Order.latest", defArgs s_Order_latest, defBody s_Order_latest, defScope s_Order_latest, [], none⟩
abbrev s_Order_place_of : Stmt := inClass (top 17) 17
def d_Order_place_of : DefM := ⟨fun K => He.ma K (He.ga K "Order") "place_of", "place_of", "Order.place_of", defArgs s_Order_place_of, defBody s_Order_place_of, defScope s_Order_place_of, [], none⟩
abbrev s_Order_number_of : Stmt := inClass (top 17) 18
def d_Order_number_of : DefM := ⟨fun K => He.ma K (He.ga K "Order") "number_of", "number_of", "Order.number_of", defArgs s_Order_number_of, defBody s_Order_number_of, defScope s_Order_number_of, [], none⟩
abbrev s_Order_of_costs : Stmt := inClass (top 17) 3
def d_Order_of_costs : DefM := ⟨fun K => He5.wf K (He.ga K "Order") "classmethod" "of_costs", "of_costs", "Order.of_costs", defArgs s_Order_of_costs, defBody s_Order_of_costs, defScope s_Order_of_costs, [], none⟩
abbrev s_Order_sorted_words : Stmt := inClass (top 17) 20
def d_Order_sorted_words : DefM := ⟨fun K => He.ma K (He.ga K "Order") "sorted_words", "sorted_words", "Order.sorted_words", defArgs s_Order_sorted_words, defBody s_Order_sorted_words, defScope s_Order_sorted_words, [], none⟩
abbrev s__law_draw : Stmt := top 20
def d__law_draw : DefM := ⟨fun K => He.ga K "_law_draw", "_law_draw", "_law_draw", defArgs s__law_draw, defBody s__law_draw, defScope s__law_draw, [], none⟩
abbrev s__law_pick : Stmt := top 21
def d__law_pick : DefM := ⟨fun K => He.ga K "_law_pick", "_law_pick", "_law_pick", defArgs s__law_pick, defBody s__law_pick, defScope s__law_pick, [], none⟩
abbrev s__law_costs : Stmt := top 24
def d__law_costs : DefM := ⟨fun K => He.ga K "_law_costs", "_law_costs", "_law_costs", defArgs s__law_costs, defBody s__law_costs, defScope s__law_costs, [], none⟩
abbrev s__law_letter_more : Stmt := top 29
def d__law_letter_more : DefM := ⟨fun K => He.ga K "_law_letter_more", "_law_letter_more", "_law_letter_more", defArgs s__law_letter_more, defBody s__law_letter_more, defScope s__law_letter_more, [], none⟩
abbrev s__law_shuffled : Stmt := top 22
def d__law_shuffled : DefM := ⟨fun K => He.ga K "_law_shuffled", "_law_shuffled", "_law_shuffled", defArgs s__law_shuffled, defBody s__law_shuffled, defScope s__law_shuffled, [], none⟩
abbrev s__law_letters : Stmt := top 23
def d__law_letters : DefM := ⟨fun K => He.ga K "_law_letters", "_law_letters", "_law_letters", defArgs s__law_letters, defBody s__law_letters, defScope s__law_letters, [], none⟩
abbrev s__law_made_order : Stmt := top 26
def d__law_made_order : DefM := ⟨fun K => He.ga K "_law_made_order", "_law_made_order", "_law_made_order", defArgs s__law_made_order, defBody s__law_made_order, defScope s__law_made_order, [], none⟩
abbrev s__law_other_letters : Stmt := top 28
def d__law_other_letters : DefM := ⟨fun K => He.ga K "_law_other_letters", "_law_other_letters", "_law_other_letters", defArgs s__law_other_letters, defBody s__law_other_letters, defScope s__law_other_letters, [], none⟩
abbrev s__law_pen : Stmt := top 19
def d__law_pen : DefM := ⟨fun K => He.ga K "_law_pen", "_law_pen", "_law_pen", defArgs s__law_pen, defBody s__law_pen, defScope s__law_pen, [], none⟩
abbrev s__law_turned : Stmt := top 27
def d__law_turned : DefM := ⟨fun K => He.ga K "_law_turned", "_law_turned", "_law_turned", defArgs s__law_turned, defBody s__law_turned, defScope s__law_turned, [], none⟩
abbrev s__law_word : Stmt := top 25
def d__law_word : DefM := ⟨fun K => He.ga K "_law_word", "_law_word", "_law_word", defArgs s__law_word, defBody s__law_word, defScope s__law_word, [], none⟩
abbrev s_law : Stmt := top 30
def d_law : DefM := ⟨fun K => He.ga K "law", "law", "law", defArgs s_law, defBody s_law, defScope s_law, [], none⟩
def it0 : Isi := ⟨["Order"], [(("Order", "Order"), true)], ["Order"], [(("Order", "int"), false), (("Order", "bool"), false), (("Order", "str"), false), (("Order", "tuple"), false), (("Order", "list"), false), (("Order", "dict"), false)]⟩
def fn0 : List (DefM) := [d_InvalidCost___init__, d_InvalidLetters___init__, d_InvalidWord___init__, d_are_letters, d_is_integer, d_is_between, d_is_letter, d_Order___init__, d_Order_cost_of, d_Order_count_next, d_Order_counts_to, d_Order_is_possible, d_Order_filled, d_Order_neighbor, d_Order_follower, d_is_word, d_need_word, d_Order_after, d_Order_key, d_Order_below, d_Order_is_before, d_Order_latest, d_Order_place_of, d_Order_number_of, d_Order_of_costs]
def fn1 : List (DefM) := [d_Order_sorted_words, d__law_draw, d__law_pick, d__law_costs, d__law_letter_more, d__law_shuffled, d__law_letters, d__law_made_order, d__law_other_letters, d__law_pen, d__law_turned, d__law_word, d_law]
def fn : List (DefM) := fn0 ++ fn1
def fb0 : List (Frag → Bool) := [ckF (.free "ValueError"), ckExc "InvalidCost" "ValueError.__new__" mValue, ckF (.noat "InvalidCost" "letter"), ckExc "InvalidLetters" "ValueError.__new__" mValue, ckF (.noat "InvalidLetters" "value"), ckExc "InvalidWord" "ValueError.__new__" mValue, ckF (.noat "InvalidWord" "value"), ckF (.free "str"), ckF (.free "isinstance"), ckF (.free "len"), ckF (.int "MAX_LETTERS" 4), ckF (.str "ALPHABET" "abcdefghijklmnopqrstuvwxyz"), ckF (.free "all"), ckF (.free "range"), ckF (.free "int"), ckF (.free "bool"), ckF (.glo "is_integer"), ckF (.glo "are_letters"), ckF (.glo "InvalidLetters"), ckF (.free "sorted"), ckF (.glo "is_letter"), ckF (.int "MAX_COST" 9), ckF (.glo "is_between"), ckF (.glo "InvalidCost"), ckF (.cls "Order")]
def fb1 : List (Frag → Bool) := [ckF (.noat "Order" "own_letters"), ckF (.noat "Order" "own_costs"), ckF (.free "sum"), ckF (.meth "Order" "count_next"), ckF (.meth "Order" "is_possible"), ckF (.meth "Order" "filled"), ckF (.meth "Order" "cost_of"), ckF (.meth "Order" "counts_to"), ckF (.meth "Order" "neighbor"), ckF (.glo "is_word"), ckF (.glo "InvalidWord"), ckF (.glo "need_word"), ckF (.meth "Order" "follower"), ckF (.meth "Order" "key"), ckF (.meth "Order" "below"), ckF (.free "list"), ckF (.free "max"), ckF (.meth "Order" "place_of"), ckF (.free "dict"), ckF (.mkr "Order"), ckBm "Order" "key", ckF (.free "abs"), ckF (.glo "_law_draw"), ckF (.glo "_law_pick"), ckF (.glo "_law_shuffled")]
def fb2 : List (Frag → Bool) := [ckCr "Order", ckCm "Order" "of_costs", ckF (.glo "Order"), ckF (.free "zip"), ckF (.glo "_law_pen"), ckF (.glo "_law_letters"), ckF (.glo "_law_costs"), ckF (.glo "_law_other_letters"), ckF (.glo "_law_made_order"), ckF (.glo "_law_letter_more"), ckF (.glo "_law_word"), ckF (.meth "Order" "number_of"), ckF (.glo "_law_turned"), ckF (.meth "Order" "after"), ckF (.meth "Order" "is_before"), ckF (.meth "Order" "sorted_words"), ckProp "Order" "latest", ckF (.glo "law"), ckIsi it0]
def fb : List (Frag → Bool) := fb0 ++ fb1 ++ fb2
abbrev FX (K : Frag) (mg : Str → Option Value) : Prop := Fx PP fb fn K mg
def loose0 : List (PySem.Str) := ["_wall", "__name__", "InvalidLetters", "InvalidCost", "InvalidWord", "MAX_LETTERS", "MAX_COST", "MAX_WORD", "ALPHABET", "is_integer", "is_between", "is_letter", "are_letters", "is_word", "need_word", "Order", "_law_pen", "_law_draw", "_law_pick", "_law_shuffled", "_law_letters", "_law_costs", "_law_word", "_law_made_order", "_law_turned"]
def loose1 : List (PySem.Str) := ["_law_other_letters", "_law_letter_more"]
def loose : List (PySem.Str) := loose0 ++ loose1
abbrev R : PySem.W.OpenRow := PySem.W.OpenLaw.row PySem.Challenge.rw_firstanswers_k15_whole_orders_of_other_l
abbrev hk : PySem.W.Hook := hookM 6 PP.main.file fb fn
def ob (s : PySem.W.SharedT) : AlM := obsMG 6 PP.main.file fb fn (HandSHeadRun.getT s)
theorem ob_eq (s : PySem.W.SharedT) : ob s = hk.obs s.abs := obsMG_eq (HandSHeadRun.getT_eq s)
theorem run_a (w : World) (os : OsState) : hdA R 20000 w os = some true := by
  kernel_rfl
theorem run_b (w : World) (os : OsState) : hdB R (PySem.W.view R.prog [30]) 20000 loose w os = some (PySem.W.openGood (PySem.W.view R.prog [30]) loose) := by
  kernel_rfl
theorem run_f0 (w : World) (os : OsState) : hdC R (fun s => (fb0).all fun f => f (fgM 6 s)) 20000 w os = some true := by
  kernel_rfl
theorem run_f1 (w : World) (os : OsState) : hdC R (fun s => (fb1).all fun f => f (fgM 6 s)) 20000 w os = some true := by
  kernel_rfl
theorem run_f2 (w : World) (os : OsState) : hdC R (fun s => (fb2).all fun f => f (fgM 6 s)) 20000 w os = some true := by
  kernel_rfl
theorem hdC_allK {r : PySem.W.OpenRow} {Y : Type} {P : PySem.W.SharedT → Y → Bool} {l m : List Y} {M : Nat} {w : World} {os : OsState} (a : hdC r (fun s => l.all (P s)) M w os = some true) (b : hdC r (fun s => m.all (P s)) M w os = some true) : hdC r (fun s => (l ++ m).all (P s)) M w os = some true := by
  have h := hdC_and a b
  have e : (fun s : PySem.W.SharedT => (l ++ m).all (P s)) = fun s => l.all (P s) && m.all (P s) := funext fun s => List.all_append
  rw [e]
  exact h
theorem run_k0 (w : World) (os : OsState) : hdC R (fun s => fn0.all fun d => d.ok PP.main.file (fgM 6 s)) 20000 w os = some true := by
  kernel_rfl
theorem run_k1 (w : World) (os : OsState) : hdC R (fun s => fn1.all fun d => d.ok PP.main.file (fgM 6 s)) 20000 w os = some true := by
  kernel_rfl
def okP (s : PySem.W.SharedT) (d : DefM) : Bool := d.ok PP.main.file (fgM 6 s)
theorem fn_eq : fn = fn0 ++ fn1 := rfl
theorem run_kk (w : World) (os : OsState) : hdC R (fun s => (fn0 ++ fn1).all (okP s)) 20000 w os = some true := (hdC_allK (P := okP) (l := fn0) (m := fn1) (run_k0 w os) (run_k1 w os))
theorem run_k (w : World) (os : OsState) : hdC R (fun s => fn.all fun d => d.ok PP.main.file (fgM 6 s)) 20000 w os = some true := by
  rw [fn_eq]
  exact run_kk w os
theorem run_v (w : World) (os : OsState) : hdC R (fun s => fn.map fun d => fnWM (fgM 6 s) d) 20000 w os = some (fn.map DefM.val) := by
  kernel_rfl
theorem fb_eq : fb = ((fb0) ++ (fb1)) ++ (fb2) := by
  simp only [fb, List.append_assoc]
theorem run_f (w : World) (os : OsState) : hdC R (fun s => fb.all fun f => f (fgM 6 s)) 20000 w os = some true := by
  rw [fb_eq]
  exact (hdC_all (F := fun s => (fgM 6 s)) (l := fb0 ++ fb1) (m := fb2) (hdC_all (F := fun s => (fgM 6 s)) (l := fb0) (m := fb1) (run_f0 w os) (run_f1 w os)) (run_f2 w os))
theorem run_c (w : World) (os : OsState) : hdC R ob 20000 w os = some (hk.val w) := hdC_pair (hdC_and (run_f w os) (run_k w os)) (run_v w os)
theorem run (w : World) : HandSHeadRun.RunEq R (PySem.W.view R.prog [30]) hk ob 20000 loose w := run_split (H := hk) (run_a w) (run_b w) (run_c w)
end G
set_option Elab.async false
set_option linter.all false
set_option maxRecDepth 100000
set_option maxHeartbeats 0
section
open PySem PySem.W PySem.Calls PyProof.Rows
theorem G.fin (m : Mp.DF) (hf : ∀ {w : World} {K : Frag} {mg : Str → Option Value} {base : Heap}, G.FX K mg → Mp.FnD G.PP w K mg base 7 (He.ga K "law") m) (hok : ∀ ns : List Int, ∃ s', m [.rol (ns.map .int)] [] = .ok (.bl true) s') : PySem.Challenge.rw_firstanswers_k15_whole_orders_of_other_l.Holds := by
  w_on; refine G.okl fun said => ?_
  refine HandSHeadRun.head_any (r := OpenLaw.row PySem.Challenge.rw_firstanswers_k15_whole_orders_of_other_l) (q := view (OpenLaw.row PySem.Challenge.rw_firstanswers_k15_whole_orders_of_other_l).prog [30]) (H := G.hk) (ob := G.ob) (M := 20000) (loose := G.loose) (d := HandSHeadRun.topDef (OpenLaw.row PySem.Challenge.rw_firstanswers_k15_whole_orders_of_other_l).prog 30) (kwd := []) G.ob_eq
    (by kernel_rfl) (fun s => by kernel_rfl) G.run (by kernel_rfl) (by kernel_rfl) (by kernel_rfl) (by rfl) (by first | assumption | decide +kernel) (by decide +kernel) ⟨rfl, rfl, rfl, rfl, rfl, by decide +kernel⟩ ?hw ?hc
  case hw => w_witness2
  case hc =>
    refine Mp.walk_end (l := PySem.Challenge.rw_firstanswers_k15_whole_orders_of_other_l) (n := 63) (k := 7) (m := m) rfl (by decide) (by kernel_rfl) ⟨⟨rfl, by decide, by decide⟩, rfl⟩ ?F (fun ns _ _ => hok ns)
    intro w mg fa h Y N hmg0
    obtain ⟨K, KX, c⟩ := Y
    have hmg : mg ("law" : PySem.Str) = some (.ref fa) := by
      have e : (HandSHeadRun.topDef (OpenLaw.row PySem.Challenge.rw_firstanswers_k15_whole_orders_of_other_l).prog 30).name = ("law" : PySem.Str) := by kernel_rfl
      rw [← e]
      exact hmg0
    have Z : G.FX K mg := ⟨c, h, KX, N⟩
    have e := hmg.symm.trans (Mp.Fx.glo Z 67 rfl)
    cases e
    exact ⟨K, KX, fun base _ _ => hf Z⟩
end
set_option Elab.async false
/-! plain number theory: Fermat's little theorem -/
namespace Pl
def choose : Nat → Nat → Nat
  | _, 0 => 1
  | 0, _ + 1 => 0
  | n + 1, k + 1 => choose n k + choose n (k + 1)
end Pl
set_option Elab.async false
set_option linter.all false
/-! plain: remainders -/
namespace Pl
end Pl
set_option Elab.async false
set_option linter.all false
/-! plain: fractions as rationals -/
namespace Pl
def dv (t b : Int) : Int := if 0 < b then (Int.gcd t b : Nat) else -((Int.gcd t b : Nat) : Int)
end Pl
set_option Elab.async false
set_option linter.all false
/-! plain: remainders of fractions -/
namespace Pl
end Pl
set_option Elab.async false
set_option linter.all false
set_option maxRecDepth 100000
/-! Pl: what is wanted behind a computation on data; one rule a construct. -/
namespace Pl
open Mp
open PySem (Str sizeLine)
/-- what is wanted of an expression's end -/
def RP {T : Type} (Q : T → Sto → Prop) (E : Str → List (Str × D) → Sto → Prop) : Res T → Prop
  | .ok a s => Q a s
  | .exc C fs s => E C fs s
  | .bad => False
structure PQ where
  nx : En → Sto → Prop
  rt : D → Sto → Prop
  bk : En → Sto → Prop
  ct : En → Sto → Prop
  ex : Str → List (Str × D) → En → Sto → Prop
def FP (q : PQ) : Fl → Prop
  | .nx r s => q.nx r s
  | .rt d s => q.rt d s
  | .bk r s => q.bk r s
  | .ct r s => q.ct r s
  | .exc C fs r s => q.ex C fs r s
  | .bad => False
abbrev XT := Str → List (Str × D) → Sto → Prop
abbrev noX : XT := fun _ _ _ => False
section
variable {T U : Type} {Q Q' : T → Sto → Prop} {E E' : XT} {r : En} {s : Sto} {q q' : PQ}
theorem RP.mono {m : Res T} (h : RP Q E m) (hq : ∀ a s, Q a s → Q' a s) (he : ∀ C fs s, E C fs s → E' C fs s) : RP Q' E' m := by
  cases m with
  | ok a s => exact hq a s h
  | exc C fs s => exact he C fs s h
  | bad => exact h
theorem RP.imp {m : Res T} (h : RP Q noX m) (hq : ∀ a s, Q a s → Q' a s) : RP Q' E m := h.mono hq fun _ _ _ z => z.elim
theorem RP.of {m : Res T} {a : T} {s' : Sto} (h : m = .ok a s') (hq : Q a s') : RP Q E m := by
  rw [h]
  exact hq
theorem RP.ex {m : Res T} (h : RP Q noX m) : ∃ a s', m = .ok a s' ∧ Q a s' := by
  cases m with
  | ok a s => exact ⟨a, s, rfl, h⟩
  | exc C fs s => exact h.elim
  | bad => exact h.elim
theorem FP.mono {f : Fl} (h : FP q f) (h1 : ∀ r s, q.nx r s → q'.nx r s) (h2 : ∀ d s, q.rt d s → q'.rt d s) (h3 : ∀ r s, q.bk r s → q'.bk r s) (h4 : ∀ r s, q.ct r s → q'.ct r s) (h5 : ∀ C fs r s, q.ex C fs r s → q'.ex C fs r s) : FP q' f := by
  cases f with
  | nx r s => exact h1 _ _ h
  | rt d s => exact h2 _ _ h
  | bk r s => exact h3 _ _ h
  | ct r s => exact h4 _ _ h
  | exc C fs r s => exact h5 _ _ _ _ h
  | bad => exact h
theorem w_ok {a : T} (h : Q a s) : RP Q E (.ok a s) := h
theorem w_bind {m : DM T} {f : T → DM U} {Q : U → Sto → Prop} (h : RP (fun a s' => RP Q E (f a r s')) E (m r s)) : RP Q E (Mp.bindM m f r s) := by
  unfold Mp.bindM
  cases e : m r s <;> rw [e] at h <;> exact h
theorem w_pure {a : T} (h : Q a s) : RP Q E (pureM a r s) := h
theorem w_then {m : DM T} {f : T → DS} (h : RP (fun a s' => FP q (f a r s')) (fun C fs s' => q.ex C fs r s') (m r s)) : FP q (thenS m f r s) := by
  unfold thenS
  cases e : m r s <;> rw [e] at h <;> exact h
theorem w_seq {a b : DS} (h : FP ⟨fun r' s' => FP q (b r' s'), q.rt, q.bk, q.ct, q.ex⟩ (a r s)) : FP q (seqS a b r s) := by
  unfold seqS
  cases e : a r s <;> rw [e] at h <;> exact h
/-- with a word between two statements -/
theorem w_mid {a b : DS} (P : En → Sto → Prop) (h1 : FP ⟨P, q.rt, q.bk, q.ct, q.ex⟩ (a r s)) (h2 : ∀ r' s', P r' s' → FP q (b r' s')) : FP q (seqS a b r s) := w_seq (h1.mono h2 (fun _ _ h => h) (fun _ _ h => h) (fun _ _ h => h) fun _ _ _ _ h => h)
end
section
variable {Q : D → Sto → Prop} {E : XT} {r : En} {s : Sto} {q : PQ} {a b c : DE} {f : D → D → Sto → Res D}
theorem w_v {i : Nat} {d : D} (h : r[i]? = some (some d)) (hq : Q d s) : RP Q E (vM i r s) := by
  unfold vM
  rw [h]
  exact hq
theorem w_c {d : D} (hq : Q d s) : RP Q E (cM d r s) := hq
theorem w_bin (h : RP (fun x s1 => RP (fun y s2 => RP Q E (f x y s2)) E (b r s1)) E (a r s)) : RP Q E (binM f a b r s) := w_bind (h.mono (fun _ _ h => w_bind h) fun _ _ _ h => h)
theorem w_un {g : D → Sto → Res D} (h : RP (fun x s1 => RP Q E (g x s1)) E (a r s)) : RP Q E (unM g a r s) := w_bind h
theorem w_arg {m : DM (List D)} {g : List D → Sto → Res D} (h : RP (fun x s1 => RP Q E (g x s1)) E (m r s)) : RP Q E (argM g m r s) := w_bind h
theorem w_call {m : DM (List D)} {g : DF} (h : RP (fun x s1 => RP Q E (g x s1)) E (m r s)) : RP Q E (callM g m r s) := w_bind h
theorem w_nil {Q : List D → Sto → Prop} (h : Q [] s) : RP Q E (nilA r s) := h
theorem w_cons {Q : List D → Sto → Prop} {m : DM (List D)} (h : RP (fun x s1 => RP (fun l s2 => Q (x :: l) s2) E (m r s1)) E (a r s)) : RP Q E (consA a m r s) := w_bind (h.mono (fun _ _ h => w_bind h) fun _ _ _ h => h)
theorem w_star {Q : List D → Sto → Prop} (h : RP (fun x s1 => ∃ l, x = .tup l ∧ Q l s1) E (a r s)) : RP Q E (starA a r s) := w_bind (h.mono (fun x s ⟨l, e, h⟩ => by
  subst e
  exact h) fun _ _ _ h => h)
theorem w_tru {Q : Bool → Sto → Prop} (h : RP (fun x s1 => ∃ k, truD s1 x = some k ∧ Q k s1) E (a r s)) : RP Q E (truM a r s) := w_bind (h.mono (fun x s ⟨k, e, h⟩ => by
  rw [e]
  exact h) fun _ _ _ h => h)
theorem w_bl {Q : Bool → Sto → Prop} (h : RP (fun x s1 => ∃ k, x = .bl k ∧ Q k s1) E (a r s)) : RP Q E (blM a r s) := w_bind (h.mono (fun x s ⟨k, e, h⟩ => by
  subst e
  exact h) fun _ _ _ h => h)
theorem w_not (h : RP (fun k s1 => Q (.bl (!k)) s1) E (truM a r s)) : RP Q E (notV a r s) := w_bind h
theorem w_and (h : RP (fun x s1 => ∃ k, truD s1 x = some k ∧ (k = true → RP Q E (b r s1)) ∧ (k = false → Q x s1)) E (a r s)) : RP Q E (andV a b r s) := w_bind (h.mono (fun x s ⟨k, e, h1, h2⟩ => w_bind (w_tru (w_c ⟨k, e, by
  cases k
  · exact h2 rfl
  · exact h1 rfl⟩))) fun _ _ _ h => h)
theorem w_or (h : RP (fun x s1 => ∃ k, truD s1 x = some k ∧ (k = false → RP Q E (b r s1)) ∧ (k = true → Q x s1)) E (a r s)) : RP Q E (orV a b r s) := w_bind (h.mono (fun x s ⟨k, e, h1, h2⟩ => w_bind (w_tru (w_c ⟨k, e, by
  cases k
  · exact h1 rfl
  · exact h2 rfl⟩))) fun _ _ _ h => h)
theorem w_notT {Q : Bool → Sto → Prop} {c : DM Bool} (h : RP (fun k s1 => Q (!k) s1) E (c r s)) : RP Q E (notT c r s) := w_bind h
theorem w_andT {Q : Bool → Sto → Prop} {c d : DM Bool} (h : RP (fun k s1 => (k = true → RP Q E (d r s1)) ∧ (k = false → Q false s1)) E (c r s)) : RP Q E (andT c d r s) := w_bind (h.mono (fun k s h => by
  cases k
  · exact h.2 rfl
  · exact h.1 rfl) fun _ _ _ h => h)
theorem w_orT {Q : Bool → Sto → Prop} {c d : DM Bool} (h : RP (fun k s1 => (k = false → RP Q E (d r s1)) ∧ (k = true → Q true s1)) E (c r s)) : RP Q E (orT c d r s) := w_bind (h.mono (fun k s h => by
  cases k
  · exact h.1 rfl
  · exact h.2 rfl) fun _ _ _ h => h)
theorem w_ifM {c : DM Bool} (h : RP (fun k s1 => (k = true → RP Q E (a r s1)) ∧ (k = false → RP Q E (b r s1))) E (c r s)) : RP Q E (ifM c a b r s) := w_bind (h.mono (fun k s h => by
  cases k
  · exact h.2 rfl
  · exact h.1 rfl) fun _ _ _ h => h)
theorem w_chain {g : D → D → Sto → Res D} (h : RP (fun x s1 => RP (fun y s2 => RP (fun z s3 => ∃ k, z = .bl k ∧ (k = true → RP (fun u s4 => RP Q E (g y u s4)) E (c r s3)) ∧ (k = false → Q (.bl false) s3)) E (f x y s2)) E (b r s1)) E (a r s)) : RP Q E (chainM f g a b c r s) := w_bind (h.mono (fun x s1 h => w_bind (h.mono (fun y s2 h => by
  cases e : f x y s2 with
  | ok z s3 =>
    rw [e] at h
    obtain ⟨k, rfl, h1, h2⟩ := h
    cases k
    · exact h2 rfl
    · exact w_bind (m := c) (f := fun u => fun _ s => g y u s) (h1 rfl)
  | exc C fs s3 => rw [e] at h; exact h
  | bad => rw [e] at h; exact h) fun _ _ _ h => h)) fun _ _ _ h => h)
theorem w_attr {tb : List (Str × Ak)} {f : Str} (h : RP (fun x s1 => RP Q E (attrD tb f x s1)) E (a r s)) : RP Q E (attrM tb f a r s) := w_bind h
theorem w_meth {tb : List (Str × DF)} {m : Str} {l : DM (List D)} (h : RP (fun x s1 => ∃ C fs f, insOf s1 x = some (C, fs) ∧ fs.lookup m = none ∧ tb.lookup C = some f ∧ RP (fun ds s2 => RP Q E (f (x :: ds) s2)) E (l r s1)) E (a r s)) : RP Q E (methM tb m a l r s) := w_bind (h.mono (fun x s1 ⟨C, fs, f, e1, e2, e3, h⟩ => by
  rw [e1]
  dsimp only
  rw [e2]
  dsimp only
  rw [e3]
  exact w_bind h) fun _ _ _ h => h)
theorem w_super {tb : List (Str × DF)} {l : DM (List D)} (h : RP (fun x s1 => ∃ C fs f, insOf s1 x = some (C, fs) ∧ tb.lookup C = some f ∧ RP (fun ds s2 => RP Q E (f (x :: ds) s2)) E (l r s1)) E (vM 0 r s)) : RP Q E (superM tb l r s) := w_bind (h.mono (fun x s1 ⟨C, fs, f, e1, e3, h⟩ => by
  rw [e1]
  dsimp only
  rw [e3]
  exact w_bind h) fun _ _ _ h => h)
theorem w_superS {tb : List (Str × DF)} {l : DM (List D)} (h : RP (fun _ s' => q.nx r s') (fun C fs s' => q.ex C fs r s') (superM tb l r s)) : FP q (superS tb l r s) := w_then h
theorem w_make {k : Bool} {C : Str} {m : DF} {l : DM (List D)} (h : RP (fun ds s1 => RP (fun v s2 => v = .non ∧ RP Q E (freezeI k s1.length s2)) E (m (.cel s1.length :: ds) (s1 ++ [some (.ins C [])]))) E (l r s)) : RP Q E (makeM k C m l r s) := w_bind (h.mono (fun ds s1 h => by
  cases e : m (.cel s1.length :: ds) (s1 ++ [some (.ins C [])]) with
  | ok v s2 =>
    rw [e] at h
    obtain ⟨rfl, h⟩ := h
    exact h
  | exc C fs s3 => rw [e] at h; exact h
  | bad => rw [e] at h; exact h) fun _ _ _ h => h)
theorem w_freeze {n : Nat} {C : Str} {fs : List (Str × D)} (h : s[n]? = some (some (.ins C fs))) (hq : Q (.ins C fs) (s.set n none)) : RP Q E (freezeI false n s) := by
  unfold freezeI
  rw [if_neg (by decide), h]
  exact hq
theorem w_opt {Q : Option Int → Sto → Prop} (h : RP (fun x s1 => ∃ i, x = .int i ∧ Q (some i) s1) E (a r s)) : RP Q E (optM a r s) := w_bind (h.mono (fun x s ⟨i, e, h⟩ => by
  subst e
  exact h) fun _ _ _ h => h)
theorem w_sli {k : Bool} {l u : DM (Option Int)} (h : RP (fun x s1 => RP (fun lo s2 => RP (fun hi s3 => RP Q E (sliD k x lo hi s3)) E (u r s2)) E (l r s1)) E (a r s)) : RP Q E (sliM k a l u r s) := w_bind (h.mono (fun _ _ h => w_bind (h.mono (fun _ _ h => w_bind h) fun _ _ _ h => h)) fun _ _ _ h => h)
/-! dict displays -/
theorem w_pairs0 {Q : List (D × D) → Sto → Prop} (h : Q [] s) : RP Q E (pairsM [] r s) := h
theorem w_pairs1 {Q : List (D × D) → Sto → Prop} {l : List (DE × DE)} (h : RP (fun x s1 => RP (fun y s2 => RP (fun l s3 => Q ((x, y) :: l) s3) E (pairsM l r s2)) E (b r s1)) E (a r s)) : RP Q E (pairsM ((a, b) :: l) r s) := w_bind (h.mono (fun _ _ h => w_bind (h.mono (fun _ _ h => w_bind h) fun _ _ _ h => h)) fun _ _ _ h => h)
theorem w_disp {l : List (DE × DE)} (h : RP (fun ps s1 => ∃ kvs, keyed ps = some kvs ∧ kvs.length ≤ 15 ∧ Q (.cel s1.length) (s1 ++ [some (.dct (mergeA [] kvs))])) E (pairsM l r s)) : RP Q E (dispM l r s) := w_bind (h.mono (fun ps s1 ⟨kvs, e, hl, h⟩ => by
  rw [e]
  dsimp only
  rw [if_pos hl]
  exact h) fun _ _ _ h => h)
/-! statements -/
theorem w_skip (h : q.nx r s) : FP q (skipS r s) := h
theorem w_brk (h : q.bk r s) : FP q (brkS r s) := h
theorem w_cnt (h : q.ct r s) : FP q (cntS r s) := h
theorem w_set {i : Nat} (h : RP (fun d s' => q.nx (r.set i (some d)) s') (fun C fs s' => q.ex C fs r s') (a r s)) : FP q (setS i a r s) := w_then h
theorem w_expr (h : RP (fun _ s' => q.nx r s') (fun C fs s' => q.ex C fs r s') (a r s)) : FP q (exprS a r s) := w_then h
theorem w_ret (h : RP (fun d s' => q.rt d s') (fun C fs s' => q.ex C fs r s') (a r s)) : FP q (retS a r s) := w_then h
theorem w_retN (h : q.rt .non s) : FP q (retN r s) := h
theorem w_if {c : DM Bool} {x y : DS} (h : RP (fun k s1 => (k = true → FP q (x r s1)) ∧ (k = false → FP q (y r s1))) (fun C fs s' => q.ex C fs r s') (c r s)) : FP q (ifS c x y r s) := w_then (h.mono (fun k s h => by
  cases k
  · exact h.2 rfl
  · exact h.1 rfl) fun _ _ _ h => h)
theorem w_asg {g : DG} (h : RP (fun d s' => ∃ p, g d r s' = some p ∧ q.nx p.1 p.2) (fun C fs s' => q.ex C fs r s') (a r s)) : FP q (asgS a g r s) := w_then (h.mono (fun d s ⟨p, e, h⟩ => by
  rw [e]
  exact h) fun _ _ _ h => h)
theorem w_par2 {i j : Nat} {m : DM (List D)} (h : RP (fun ds s' => ∃ x y, ds = [x, y] ∧ q.nx ((r.set i (some x)).set j (some y)) s') (fun C fs s' => q.ex C fs r s') (m r s)) : FP q (par2S i j m r s) := w_then (h.mono (fun d s ⟨x, y, e, h⟩ => by
  subst e
  exact h) fun _ _ _ h => h)
theorem w_par3 {i j k : Nat} {m : DM (List D)} (h : RP (fun ds s' => ∃ x y z, ds = [x, y, z] ∧ q.nx (((r.set i (some x)).set j (some y)).set k (some z)) s') (fun C fs s' => q.ex C fs r s') (m r s)) : FP q (par3S i j k m r s) := w_then (h.mono (fun d s ⟨x, y, z, e, h⟩ => by
  subst e
  exact h) fun _ _ _ h => h)
theorem w_aug {i : Nat} (h : RP (fun d s' => q.nx (r.set i (some d)) s') (fun C fs s' => q.ex C fs r s') (binM f (vM i) a r s)) : FP q (augS i f a r s) := w_then h
theorem w_sub (h : RP (fun y s1 => RP (fun x s2 => RP (fun z s3 => ∃ s4, putI x z y s3 = some s4 ∧ q.nx r s4) (fun C fs s' => q.ex C fs r s') (b r s2)) (fun C fs s' => q.ex C fs r s') (a r s1)) (fun C fs s' => q.ex C fs r s') (c r s)) : FP q (subS a b c r s) := w_then (h.mono (fun _ _ h => w_then (h.mono (fun _ _ h => w_then (h.mono (fun z s3 ⟨s4, e, h⟩ => by
  rw [e]
  exact h) fun _ _ _ h => h)) fun _ _ _ h => h)) fun _ _ _ h => h)
theorem w_fld {tb : List Str} {f : Str} (h : RP (fun y s1 => RP (fun x s2 => ∃ n C fs, x = .cel n ∧ s2[n]? = some (some (.ins C fs)) ∧ C ∈ tb ∧ fs.length < 1000 ∧ q.nx r (s2.set n (some (.ins C (putD f y fs))))) (fun C fs s' => q.ex C fs r s') (a r s1)) (fun C fs s' => q.ex C fs r s') (b r s)) : FP q (fldS tb f a b r s) := w_then (h.mono (fun _ _ h => w_then (h.mono (fun x s2 ⟨n, C, fs, e, e1, h1, h2, h⟩ => by
  subst e
  dsimp only
  rw [e1]
  dsimp only
  rw [if_pos ⟨h1, h2⟩]
  exact h) fun _ _ _ h => h)) fun _ _ _ h => h)
theorem w_raise {C f : Str} {m : DM (List D)} (h : RP (fun ds s' => ∃ d, ds = [d] ∧ q.ex C [(f, d)] r s') (fun C fs s' => q.ex C fs r s') (m r s)) : FP q (raiseS C f m r s) := w_then (h.mono (fun d s ⟨x, e, h⟩ => by
  subst e
  exact h) fun _ _ _ h => h)
theorem w_raise0 {C : Str} (h : q.ex C [] r s) : FP q (raise0S C r s) := h
theorem w_noExc {f : Fl} (h : FP ⟨q.nx, q.rt, q.bk, q.ct, fun _ _ _ _ => False⟩ f) : FP q (noExc f) := by
  cases f with
  | exc C fs r s => exact h.elim
  | _ => exact h
theorem w_try {x y : DS} {tb : List (Str × Bool)} (h : FP ⟨q.nx, q.rt, q.bk, q.ct, fun C fs r' s' => ∃ k, tb.lookup C = some k ∧ (k = true → FP ⟨q.nx, q.rt, q.bk, q.ct, fun _ _ _ _ => False⟩ (y r' s')) ∧ (k = false → q.ex C fs r' s')⟩ (x r s)) : FP q (tryS x tb y r s) := by
  unfold tryS
  cases e : x r s with
  | exc C fs r' s' =>
    rw [e] at h
    obtain ⟨k, e1, h1, h2⟩ := h
    dsimp only
    rw [e1]
    cases k
    · exact h2 rfl
    · exact w_noExc (h1 rfl)
  | nx r s => rw [e] at h; exact h
  | rt d s => rw [e] at h; exact h
  | bk r s => rw [e] at h; exact h
  | ct r s => rw [e] at h; exact h
  | bad => rw [e] at h; exact h
/-! bodies -/
abbrev bodyQ (Q : D → Sto → Prop) (E : XT) : PQ := ⟨fun _ s' => Q .non s', Q, fun _ _ => False, fun _ _ => False, fun C fs _ s' => E C fs s'⟩
theorem w_bodyX {n : Nat} {b : DS} {ds : List D} (h : FP (bodyQ Q E) (b (ds.map some ++ List.replicate (n - ds.length) none) s)) : RP Q E (bodyX n b ds s) := by
  unfold bodyX
  cases e : b (ds.map some ++ List.replicate (n - ds.length) none) s <;> rw [e] at h <;> exact h
theorem w_body {k n : Nat} {dd : List D} {b : DS} {ds es : List D} {r : En} (h0 : argsD k dd ds = some es) (hr : es.map some ++ List.replicate (n - es.length) none = r) (h : FP (bodyQ Q E) (b r s)) : RP Q E (bodyM k dd n b ds s) := by
  unfold bodyM
  rw [h0]
  subst hr
  exact w_bodyX h
theorem w_bodyV {k n : Nat} {b : DS} {ds : List D} {r : En} (h0 : k ≤ ds.length) (h1 : ds.length ≤ 1000) (hr : (ds.take k ++ [D.tup (ds.drop k)]).map some ++ List.replicate (n - (ds.take k ++ [D.tup (ds.drop k)]).length) none = r) (h : FP (bodyQ Q E) (b r s)) : RP Q E (bodyV k n b ds s) := by
  unfold bodyV
  rw [if_pos ⟨h0, h1⟩]
  subst hr
  exact w_bodyX h
/-! loops -/
theorem w_for0 {m : DM Src} {g : DG} {b : DS} (h : RP (fun c s' => FP q (forF c g b c.its r s')) (fun C fs s' => q.ex C fs r s') (m r s)) : FP q (forS m g b r s) := w_then h
theorem forF_inv {c : Src} {g : DG} {b : DS} (I : Nat → En → Sto → Prop) (hc : ∀ i r s, I i r s → SrcOk c s) :
    ∀ (l : List D) (i : Nat) (r : En) (s : Sto), i ≤ c.its.length → c.its.drop i = l → I i r s → (∀ i d r s, c.its[i]? = some d → I i r s → ∃ p, g d r s = some p ∧ FP ⟨I (i + 1), q.rt, q.nx, I (i + 1), q.ex⟩ (b p.1 p.2)) → (∀ r s, I c.its.length r s → q.nx r s) → FP q (forF c g b l r s)
  | [], i, r, s, hle, hl, hi, hs, he => by
    have h1 : i = c.its.length := by
      have := congrArg List.length hl
      simp at this
      omega
    unfold forF
    rw [if_pos (hc i r s hi)]
    subst h1
    exact he r s hi
  | d :: l, i, r, s, hle, hl, hi, hs, he => by
    have hlt : i < c.its.length := by
      have := congrArg List.length hl
      simp at this
      omega
    have hd : c.its[i]? = some d := by
      have := congrArg (fun z => z[0]?) hl
      simpa using this
    obtain ⟨p, hp, hb⟩ := hs i d r s hd hi
    have hl' : c.its.drop (i + 1) = l := by
      rw [← List.tail_drop, hl]
      rfl
    unfold forF
    rw [if_pos (hc i r s hi), hp]
    dsimp only
    cases e : b p.1 p.2 with
    | nx r' s' => rw [e] at hb; exact forF_inv I hc l (i + 1) r' s' hlt hl' hb hs he
    | ct r' s' => rw [e] at hb; exact forF_inv I hc l (i + 1) r' s' hlt hl' hb hs he
    | bk r' s' => rw [e] at hb; exact hb
    | rt d s' => rw [e] at hb; exact hb
    | exc C fs r' s' => rw [e] at hb; exact hb
    | bad => rw [e] at hb; exact hb
/-- a for loop by what holds between two turns -/
theorem w_for {c : Src} {g : DG} {b : DS} (I : Nat → En → Sto → Prop) (hc : c.cel = none) (h0 : I 0 r s) (hs : ∀ i d r s, c.its[i]? = some d → I i r s → ∃ p, g d r s = some p ∧ FP ⟨I (i + 1), q.rt, q.nx, I (i + 1), q.ex⟩ (b p.1 p.2)) (he : ∀ r s, I c.its.length r s → q.nx r s) : FP q (forF c g b c.its r s) :=
  forF_inv I (fun _ _ _ _ => by unfold SrcOk; rw [hc]; trivial) c.its 0 r s (Nat.zero_le _) rfl h0 hs he
/-- a while loop by what holds between two turns and a number that falls -/
theorem w_while {t : DM Bool} {b : DS} (I : Nat → En → Sto → Prop) (hs : ∀ n r s, I n r s → RP (fun k s1 => (k = true → FP ⟨fun r' s' => ∃ m, m < n ∧ I m r' s', q.rt, q.nx, fun r' s' => ∃ m, m < n ∧ I m r' s', q.ex⟩ (b r s1)) ∧ (k = false → q.nx r s1)) (fun C fs s' => q.ex C fs r s') (t r s)) :
    ∀ (n : Nat) (r : En) (s : Sto), I n r s → FP q (whileS t b r s) := by
  intro n
  induction n using Nat.strongRecOn with
  | ind n ih =>
    intro r s hi
    have h := hs n r s hi
    rw [whileS_eq]
    cases e : t r s with
    | ok k s1 =>
      rw [e] at h
      dsimp only
      cases k with
      | false => exact h.2 rfl
      | true =>
        have h1 := h.1 rfl
        rw [if_pos rfl]
        cases e2 : b r s1 with
        | nx r' s' =>
          rw [e2] at h1
          obtain ⟨m, hm, hi'⟩ := h1
          exact ih m hm r' s' hi'
        | ct r' s' =>
          rw [e2] at h1
          obtain ⟨m, hm, hi'⟩ := h1
          exact ih m hm r' s' hi'
        | bk r' s' => rw [e2] at h1; exact h1
        | rt d s' => rw [e2] at h1; exact h1
        | exc C fs r' s' => rw [e2] at h1; exact h1
        | bad => rw [e2] at h1; exact h1
    | exc C fs s1 => rw [e] at h; exact h
    | bad => rw [e] at h; exact h
theorem lcF_inv {c : Src} {g : DG} {tt : DM Bool} {te : DE} {Q : List D → Sto → Prop} (I : Nat → List D → Sto → Prop) (hc : ∀ i l s, I i l s → SrcOk c s)
    (hs : ∀ i d l s, c.its[i]? = some d → I i l s → ∃ p, g d r s = some p ∧ RP (fun k s1 => (k = true → RP (fun y s2 => l.length < sizeLine ∧ I (i + 1) (l ++ [y]) s2) noX (te p.1 s1)) ∧ (k = false → I (i + 1) l s1)) noX (tt p.1 p.2)) (he : ∀ l s, I c.its.length l s → Q l s) :
    ∀ (l : List D) (i : Nat) (acc : List D) (s : Sto), i ≤ c.its.length → c.its.drop i = l → I i acc s → RP Q E (lcF c g tt te r l acc s)
  | [], i, acc, s, hle, hl, hi => by
    have h1 : i = c.its.length := by
      have := congrArg List.length hl
      simp at this
      omega
    unfold lcF
    rw [if_pos (hc i acc s hi)]
    subst h1
    exact he acc s hi
  | d :: l, i, acc, s, hle, hl, hi => by
    have hlt : i < c.its.length := by
      have := congrArg List.length hl
      simp at this
      omega
    have hd : c.its[i]? = some d := by
      have := congrArg (fun z => z[0]?) hl
      simpa using this
    obtain ⟨p, hp, hb⟩ := hs i d acc s hd hi
    have hl' : c.its.drop (i + 1) = l := by
      rw [← List.tail_drop, hl]
      rfl
    unfold lcF
    rw [if_pos (hc i acc s hi), hp]
    dsimp only
    cases e : tt p.1 p.2 with
    | ok k s1 =>
      rw [e] at hb
      dsimp only
      cases k with
      | false => exact lcF_inv I hc hs he l (i + 1) acc s1 hlt hl' (hb.2 rfl)
      | true =>
        have h1 := hb.1 rfl
        rw [if_pos rfl]
        cases e2 : te p.1 s1 with
        | ok y s2 =>
          rw [e2] at h1
          dsimp only
          rw [if_pos h1.1]
          exact lcF_inv I hc hs he l (i + 1) (acc ++ [y]) s2 hlt hl' h1.2
        | exc C fs s2 => rw [e2] at h1; exact h1.elim
        | bad => rw [e2] at h1; exact h1.elim
    | exc C fs s1 => rw [e] at hb; exact hb.elim
    | bad => rw [e] at hb; exact hb.elim
theorem w_lc0 {k : Bool} {mi : DM Src} {g : DG} {tt : DM Bool} {te : DE} {vs : List Nat} (h : RP (fun c s' => RP (fun acc s2 => RP Q E (newL k acc s2)) noX (lcF c g tt te (wipeE r vs) c.its [] s')) E (mi r s)) : RP Q E (lcM k mi g tt te vs r s) := w_bind (h.mono (fun c s1 h => by
  cases e : lcF c g tt te (wipeE r vs) c.its [] s1 with
  | ok acc s2 => rw [e] at h; exact h
  | exc C fs s2 => rw [e] at h; exact h.elim
  | bad => rw [e] at h; exact h.elim) fun _ _ _ h => h)
theorem w_lc {c : Src} {g : DG} {tt : DM Bool} {te : DE} {Q : List D → Sto → Prop} (I : Nat → List D → Sto → Prop) (hc : c.cel = none) (h0 : I 0 [] s)
    (hs : ∀ i d l s, c.its[i]? = some d → I i l s → ∃ p, g d r s = some p ∧ RP (fun k s1 => (k = true → RP (fun y s2 => l.length < sizeLine ∧ I (i + 1) (l ++ [y]) s2) noX (te p.1 s1)) ∧ (k = false → I (i + 1) l s1)) noX (tt p.1 p.2)) (he : ∀ l s, I c.its.length l s → Q l s) : RP Q E (lcF c g tt te r c.its [] s) :=
  lcF_inv I (fun _ _ _ _ => by unfold SrcOk; rw [hc]; trivial) hs he c.its 0 [] s (Nat.zero_le _) rfl h0
end
section
variable {Q : Src → Sto → Prop} {E : XT} {r : En} {s : Sto} {a : DE}
theorem srcM_of {x : D} {c : Src} (h : srcD s x = some c) : srcM s x = .ok c s := by
  unfold srcM
  cases x with
  | dct m => cases h; rfl
  | cel n =>
    have h' : (match s[n]? with
      | some (some (.lst l)) => some (⟨l, some n⟩ : Src)
      | _ => none) = some c := h
    cases e : s[n]? with
    | none => rw [e] at h'; cases h'
    | some o =>
      rw [e] at h'
      cases o with
      | none => cases h'
      | some ct =>
        cases ct with
        | lst l =>
          cases h'
          simp only [lockD, srcD, e, okO]
        | _ => cases h'
  | _ =>
    simp only [lockD]
    rw [h]
    rfl
theorem w_seqI (h : RP (fun x s1 => ∃ c, srcD s1 x = some c ∧ Q c s1) E (a r s)) : RP Q E (seqI a r s) := w_bind (h.mono (fun x s ⟨c, e, h⟩ => by
  rw [srcM_of e]
  exact h) fun _ _ _ h => h)
theorem w_valuesI (h : RP (fun x s1 => ∃ m s2, lockD s1 x = some (m, s2) ∧ Q ⟨m.map fun p => p.2, none⟩ s2) E (a r s)) : RP Q E (valuesI a r s) := w_bind (h.mono (fun x s ⟨m, s2, e, h⟩ => by
  rw [e]
  exact h) fun _ _ _ h => h)
theorem w_argI {m : DM (List D)} {g : List D → Sto → Res Src} (h : RP (fun x s1 => RP Q E (g x s1)) E (m r s)) : RP Q E (argI g m r s) := w_bind h
theorem w_range1 {j : Int} (h1 : -(2 ^ 62) ≤ j) (h2 : j < 2 ^ 62) (h : Q ⟨intL 0 j.toNat, none⟩ s) : RP Q E (rangeD1 [.int j] s) := by
  unfold rangeD1
  dsimp only
  rw [if_pos ⟨h1, h2⟩]
  exact h
theorem w_range2 {i j : Int} (h1 : -(2 ^ 62) ≤ i) (h2 : i < 2 ^ 62) (h3 : -(2 ^ 62) ≤ j) (h4 : j < 2 ^ 62) (h : Q ⟨intL i (j - i).toNat, none⟩ s) : RP Q E (rangeD2 [.int i, .int j] s) := by
  unfold rangeD2
  dsimp only
  rw [if_pos ⟨h1, h2, h3, h4⟩]
  exact h
theorem intL_len {lo : Int} {n : Nat} : (intL lo n).length = n := by simp [intL]
theorem intL_get {lo : Int} {n i : Nat} {d : D} (h : (intL lo n)[i]? = some d) : i < n ∧ d = .int (lo + i) := by
  have hi := (List.getElem?_eq_some_iff.mp h).1
  rw [intL_len] at hi
  refine ⟨hi, ?_⟩
  unfold intL at h
  rw [List.getElem?_map, List.getElem?_range hi] at h
  simpa using h.symm
end
end Pl
set_option Elab.async false
set_option linter.all false
set_option maxRecDepth 100000
/-! Pl: operators on data. -/
namespace Pl
open Mp
open PySem (Str sizeLine)
section
variable {Q : D → Sto → Prop} {E : XT} {r : En} {s : Sto} {i j : Int} {x y : Str}
theorem o_addI (h : Q (.int (i + j)) s) : RP Q E (addD (.int i) (.int j) s) := h
theorem o_addS (hl : x.length + y.length ≤ sizeLine) (h : Q (.str (x ++ y)) s) : RP Q E (addD (.str x) (.str y) s) := by
  unfold addD
  dsimp only
  rw [if_pos hl]
  exact h
theorem o_addI' (h : Q (.int (i + j)) s) : RP Q E (addI (.int i) (.int j) s) := h
theorem o_sub (h : Q (.int (i - j)) s) : RP Q E (subD (.int i) (.int j) s) := h
theorem log_lt' {n k : Nat} (h : n < 2 ^ k) (hk : 0 < k) : n.log2 < k := by
  by_cases z : n = 0
  · subst z
    have : Nat.log2 0 = 0 := by decide
    omega
  · exact (Nat.log2_lt z).mpr h
theorem mulC_of {a b : Nat} (hi : i.natAbs < 2 ^ a) (hj : j.natAbs < 2 ^ b) (ha : 0 < a) (hb : 0 < b) (h : a + b ≤ 1000000) : mulC i j = true := by
  unfold mulC
  refine decide_eq_true ?_
  have h1 := log_lt' hi ha
  have h2 := log_lt' hj hb
  omega
theorem o_mul (hc : mulC i j = true) (h : Q (.int (i * j)) s) : RP Q E (mulD (.int i) (.int j) s) := by
  unfold mulD
  dsimp only
  rw [if_pos hc]
  exact h
/-- of small ones -/
theorem o_mul64 (hi : i.natAbs < 18446744073709551616) (hj : j.natAbs < 18446744073709551616) (h : Q (.int (i * j)) s) : RP Q E (mulD (.int i) (.int j) s) := o_mul (mulC_of (a := 64) (b := 64) hi hj (by decide) (by decide) (by decide)) h
theorem log_of {n b : Nat} (h : n < 2 ^ b) (hb : 0 < b) : n.log2 < b := log_lt' h hb
theorem o_div (h0 : 0 < j) (h1 : j.natAbs.log2 < 9000) (h : Q (.int (i / j)) s) : RP Q E (divD (.int i) (.int j) s) := by
  unfold divD
  dsimp only
  rw [if_pos ⟨h0, h1⟩]
  exact h
theorem o_div64 (h0 : 0 < j) (h1 : j < 18446744073709551616) (h : Q (.int (i / j)) s) : RP Q E (divD (.int i) (.int j) s) :=
  o_div h0 (Nat.lt_of_lt_of_le (log_of (b := 64) (by omega) (by decide)) (by decide)) h
theorem o_mod (h0 : 0 < j) (h : Q (.int (i % j)) s) : RP Q E (modD (.int i) (.int j) s) := by
  unfold modD
  dsimp only
  rw [if_pos h0]
  exact h
theorem o_pow (h0 : 0 ≤ j) (h1 : j ≤ 1000000) (h2 : i.natAbs < 2 ^ 64) (h : Q (.int (i ^ j.toNat)) s) : RP Q E (powD (.int i) (.int j) s) := by
  unfold powD
  dsimp only
  rw [if_pos ⟨h0, h1, h2⟩]
  exact h
theorem o_max2 (h : Q (.int (if j > i then j else i)) s) : RP Q E (max2D [.int i, .int j] s) := h
theorem o_min2 (h : Q (.int (if j < i then j else i)) s) : RP Q E (min2D [.int i, .int j] s) := h
theorem o_neg (h : Q (.int (-i)) s) : RP Q E (negD (.int i) s) := h
theorem o_lt (h : Q (.bl (decide (i < j))) s) : RP Q E (ltI (.int i) (.int j) s) := h
theorem o_le (h : Q (.bl (decide (i ≤ j))) s) : RP Q E (leI (.int i) (.int j) s) := h
theorem o_gt (h : Q (.bl (decide (j < i))) s) : RP Q E (gtI (.int i) (.int j) s) := h
theorem o_ge (h : Q (.bl (decide (j ≤ i))) s) : RP Q E (geI (.int i) (.int j) s) := h
theorem o_eqI (h : Q (.bl (decide (i = j))) s) : RP Q E (eqD (.int i) (.int j) s) := h
theorem o_neI (h : Q (.bl (!decide (i = j))) s) : RP Q E (neD (.int i) (.int j) s) := h
theorem o_eqS (h : Q (.bl (decide (x = y))) s) : RP Q E (eqD (.str x) (.str y) s) := h
theorem o_neS (h : Q (.bl (!decide (x = y))) s) : RP Q E (neD (.str x) (.str y) s) := h
theorem o_abs (h : Q (.int (if i < 0 then -i else i)) s) : RP Q E (absD [.int i] s) := h
theorem o_int (h : Q (.int i) s) : RP Q E (Mp.intD [.int i] s) := h
theorem o_intB {b : Bool} (h : Q (.int (if b then 1 else 0)) s) : RP Q E (Mp.intD [.bl b] s) := h
theorem o_tup {l : List D} (hl : l.length ≤ sizeLine) (h : Q (.tup l) s) : RP Q E (tupD l s) := by
  unfold tupD
  rw [if_pos hl]
  exact h
theorem o_lst {l : List D} (hl : l.length ≤ sizeLine) (h : Q (.lst l) s) : RP Q E (lstD false l s) := by
  unfold lstD
  rw [if_pos hl]
  exact h
theorem o_lstC {l : List D} (hl : l.length ≤ sizeLine) (h : Q (.cel s.length) (s ++ [some (.lst l)])) : RP Q E (lstD true l s) := by
  unfold lstD
  rw [if_pos hl]
  exact h
theorem o_newL {l : List D} (h : Q (.lst l) s) : RP Q E (newL false l s) := h
theorem o_len {x : D} {l : List D} (hx : ∀ z, x ≠ .str z) (hs : seqOf s x = some l) (h : Q (.int (l.length : Nat)) s) : RP Q E (lenD [x] s) := by
  unfold lenD
  cases x with
  | str z => exact absurd rfl (hx z)
  | _ =>
    dsimp only
    rw [hs]
    exact h
theorem o_lenL {l : List D} (h : Q (.int (l.length : Nat)) s) : RP Q E (lenD [.lst l] s) := h
theorem o_lenT {l : List D} (h : Q (.int (l.length : Nat)) s) : RP Q E (lenD [.tup l] s) := h
theorem o_lenS (hl : x.length ≤ sizeLine) (h : Q (.int (x.length : Nat)) s) : RP Q E (lenD [.str x] s) := by
  unfold lenD
  dsimp only
  rw [if_pos hl]
  exact h
theorem o_list {x : D} {l : List D} (hs : seqOf s x = some l) (h : Q (.lst l) s) : RP Q E (listD false [x] s) := by
  unfold listD
  dsimp only
  rw [hs]
  exact h
theorem o_all {l : List Bool} {x : D} (hx : (lstOf s x).bind bools = some l) (h : Q (.bl (l.all id)) s) : RP Q E (allD [x] s) := by
  unfold allD
  dsimp only
  rw [hx]
  exact h
theorem bools_map {T : Type} (f : T → Bool) : ∀ l : List T, bools (l.map fun x => .bl (f x)) = some (l.map f)
  | [] => rfl
  | x :: l => by
    show (bools (l.map fun x => .bl (f x))).map (fun m => f x :: m) = _
    rw [bools_map f l]
    rfl
theorem intsOf_map {T : Type} (f : T → Int) : ∀ l : List T, intsOf (l.map fun x => .int (f x)) = some (l.map f)
  | [] => rfl
  | x :: l => by
    show (intsOf (l.map fun x => .int (f x))).map (fun m => f x :: m) = _
    rw [intsOf_map f l]
    rfl
theorem o_isi {it : Isi} {x c : D} {t : Tg} {b : Bool} (h1 : tagD s x = some t) (h2 : isiT it t c = some b) (h : Q (.bl b) s) : RP Q E (isiD it [x, c] s) := by
  unfold isiD
  dsimp only
  rw [h1]
  dsimp only
  rw [h2]
  exact h
theorem o_idxD {n : Nat} {m : List (L2.Key × D)} {x y d : D} {k : L2.Key} (h1 : dctOf s x = some m) (h2 : keyD y = some k) (h3 : getK m k = some d) (h : Q d s) : RP Q E (idxD x y s) := by
  unfold idxD
  rw [h1]
  dsimp only
  rw [h2]
  dsimp only
  rw [h3]
  exact h
theorem o_fld {tb : List (Str × Ak)} {f C : Str} {x d : D} {fs : List (Str × D)} (h1 : insOf s x = some (C, fs)) (h2 : tb.lookup C = some .fld) (h3 : fs.lookup f = some d) (h : Q d s) : RP Q E (attrD tb f x s) := by
  unfold attrD
  rw [h1]
  dsimp only
  rw [h2]
  dsimp only
  rw [h3]
  exact h
theorem o_prop {tb : List (Str × Ak)} {f C : Str} {x : D} {fs : List (Str × D)} {m : DF} (h1 : insOf s x = some (C, fs)) (h2 : tb.lookup C = some (.prop m)) (h : RP Q E (m [x] s)) : RP Q E (attrD tb f x s) := by
  unfold attrD
  rw [h1]
  dsimp only
  rw [h2]
  exact h
/-- xs[i] of a frozen list, a tuple -/
theorem o_idxL {l : List D} {d : D} {k : Nat} (h0 : i = (k : Int)) (h1 : l[k]? = some d) (h : Q d s) : RP Q E (idxD (.lst l) (.int i) s) := by
  have hk := (List.getElem?_eq_some_iff.mp h1).1
  have e : L2.atI l i = some d := by
    subst h0
    unfold L2.atI L2.ixN
    rw [if_pos (by omega), if_pos (by omega)]
    simpa using h1
  show RP Q E (okO s (L2.atI l i))
  rw [e]
  exact h
theorem cut_take {l : List D} {k : Int} (hk : 0 ≤ k) : cutD l none (some k) = l.take k.toNat := by
  unfold cutD
  have e0 : _root_.HT.sIx l.length 0 none = 0 := rfl
  have e1 : _root_.HT.sIx l.length l.length (some k) = min k.toNat l.length := if_neg (by omega)
  rw [e0, e1, List.drop_zero, Nat.sub_zero]
  by_cases h : k.toNat ≤ l.length
  · rw [Nat.min_eq_left h]
  · rw [Nat.min_eq_right (by omega), List.take_length, List.take_of_length_le (by omega)]
end
end Pl
set_option Elab.async false
set_option linter.all false
set_option maxRecDepth 100000
/-! Pl: how long a repr is. -/
namespace Pl
open Mp
open PySem (Str sizeLine PyData)
open PySem
end Pl
set_option Elab.async false
set_option linter.all false
set_option maxRecDepth 100000
/-! Pl: the pen of a law. -/
namespace Pl
open Mp
open PySem (Str sizeLine)
/-- the pen's cell -/
def penC (cells : List Int) (b l : Int) : Ct := .dct [(.inr "cells", .lst (cells.map .int)), (.inr "begun", .int b), (.inr "left", .int l)]
/-- cell n is a pen with at most b draws begun -/
def Pen (s : Sto) (n : Nat) (b : Int) : Prop := ∃ cells g l, s[n]? = some (some (penC cells g l)) ∧ cells.length ≤ 63 ∧ 0 ≤ g ∧ g ≤ b ∧ 0 ≤ l
/-- all but cell n stays -/
def Fr (n : Nat) (s s' : Sto) : Prop := s.length ≤ s'.length ∧ ∀ i, i < s.length → i ≠ n → s'[i]? = s[i]?
theorem Fr.refl {n : Nat} {s : Sto} : Fr n s s := ⟨Nat.le_refl _, fun _ _ _ => rfl⟩
theorem Fr.trans {n : Nat} {s s' s'' : Sto} (h : Fr n s s') (k : Fr n s' s'') : Fr n s s'' := ⟨Nat.le_trans h.1 k.1, fun i hi ne => (k.2 i (Nat.lt_of_lt_of_le hi h.1) ne).trans (h.2 i hi ne)⟩
theorem Fr.set {n : Nat} {s : Sto} {c : Option Ct} : Fr n s (s.set n c) := ⟨by rw [List.length_set]; exact Nat.le_refl _, fun i _ ne => List.getElem?_set_ne (fun e => ne e.symm)⟩
theorem Pen.mono {s : Sto} {n : Nat} {b c : Int} (h : Pen s n b) (hb : b ≤ c) : Pen s n c := by
  obtain ⟨cells, g, l, h1, h2, h3, h4, h5⟩ := h
  exact ⟨cells, g, l, h1, h2, h3, Int.le_trans h4 hb, h5⟩
theorem Pen.lt {s : Sto} {n : Nat} {b : Int} (h : Pen s n b) : n < s.length := by
  obtain ⟨cells, g, l, h1, _⟩ := h
  exact (List.getElem?_eq_some_iff.mp h1).1
theorem Pen.app {s : Sto} {n : Nat} {b : Int} (h : Pen s n b) (c : Option Ct) : Pen (s ++ [c]) n b := by
  have hl := h.lt
  obtain ⟨cells, g, l, h1, h2⟩ := h
  exact ⟨cells, g, l, by rw [List.getElem?_append_left hl]; exact h1, h2⟩
end Pl
namespace Pl
open Mp
open PySem (Str sizeLine PyData)
section
variable {Q : D → Sto → Prop} {E : XT} {s : Sto} {n : Nat} {c : List Int} {g l x : Int}
theorem pen_left (hs : s[n]? = some (some (penC c g l))) (h : Q (.int l) s) : RP Q E (idxD (.cel n) (.str "left") s) := by
  refine o_idxD (n := n) (m := [(.inr "cells", .lst (c.map .int)), (.inr "begun", .int g), (.inr "left", .int l)]) (k := .inr "left") (d := .int l) ?_ rfl ?_ h
  · unfold dctOf
    dsimp only
    rw [hs]
    rfl
  · rfl
theorem pen_begun (hs : s[n]? = some (some (penC c g l))) (h : Q (.int g) s) : RP Q E (idxD (.cel n) (.str "begun") s) := by
  refine o_idxD (n := n) (m := [(.inr "cells", .lst (c.map .int)), (.inr "begun", .int g), (.inr "left", .int l)]) (k := .inr "begun") (d := .int g) ?_ rfl ?_ h
  · unfold dctOf
    dsimp only
    rw [hs]
    rfl
  · rfl
theorem pen_cells (hs : s[n]? = some (some (penC c g l))) (h : Q (.lst (c.map .int)) s) : RP Q E (idxD (.cel n) (.str "cells") s) := by
  refine o_idxD (n := n) (m := [(.inr "cells", .lst (c.map .int)), (.inr "begun", .int g), (.inr "left", .int l)]) (k := .inr "cells") (d := .lst (c.map .int)) ?_ rfl ?_ h
  · unfold dctOf
    dsimp only
    rw [hs]
    rfl
  · rfl
theorem pen_putL (hs : s[n]? = some (some (penC c g l))) : putI (.cel n) (.str "left") (.int x) s = some (s.set n (some (penC c g x))) := by
  unfold putI
  dsimp only
  rw [hs]
  rfl
theorem pen_putB (hs : s[n]? = some (some (penC c g l))) : putI (.cel n) (.str "begun") (.int x) s = some (s.set n (some (penC c x l))) := by
  unfold putI
  dsimp only
  rw [hs]
  rfl
theorem pen_at (hs : s[n]? = some (some (penC c g l))) {y : Ct} : (s.set n (some y))[n]? = some (some y) := List.getElem?_set_self (List.getElem?_eq_some_iff.mp hs).1
theorem toPys_ints : ∀ c : List Int, toPys (c.map D.int) = some (c.map PyData.int)
  | [] => rfl
  | i :: c => by
    show (toPy (.int i)).bind (fun x => (toPys (c.map D.int)).map fun y => x :: y) = _
    rw [toPys_ints c]
    rfl
theorem lay_ints : ∀ c : List Int, PyData.canLayAll0 (c.map PyData.int) = true
  | [] => rfl
  | i :: c => by
    rw [List.map_cons, PyData.canLayAll0, lay_ints c]
    rfl
theorem dep_ints : ∀ c : List Int, PyData.depthAll (c.map PyData.int) = 0
  | [] => rfl
  | i :: c => by
    rw [List.map_cons, PyData.depthAll, dep_ints c]
    rfl
theorem shaped_ints (c : List Int) : PySem.SeqAt.shaped (.list (c.map .int)) = true := by
  unfold PySem.SeqAt.shaped
  rw [PyData.canLay0, lay_ints, PyData.depth, dep_ints]
  rfl
theorem o_neNil (h : Q (.bl (!c.isEmpty)) s) : RP Q E (neD (.lst (c.map .int)) (.lst []) s) := by
  show RP Q E (eqG0 true (.lst (c.map .int)) (.lst []) s)
  have e1 : toPy (.lst (c.map .int)) = some (.list (c.map .int)) := by
    rw [toPy, toPys_ints]
    rfl
  have e2 : toPy (.lst []) = some (.list []) := rfl
  unfold eqG0
  rw [e1, e2]
  dsimp only
  rw [if_pos (by rw [shaped_ints]; rfl)]
  have e3 : PyData.eqv (.list (c.map .int)) (.list []) = c.isEmpty := by
    rw [PyData.eqv]
    cases c with
    | nil => rfl
    | cons i c => rfl
  show Q (.bl (if true = true then !PyData.eqv (.list (c.map .int)) (.list []) else _)) s
  rw [e3]
  exact h
end
end Pl
set_option Elab.async false
set_option linter.all false
set_option maxRecDepth 100000
/-! Pl: try .. except .. as e. -/
namespace Pl
open Mp
open PySem (Str sizeLine PyData Addr)
section
variable {Q : D → Sto → Prop} {E : XT} {r : En} {s : Sto} {q : PQ}
theorem FP.rt_eq {v : D} {s2 : Sto} {f : Fl} (h : FP ⟨fun _ _ => False, fun d s => d = v ∧ s = s2, fun _ _ => False, fun _ _ => False, fun _ _ _ _ => False⟩ f) : f = .rt v s2 := by
  cases f with
  | rt d s =>
    obtain ⟨rfl, rfl⟩ := h
    rfl
  | nx _ _ => exact h.elim
  | bk _ _ => exact h.elim
  | ct _ _ => exact h.elim
  | exc _ _ _ _ => exact h.elim
  | bad => exact h.elim
abbrev retQ (v : D) (s2 : Sto) : PQ := ⟨fun _ _ => False, fun d s => d = v ∧ s = s2, fun _ _ => False, fun _ _ => False, fun _ _ _ _ => False⟩
/-- a handler that returns -/
theorem w_tryAs {i : Nat} {C0 : Str} {mb : DS} {tb : List (Str × Bool)} {mh : Addr → Option Addr → List (Str × D) → DS} (h : FP ⟨q.nx, q.rt, q.bk, q.ct, fun C fs r' s' => ∃ k, tb.lookup C = some k ∧ (k = true → C = C0 ∧ ∃ v s2, (∀ a d, FP (retQ v s2) (mh a d fs (r'.set i (some (.exn a d C fs))) s')) ∧ q.rt v s2) ∧ (k = false → q.ex C fs r' s')⟩ (mb r s)) : FP q (tryAsS i C0 mb tb mh r s) := by
  unfold tryAsS
  cases e : mb r s with
  | exc C fs r' s' =>
    rw [e] at h
    obtain ⟨k, e1, h1, h2⟩ := h
    dsimp only
    rw [e1]
    cases k
    · exact h2 rfl
    · obtain ⟨rfl, v, s2, h3, h4⟩ := h1 rfl
      dsimp only
      rw [if_pos rfl]
      have h5 : ∀ a d, offS i (mh a d fs (r'.set i (some (.exn a d C fs))) s') = .rt v s2 := fun a d => by
        rw [(h3 a d).rt_eq]
        rfl
      rw [joinF_of fun a d => (h5 a d).trans (h5 0 none).symm, h5]
      exact h4
  | nx r s => rw [e] at h; exact h
  | rt d s => rw [e] at h; exact h
  | bk r s => rw [e] at h; exact h
  | ct r s => rw [e] at h; exact h
  | bad => rw [e] at h; exact h
theorem o_isx {a : Addr} {d : Option Addr} {tt : List (String × Bool)} {C : Str} {fs : List (Str × D)} {n : String} {b : Bool} (hb : tt.lookup n = some b) (h : Q (.bl b) s) : RP Q E (isxD a d tt [.exn a d C fs, .ty n] s) := by
  unfold isxD
  dsimp only
  rw [if_pos ⟨rfl, rfl⟩, hb]
  exact h
theorem w_exn {a : Addr} {d : Option Addr} {f : Str} {m : DE} (h : RP (fun x s1 => ∃ C fs v, x = .exn a d C fs ∧ fs.lookup f = some v ∧ Q v s1) E (m r s)) : RP Q E (exnM a d f m r s) := w_bind (h.mono (fun x s1 ⟨C, fs, v, e, e2, h⟩ => by
  subst e
  dsimp only
  rw [if_pos ⟨rfl, rfl⟩, e2]
  exact h) fun _ _ _ h => h)
end
end Pl
set_option Elab.async false
set_option linter.all false
set_option maxRecDepth 100000
/-! Pl: rules for lists that grow, dict comprehensions, zip of a starred tuple, sorting. -/
namespace Pl
open Mp
open PySem (Str sizeLine PyData)
section
variable {Q : D → Sto → Prop} {E : XT} {r : En} {s : Sto} {q : PQ} {a : DE}
theorem RP.eqn {T : Type} {m : Res T} {v : T} {s' : Sto} (h : RP (fun y t => t = s' ∧ y = v) noX m) : m = .ok v s' := by
  obtain ⟨x, t, e, rfl, rfl⟩ := h.ex
  exact e
/-- a comprehension over a mapped list, whose elements leave the store -/
theorem w_lcX {T : Type} {c : Src} {g : DG} {te : DE} {Q : List D → Sto → Prop} (xs : List T) (f F : T → D) (hi : c.its = xs.map f) (hc : c.cel = none) (hl : xs.length ≤ sizeLine)
    (hs : ∀ x ∈ xs, ∃ p, g (f x) r s = some (p, s) ∧ RP (fun y t => t = s ∧ y = F x) noX (te p s)) (he : Q (xs.map F) s) : RP Q E (lcF c g yesM te r c.its [] s) :=
  w_lc (fun i l s' => s' = s ∧ l = (xs.take i).map F) hc ⟨rfl, by simp⟩ (fun i d l s' hd ⟨e1, e2⟩ => by
    subst e1
    rw [hi, List.getElem?_map] at hd
    cases ex : xs[i]? with
    | none => rw [ex] at hd; cases hd
    | some x =>
      rw [ex] at hd
      cases hd
      have hil := (List.getElem?_eq_some_iff.mp ex).1
      obtain ⟨p, h1, h2⟩ := hs x (List.mem_of_getElem? ex)
      refine ⟨_, h1, fun _ => ?_, fun z => by cases z⟩
      refine RP.of h2.eqn ⟨?_, rfl, ?_⟩
      · rw [e2, List.length_map, List.length_take]
        omega
      · rw [e2, List.take_succ, ex]
        simp) (fun l s' ⟨e1, e2⟩ => by
    subst e1
    rw [hi, List.length_map, List.take_length] at e2
    rw [e2]
    exact he)
/-! dict comprehensions -/
theorem w_dc0 {mi : DM Src} {g : DG} {tt : DM Bool} {tk te : DE} {vs : List Nat} (h : RP (fun c s' => RP (fun acc s2 => Q (.dct acc) s2) noX (dcF c g tt tk te (wipeE r vs) c.its [] s')) E (mi r s)) : RP Q E (dcM mi g tt tk te vs r s) := w_bind (h.mono (fun c s1 h => by
  cases e : dcF c g tt tk te (wipeE r vs) c.its [] s1 with
  | ok acc s2 => rw [e] at h; exact h
  | exc C fs s2 => rw [e] at h; exact h.elim
  | bad => rw [e] at h; exact h.elim) fun _ _ _ h => h)
theorem putA_new {T U : Type} [DecidableEq T] {l : List (T × U)} {k : T} {v : U} (h : k ∉ l.map (·.1)) : putA l k v = l ++ [(k, v)] := by
  unfold putA
  rw [if_neg]
  intro z
  rw [List.any_eq_true] at z
  obtain ⟨p, hp, e⟩ := z
  exact h (List.mem_map.mpr ⟨p, hp, of_decide_eq_true e⟩)
theorem w_dcX {T : Type} {c : Src} {g : DG} {tk te : DE} {Q : List (L2.Key × D) → Sto → Prop} (f F : T → D) (K : T → L2.Key) (hc : c.cel = none) :
    ∀ (xs : List T) (acc : List (L2.Key × D)), acc.length + xs.length ≤ sizeLine → (xs.map K).Nodup → (∀ x ∈ xs, K x ∉ acc.map (·.1)) →
    (∀ x ∈ xs, ∃ p y, g (f x) r s = some (p, s) ∧ RP (fun z t => t = s ∧ z = y) noX (tk p s) ∧ keyD y = some (K x) ∧ RP (fun z t => t = s ∧ z = F x) noX (te p s)) → Q (acc ++ xs.map fun x => (K x, F x)) s → RP Q E (dcF c g yesM tk te r (xs.map f) acc s)
  | [], acc, _, _, _, _, he => by
    rw [List.map_nil]
    unfold dcF
    rw [if_pos (by unfold SrcOk; rw [hc]; trivial)]
    rw [List.map_nil, List.append_nil] at he
    exact he
  | x :: xs, acc, hl, hn, ha, hs, he => by
    obtain ⟨p, y, h1, h2, h3, h4⟩ := hs x List.mem_cons_self
    rw [List.map_cons]
    unfold dcF
    rw [if_pos (by unfold SrcOk; rw [hc]; trivial), h1]
    dsimp only
    rw [show yesM p s = .ok true s from rfl]
    dsimp only
    rw [if_pos rfl, h2.eqn]
    dsimp only
    rw [h4.eqn]
    dsimp only
    rw [h3]
    dsimp only
    simp only [List.length_cons] at hl
    rw [if_pos (by omega), putA_new (ha x List.mem_cons_self)]
    rw [List.map_cons, List.nodup_cons] at hn
    refine w_dcX f F K hc xs (acc ++ [(K x, F x)]) (by rw [List.length_append]; simp; omega) hn.2 (fun z hz hm => ?_) (fun z hz => hs z (List.mem_cons_of_mem _ hz)) ?_
    · rw [List.map_append, List.mem_append] at hm
      rcases hm with hm | hm
      · exact ha z (List.mem_cons_of_mem _ hz) hm
      · simp at hm
        exact hn.1 (hm ▸ List.mem_map_of_mem hz)
    · rw [List.append_assoc]
      exact he
/-! methods -/
theorem w_bm {ty : Sto → D → Bool} {f : D → List D → Sto → Res D} {l : DM (List D)} (h : RP (fun x s1 => ty s1 x = true ∧ RP (fun ds s2 => RP Q E (f x ds s2)) E (l r s1)) E (a r s)) : RP Q E (bmD ty f a l r s) := w_bind (h.mono (fun x s ⟨e, h⟩ => by
  rw [if_pos e]
  exact w_bind h) fun _ _ _ h => h)
theorem o_app {n : Nat} {l : List D} {d : D} (hs : s[n]? = some (some (.lst l))) (hl : l.length < sizeLine) (h : Q .non (s.set n (some (.lst (l ++ [d]))))) : RP Q E (appD (.cel n) [d] s) := by
  unfold appD
  dsimp only
  rw [hs]
  dsimp only
  rw [if_pos hl]
  exact h
theorem o_pop {n k : Nat} {l : List D} {d : D} {i : Int} (hs : s[n]? = some (some (.lst l))) (hi : i = (k : Int)) (hk : l[k]? = some d) (hl : l.length ≤ sizeLine) (h : Q d (s.set n (some (.lst (l.eraseIdx k))))) : RP Q E (popD (.cel n) [.int i] s) := by
  have hlt := (List.getElem?_eq_some_iff.mp hk).1
  have hz : sizeLine = 16777216 := by decide
  unfold popD
  dsimp only
  rw [hs]
  dsimp only
  have e : PySem.seqIndex? i l.length = some k := by
    subst hi
    unfold PySem.seqIndex?
    simp
    omega
  rw [if_pos (by subst hi; constructor <;> omega), e]
  dsimp only
  rw [hk]
  exact h
theorem strsOf_map : ∀ ys : List Str, strsOf (ys.map .str) = some ys
  | [] => rfl
  | y :: ys => by
    show (strsOf (ys.map .str)).map (fun l => y :: l) = _
    rw [strsOf_map ys]
    rfl
theorem o_join {x : D} {a : Str} {ys : List Str} (hx : lstOf s x = some (ys.map .str)) (hl : (ys.map (·.length)).sum + ys.length * a.length ≤ 16777216) (h : Q (.str (PySem.Txt.join a ys)) s) : RP Q E (joinD (.str a) [x] s) := by
  unfold joinD
  dsimp only
  rw [hx]
  dsimp only
  rw [strsOf_map]
  dsimp only
  rw [if_pos hl]
  exact h
/-- texts of one sign each -/
theorem join_chars (cs : List Nat) : PySem.Txt.join "" (cs.map fun c => (⟨#[c]⟩ : Str)) = ⟨cs.toArray⟩ := by
  show PySem.Builtin.Str.glued _ _ = _
  rw [PySem.StrLaws.glued_eq_join]
  induction cs with
  | nil => rfl
  | cons c cs ih =>
    cases cs with
    | nil => rfl
    | cons c2 cs =>
      show (⟨#[c]⟩ : Str) ++ "" ++ Str.join "" ((c2 :: cs).map fun c => (⟨#[c]⟩ : Str)) = _
      rw [ih]
      show Str.mk (#[c] ++ #[] ++ (c2 :: cs).toArray) = Str.mk (c :: c2 :: cs).toArray
      congr 1
      apply Array.ext'
      simp
theorem len_chars (cs : List Nat) : ((cs.map fun c => (⟨#[c]⟩ : Str)).map (·.length)).sum = cs.length := by
  induction cs with
  | nil => rfl
  | cons c cs ih =>
    rw [List.map_cons, List.map_cons, List.sum_cons, ih]
    show 1 + _ = _
    rw [List.length_cons]
    omega
theorem o_sortedI {x : D} {ns : List Int} (h1 : dctOf s x = none) (h2 : lstOf s x = some (ns.map .int)) (h : Q (.lst ((ns.mergeSort leI2).map .int)) s) : RP Q E (sortedD [x] s) := by
  unfold sortedD
  dsimp only
  rw [h1]
  dsimp only
  rw [h2]
  dsimp only
  rw [show intsOf (ns.map .int) = some ns from by have := intsOf_map (fun z : Int => z) ns; rw [List.map_id'] at this; exact this]
  exact h
theorem w_listRg {k : Int} (h : RP (fun x s1 => x = .int k ∧ 0 ≤ k ∧ k ≤ 16777216 ∧ Q (.lst (intL 0 k.toNat)) s1) E (a r s)) : RP Q E (listRgM false a r s) := w_bind (h.mono (fun x s ⟨e, h1, h2, h⟩ => by
  subst e
  unfold listRgD
  dsimp only
  rw [if_pos ⟨h1, h2⟩]
  exact h) fun _ _ _ h => h)
theorem o_lenXD {x : D} {m : List (L2.Key × D)} (h1 : dctOf s x = some m) (h : Q (.int (m.length : Nat)) s) : RP Q E (lenX [x] s) := by
  unfold lenX
  dsimp only
  rw [h1]
  exact h
end
end Pl
set_option Elab.async false
set_option linter.all false
set_option maxRecDepth 100000
/-! Pl: letters and words as texts. -/
namespace Pl
open Mp
open PySem (Str sizeLine PyData)
def ch (i : Nat) : Str := ⟨#[97 + i]⟩
/-- the text of these letters -/
def LS (ps : List Nat) : Str := ⟨(ps.map (97 + ·)).toArray⟩
theorem LS_len (ps : List Nat) : (LS ps).length = ps.length := by
  show (ps.map (97 + ·)).toArray.size = _
  simp
theorem LS_chars (ps : List Nat) : chars (LS ps) = ps.map fun i => .str (ch i) := by
  unfold chars LS
  simp only [List.map_map]
  rfl
theorem ch_inj {i j : Nat} (h : ch i = ch j) : i = j := by
  have h1 : (#[97 + i] : Array Nat) = #[97 + j] := congrArg Str.cps h
  simp at h1
  exact h1
theorem LS_join (ps : List Nat) : PySem.Txt.join "" (ps.map ch) = LS ps := by
  have h := join_chars (ps.map (97 + ·))
  rw [List.map_map] at h
  exact h
theorem LS_joinlen (ps : List Nat) : ((ps.map ch).map (·.length)).sum = ps.length := by
  have h := len_chars (ps.map (97 + ·))
  rw [List.length_map] at h
  rw [← h, List.map_map, List.map_map, List.map_map]
  rfl
theorem inStr_LS (i : Nat) (ps : List Nat) : inStr (ch i) (LS ps) = decide (i ∈ ps) := by
  unfold inStr LS ch
  show decide (97 + i ∈ (ps.map (97 + ·))) = _
  apply decide_eq_decide.mpr
  simp
theorem abc : (Str.ofString "abcdefghijklmnopqrstuvwxyz") = LS (List.range 26) := by decide +kernel
theorem inStr_abc {i : Nat} (h : i < 26) : inStr (ch i) (Str.ofString "abcdefghijklmnopqrstuvwxyz") = true := by
  rw [abc, inStr_LS, decide_eq_true_iff]
  exact List.mem_range.mpr h
theorem idx_LS {ps : List Nat} {k p : Nat} {i : Int} {s : Sto} {Q : D → Sto → Prop} {E : XT} (hl : ps.length ≤ sizeLine) (h0 : i = (k : Int)) (h1 : ps[k]? = some p) (h : Q (.str (ch p)) s) : RP Q E (idxD (.str (LS ps)) (.int i) s) := by
  have hlt := (List.getElem?_eq_some_iff.mp h1).1
  unfold idxD
  rw [show dctOf s (.str (LS ps)) = none from rfl]
  dsimp only
  rw [if_pos (by rw [LS_len]; exact hl)]
  subst h0
  have e : L2.atI (LS ps).cps.toList (k : Int) = some (97 + p) := by
    unfold L2.atI L2.ixN
    have z : (LS ps).cps.toList = ps.map (97 + ·) := by simp [LS]
    rw [z, List.length_map, if_pos (by omega), if_pos (by omega)]
    simp [h1]
  rw [e]
  exact h
theorem lt_ch {a b : Nat} {s : Sto} {Q : D → Sto → Prop} {E : XT} (h : Q (.bl (decide (a < b))) s) : RP Q E (ltI (.str (ch a)) (.str (ch b)) s) := by
  have e : decide ((ch a).cps.toList < (ch b).cps.toList) = decide (a < b) := by
    apply decide_eq_decide.mpr
    show [97 + a] < [97 + b] ↔ a < b
    rw [List.cons_lt_cons_iff]
    constructor
    · rintro (h | ⟨_, h⟩)
      · omega
      · exact absurd h (by simp)
    · intro h
      exact .inl (by omega)
  show Q (.bl (decide ((ch a).cps.toList < (ch b).cps.toList))) s
  rw [e]
  exact h
theorem o_inS {x y : Str} {s : Sto} {Q : D → Sto → Prop} {E : XT} (h : Q (.bl (inStr x y)) s) : RP Q E (inD false (.str x) (.str y) s) := h
/-- a dict by letters -/
def byL {T : Type} (ps : List Nat) (f : Nat → T) : List (L2.Key × T) := ps.map fun i => (.inr (ch i), f i)
theorem byL_get {T : Type} {ps : List Nat} {f : Nat → T} {i : Nat} (h : i ∈ ps) : getK (byL ps f) (.inr (ch i)) = some (f i) := by
  unfold byL
  induction ps with
  | nil => cases h
  | cons j ps ih =>
    unfold getK at ih ⊢
    rw [List.map_cons, List.find?_cons]
    by_cases e : j = i
    · subst e
      simp
    · have : decide ((Sum.inr (ch j) : L2.Key) = .inr (ch i)) = false := decide_eq_false fun z => e (ch_inj (Sum.inr.inj z))
      dsimp only
      rw [this]
      rcases List.mem_cons.mp h with rfl | h
      · exact absurd rfl e
      · exact ih h
theorem byL_len {T : Type} {ps : List Nat} {f : Nat → T} : (byL ps f).length = ps.length := by unfold byL; simp
theorem key_nodup {ps : List Nat} (h : ps.Nodup) : (ps.map fun i => (Sum.inr (ch i) : L2.Key)).Nodup := by
  induction ps with
  | nil => exact .nil
  | cons j ps ih =>
    rw [List.nodup_cons] at h
    rw [List.map_cons, List.nodup_cons]
    refine ⟨fun z => ?_, ih h.2⟩
    obtain ⟨i, hi, e⟩ := List.mem_map.mp z
    exact h.1 (ch_inj (Sum.inr.inj e) ▸ hi)
/-- letters: one to four, ascending -/
structure Lets (ps : List Nat) : Prop where
  pos : 1 ≤ ps.length
  few : ps.length ≤ 4
  lt : ∀ i ∈ ps, i < 26
  asc : ps.Pairwise (· < ·)
theorem Lets.nodup {ps : List Nat} (h : Lets ps) : ps.Nodup := h.asc.imp fun z => Nat.ne_of_lt z
end Pl
set_option Elab.async false
set_option linter.all false
set_option maxRecDepth 100000
set_option maxHeartbeats 4000000
/-! Pl: lambdas handed to a def; texts by their signs. -/
namespace Pl
open Mp
open PySem (Str sizeLine PyData Addr)
section
variable {Q : D → Sto → Prop} {E : XT} {r : En} {s : Sto} {te : DE}
/-- texts by their signs -/
def CS (cs : List Nat) : Str := ⟨cs.toArray⟩
theorem LS_CS (ps : List Nat) : LS ps = CS (ps.map (97 + ·)) := rfl
theorem CS_app (a b : List Nat) : CS a ++ CS b = CS (a ++ b) := by
  show (⟨a.toArray ++ b.toArray⟩ : Str) = ⟨_⟩
  simp
theorem LS_app (ps qs : List Nat) : LS ps ++ LS qs = LS (ps ++ qs) := by
  rw [LS_CS, LS_CS, CS_app, LS_CS, List.map_append]
theorem last_idx {T : Type} {l : List T} {x : T} (h : l.getLast? = some x) : L2.atI l (-1) = some x := by
  unfold L2.atI L2.ixN
  cases l with
  | nil => cases h
  | cons a l =>
    rw [List.getLast?_eq_getElem?] at h
    rw [← h, if_neg (by decide), if_pos (by simp; omega)]
    have e : ((-1 : Int) + ((a :: l).length : Nat)).toNat = (a :: l).length - 1 := by simp; omega
    show (a :: l)[((-1 : Int) + ((a :: l).length : Nat)).toNat]? = _
    rw [e]
theorem idxL_last {l : List D} {d : D} (h1 : l.getLast? = some d) (h : Q d s) : RP Q E (idxD (.lst l) (.int (-1)) s) := by
  unfold idxD
  rw [show dctOf s (.lst l) = none from rfl]
  dsimp only [seqOf, lstOf, lstX]
  rw [last_idx h1]
  exact h
/-- a comprehension with a test over a mapped list, which leaves the store -/
theorem w_lcY {T : Type} {c : Src} {g : DG} {tt : DM Bool} {te : DE} {Q : List D → Sto → Prop} (xs : List T) (f F : T → D) (C : T → Bool) (hi : c.its = xs.map f) (hc : c.cel = none) (hl : xs.length ≤ sizeLine)
    (hs : ∀ x ∈ xs, ∃ p, g (f x) r s = some (p, s) ∧ RP (fun k s1 => s1 = s ∧ k = C x) noX (tt p s) ∧ (C x = true → RP (fun y t => t = s ∧ y = F x) noX (te p s))) (he : Q ((xs.filter C).map F) s) : RP Q E (lcF c g tt te r c.its [] s) :=
  w_lc (fun i l s' => s' = s ∧ l = ((xs.take i).filter C).map F ∧ l.length ≤ i) hc ⟨rfl, by simp, Nat.le_refl _⟩ (fun i d l s' hd ⟨e1, e2, e3⟩ => by
    subst e1
    rw [hi, List.getElem?_map] at hd
    cases ex : xs[i]? with
    | none => rw [ex] at hd; cases hd
    | some x =>
      rw [ex] at hd
      cases hd
      have hil := (List.getElem?_eq_some_iff.mp ex).1
      obtain ⟨p, h1, h2, h3⟩ := hs x (List.mem_of_getElem? ex)
      refine ⟨_, h1, ?_⟩
      refine RP.of h2.eqn ⟨fun hk => ?_, fun hk => ?_⟩
      · refine RP.of (h3 hk).eqn ⟨by omega, rfl, ?_, by simp; omega⟩
        rw [e2, List.take_succ, ex]
        simp [hk]
      · refine ⟨rfl, ?_, by omega⟩
        rw [e2, List.take_succ, ex]
        simp [hk]) (fun l s' ⟨e1, e2, _⟩ => by
    subst e1
    rw [hi, List.length_map, List.take_length] at e2
    rw [e2]
    exact he)
theorem o_ninS {x y : Str} (h : Q (.bl (!inStr x y)) s) : RP Q E (inD true (.str x) (.str y) s) := h
end
end Pl
set_option Elab.async false
set_option linter.all false
set_option maxRecDepth 100000
set_option maxHeartbeats 4000000
/-! Pl: sums of products over a ring. -/
namespace Pl
section
end
end Pl
namespace Pl
open Mp
open PySem (Str sizeLine)
end Pl
namespace Pl
open Mp
open PySem (Str sizeLine PyData)
section
variable {s : Sto} {Q : D → Sto → Prop} {E : XT}
theorem LS_list (ws : List Nat) : (LS ws).cps.toList = ws.map (97 + ·) := by simp [LS]
theorem LS_cutl {ws : List Nat} {i : Nat} (h : i ≤ ws.length) : L2.cutS (LS ws) none (some (i : Int)) = LS (ws.take i) := by
  unfold L2.cutS
  rw [HT.sIx_none, HT.sIx_nat, LS_len, LS_list, List.drop_zero, Nat.min_eq_left h, Nat.sub_zero]
  unfold LS
  rw [List.map_take]
theorem o_sliS {c : Bool} {z : Str} {lo hi : Option Int} (hl : z.length ≤ sizeLine) (h : Q (.str (L2.cutS z lo hi)) s) : RP Q E (sliD c (.str z) lo hi s) := by
  unfold sliD
  dsimp only
  rw [if_pos hl]
  exact h
end
end Pl
set_option Elab.async false
set_option linter.all false
set_option maxRecDepth 100000
set_option maxHeartbeats 4000000
/-! Pl: rules for two clauses, starred items, dict(..), own operators, several except clauses. -/
namespace Pl
open Mp
open PySem (Str sizeLine PyData Addr)
section
variable {Q : D → Sto → Prop} {E : XT} {r : En} {s : Sto} {q : PQ} {a b : DE}
/-! two clauses -/
theorem w_lc20 {k : Bool} {mi mi1 : DM Src} {g g1 : DG} {tt tt1 : DM Bool} {te : DE} {vs vs1 : List Nat} (h : RP (fun c s' => RP (fun acc s2 => RP Q E (newL k acc s2)) noX (lcF2 c g tt mi1 g1 tt1 te vs1 (wipeE r vs) c.its [] s')) E (mi r s)) : RP Q E (lc2M k mi g tt mi1 g1 tt1 te vs vs1 r s) := w_bind (h.mono (fun c s1 h => by
  cases e : lcF2 c g tt mi1 g1 tt1 te vs1 (wipeE r vs) c.its [] s1 with
  | ok acc s2 => rw [e] at h; exact h
  | exc C fs s2 => rw [e] at h; exact h.elim
  | bad => rw [e] at h; exact h.elim) fun _ _ _ h => h)
theorem w_seqJ {Q : Src → Sto → Prop} (h : RP (fun x s1 => ∃ c, srcJ s1 x = some c ∧ Q c s1) E (a r s)) : RP Q E (seqJ a r s) := w_bind (h.mono (fun x s ⟨c, e, h⟩ => by
  rw [e]
  exact h) fun _ _ _ h => h)
/-! starred items -/
theorem w_starC {Q : List D → Sto → Prop} {m : DM (List D)} (h : RP (fun x s1 => ∃ l, seqOf s1 x = some l ∧ RP (fun ys s2 => Q (l ++ ys) s2) E (m r s1)) E (a r s)) : RP Q E (starC a m r s) := w_bind (h.mono (fun x s ⟨l, e, h⟩ => w_bind (by
  show RP _ E (okO s (seqOf s x))
  rw [e]
  exact w_bind h)) fun _ _ _ h => h)
theorem w_spr (h : RP (fun x s1 => ∃ m, dctOf s1 x = some m ∧ Q (.dct m) s1) E (a r s)) : RP Q E (sprM a r s) := w_bind (h.mono (fun x s ⟨m, e, h⟩ => by
  rw [e]
  exact h) fun _ _ _ h => h)
/-! dict(..) -/
theorem pairsD_map {T : Type} (K : T → L2.Key) (F : T → D) : ∀ xs : List T, pairsD (xs.map fun x => .tup [keyV (K x), F x]) = some (xs.map fun x => (K x, F x))
  | [] => rfl
  | x :: xs => by
    rw [List.map_cons]
    unfold pairsD
    rw [show keyD (keyV (K x)) = some (K x) from by cases K x <;> rfl]
    dsimp only
    rw [pairsD_map K F xs]
    rfl
theorem mergeA_new {U : Type} : ∀ (kvs l : List (L2.Key × U)), (kvs.map (·.1)).Nodup → (∀ p ∈ kvs, p.1 ∉ l.map (·.1)) → mergeA l kvs = l ++ kvs
  | [], l, _, _ => (List.append_nil l).symm
  | p :: kvs, l, hn, h => by
    rw [List.map_cons, List.nodup_cons] at hn
    show mergeA (putA l p.1 p.2) kvs = _
    rw [putA_new (h p List.mem_cons_self), mergeA_new kvs _ hn.2 fun z hz hm => ?_, List.append_assoc]
    · rfl
    · rw [List.map_append, List.mem_append] at hm
      rcases hm with hm | hm
      · exact h z (List.mem_cons_of_mem _ hz) hm
      · simp at hm
        exact hn.1 (hm ▸ List.mem_map_of_mem hz)
theorem o_dictP {T : Type} (xs : List T) (K : T → L2.Key) (F : T → D) {x : D} (h0 : dctOf s x = none) (hl : lstOf s x = some (xs.map fun x => .tup [keyV (K x), F x])) (hn : (xs.map K).Nodup) (h : Q (.dct (xs.map fun x => (K x, F x))) s) : RP Q E (dictPD false [x] s) := by
  unfold dictPD
  dsimp only
  rw [h0]
  dsimp only
  rw [hl]
  dsimp only
  rw [pairsD_map]
  dsimp only
  rw [mergeA_new _ [] (by rw [List.map_map]; exact hn) (fun _ _ z => by cases z), List.nil_append]
  exact h
theorem o_dictD {k : Bool} {x : D} {m : List (L2.Key × D)} (h0 : dctOf s x = some m) (h : RP Q E (newDc k m s)) : RP Q E (dictPD k [x] s) := by
  unfold dictPD
  dsimp only
  rw [h0]
  exact h
/-! own operators -/
theorem o_own0 {tb : List (Str × DF)} {f : D → D → Sto → Res D} {x y : D} (h0 : insOf s x = none) (h : RP Q E (f x y s)) : RP Q E (ownD tb f x y s) := by
  unfold ownD
  rw [h0]
  exact h
theorem o_eqO0 {neg : Bool} {tb : List ((Str × Str) × DF)} {x y : D} (h0 : insOf s x = none) (h : RP Q E (eqG neg x y s)) : RP Q E (eqO neg tb x y s) := by
  unfold eqO
  rw [h0]
  exact h
/-! several except clauses -/
theorem w_tryN {x : DS} {hs : List Hd} (h : FP ⟨q.nx, q.rt, q.bk, q.ct, fun C fs r' s' => FP q (manyF hs C fs r' s')⟩ (x r s)) : FP q (tryNS x hs r s) := by
  unfold tryNS
  cases e : x r s with
  | exc C fs r' s' => rw [e] at h; exact h
  | nx r s => rw [e] at h; exact h
  | rt d s => rw [e] at h; exact h
  | bk r s => rw [e] at h; exact h
  | ct r s => rw [e] at h; exact h
  | bad => rw [e] at h; exact h
end
end Pl
namespace Pl
open Mp
open PySem (Str sizeLine PyData Addr)
section
end
end Pl
namespace Pl
open Mp
open PySem (Str sizeLine PyData Addr)
section
variable {Q : D → Sto → Prop} {E : XT} {r : En} {s : Sto}
theorem o_idxC {c k : Nat} {l : List D} {d : D} {i : Int} (hs : s[c]? = some (some (.lst l))) (h0 : i = (k : Int)) (h1 : l[k]? = some d) (h : Q d s) : RP Q E (idxD (.cel c) (.int i) s) := by
  have hk := (List.getElem?_eq_some_iff.mp h1).1
  have e : L2.atI l i = some d := by
    subst h0
    unfold L2.atI L2.ixN
    rw [if_pos (by omega), if_pos (by omega)]
    simpa using h1
  have ed : dctOf s (.cel c) = none := by
    unfold dctOf
    dsimp only
    rw [hs]
  have es : lstOf s (.cel c) = some l := by
    unfold lstOf lstX
    dsimp only
    rw [hs]
  unfold idxD
  rw [ed]
  dsimp only
  rw [es]
  dsimp only
  rw [e]
  exact h
theorem o_lenC {c : Nat} {l : List D} (hs : s[c]? = some (some (.lst l))) (h : Q (.int (l.length : Nat)) s) : RP Q E (lenD [.cel c] s) :=
  o_len (l := l) (fun z => (by intro q; cases q)) (by show lstOf s (.cel c) = _; unfold lstOf lstX; dsimp only; rw [hs]) h
end
end Pl
set_option Elab.async false
set_option linter.all false
set_option maxRecDepth 100000
/-! Pl: how long a repr is, dicts too. -/
namespace Pl
open Mp
open PySem (Str sizeLine PyData)
open PySem
mutual
def wd : PyData → Nat
  | .none => 4
  | .bool _ => 5
  | .int _ => 600
  | .str x => (reprText x).length
  | .list xs => wdAll xs + 4
  | .tuple xs => wdAll xs + 4
  | .dict kvs => wdKv kvs + 4
def wdAll : List PyData → Nat
  | [] => 0
  | x :: xs => wd x + 2 + wdAll xs
def wdKv : List (PyData × PyData) → Nat
  | [] => 0
  | (a, b) :: r => wd a + wd b + 4 + wdKv r
end
/-! texts of sound signs -/
def SOk (z : Str) : Prop := ∀ c ∈ z.cps.toList, c < 0x110000
theorem SOk.iff {z : Str} : SOk z ↔ PyData.strOk z = true := by
  unfold SOk PyData.strOk
  rw [← Array.all_toList, List.all_eq_true]
  simp
theorem SOk.of (x : String) : SOk (Str.ofString x) := by
  rw [Str.ofString_eq_toList]
  intro c hc
  have hc : c ∈ x.toList.map Char.toNat := by simpa using hc
  obtain ⟨k, _, rfl⟩ := List.mem_map.mp hc
  have := k.valid
  show k.val.toNat < _
  rcases this with h | h <;> omega
theorem SOk.app {a b : Str} (ha : SOk a) (hb : SOk b) : SOk (a ++ b) := fun c hc => by
  have hc : c ∈ (a.cps ++ b.cps).toList := hc
  rw [Array.toList_append, List.mem_append] at hc
  exact hc.elim (ha c) (hb c)
theorem SOk.join : ∀ {ts : List Str}, (∀ t ∈ ts, SOk t) → SOk (Str.join ", " ts)
  | [], _ => fun c hc => by cases hc
  | [x], h => h x List.mem_cons_self
  | x :: y :: r, h => by
    show SOk (x ++ Str.ofString ", " ++ Str.join ", " (y :: r))
    exact ((h x List.mem_cons_self).app (SOk.of _)).app (SOk.join fun t ht => h t (List.mem_cons_of_mem _ ht))
mutual
/-- all texts in it are sound when shown -/
def snd : PyData → Prop
  | .none => True
  | .bool _ => True
  | .int _ => True
  | .str x => SOk (reprText x)
  | .list xs => sndAll xs
  | .tuple xs => sndAll xs
  | .dict kvs => sndKv kvs
def sndAll : List PyData → Prop
  | [] => True
  | x :: xs => snd x ∧ sndAll xs
def sndKv : List (PyData × PyData) → Prop
  | [] => True
  | (a, b) :: r => snd a ∧ snd b ∧ sndKv r
end
/-- data that can be shown: so much fuel, so deep, so wide -/
def Rdy (m k W : Nat) (d : D) : Prop := ∃ p, (∀ (s : Sto) n, m ≤ n → rdP s n d = some p) ∧ p.showable = true ∧ p.depth ≤ k ∧ wd p ≤ W ∧ snd p
def Rds (m k W : Nat) (l : List D) : Prop := ∃ ps, (∀ (s : Sto) n, m ≤ n → rdPs s n l = some ps) ∧ PyData.showableAll ps = true ∧ PyData.depthAll ps ≤ k ∧ wdAll ps ≤ W ∧ ps.length = l.length ∧ sndAll ps
section
variable {m m' k k' W W' : Nat} {d : D} {l : List D}
theorem Rdy.mono (h : Rdy m k W d) (h1 : m ≤ m') (h2 : k ≤ k') (h3 : W ≤ W') : Rdy m' k' W' d := by
  obtain ⟨p, e, a, b, c, o⟩ := h
  exact ⟨p, fun s n hn => e s n (Nat.le_trans h1 hn), a, Nat.le_trans b h2, Nat.le_trans c h3, o⟩
theorem Rds.nil : Rds 1 0 0 [] := by
  refine ⟨[], fun s n hn => ?_, rfl, Nat.le_refl _, Nat.le_refl _, rfl, trivial⟩
  obtain ⟨n, rfl⟩ : ∃ j, n = j + 1 := ⟨n - 1, by omega⟩
  simp only [rdPs]
theorem Rds.cons (h : Rdy m k W d) (h2 : Rds m' k' W' l) : Rds (max m m' + 1) (max k k') (W + 2 + W') (d :: l) := by
  obtain ⟨p, e1, a1, b1, c1, o1⟩ := h
  obtain ⟨ps, e2, a2, b2, c2, l2, o2⟩ := h2
  refine ⟨p :: ps, fun s n hn => ?_, ?_, ?_, ?_, by rw [List.length_cons, l2, List.length_cons], by rw [sndAll]; exact ⟨o1, o2⟩⟩
  · obtain ⟨n, rfl⟩ : ∃ j, n = j + 1 := ⟨n - 1, by omega⟩
    simp only [rdPs]
    rw [e1 s n (by omega), e2 s n (by omega)]
    rfl
  · rw [PyData.showableAll, a1, a2]
    rfl
  · rw [PyData.depthAll]
    omega
  · rw [wdAll]
    omega
theorem Rds.all : ∀ {l : List D}, (∀ d ∈ l, Rdy m k W d) → Rds (m + l.length + 1) k ((W + 2) * l.length) l
  | [], _ => by
    refine ⟨[], fun s n hn => ?_, rfl, Nat.zero_le _, Nat.zero_le _, rfl, trivial⟩
    obtain ⟨n, rfl⟩ : ∃ j, n = j + 1 := ⟨n - 1, by omega⟩
    simp only [rdPs]
  | d :: l, h => by
    obtain ⟨p, e1, a1, b1, c1, o1⟩ := h d List.mem_cons_self
    obtain ⟨ps, e2, a2, b2, c2, l2, o2⟩ := Rds.all (l := l) fun x hx => h x (List.mem_cons_of_mem _ hx)
    refine ⟨p :: ps, fun s n hn => ?_, ?_, ?_, ?_, by rw [List.length_cons, l2, List.length_cons], by rw [sndAll]; exact ⟨o1, o2⟩⟩
    · rw [List.length_cons] at hn
      obtain ⟨n, rfl⟩ : ∃ j, n = j + 1 := ⟨n - 1, by omega⟩
      simp only [rdPs]
      rw [e1 s n (by omega), e2 s n (by omega)]
      rfl
    · rw [PyData.showableAll, a1, a2]
      rfl
    · rw [PyData.depthAll]
      omega
    · rw [wdAll, List.length_cons, Nat.mul_succ]
      omega
theorem Rdy.int {i : Int} (h : i.natAbs < 2 ^ 1900) : Rdy 1 0 600 (.int i) := by
  refine ⟨.int i, fun s n hn => ?_, ?_, Nat.le_refl _, Nat.le_refl _, trivial⟩
  · obtain ⟨n, rfl⟩ : ∃ j, n = j + 1 := ⟨n - 1, by omega⟩
    simp only [rdP]
  · rw [PyData.showable]
    refine decide_eq_true ?_
    by_cases z : i.natAbs = 0
    · rw [z]
      decide
    · exact (Nat.log2_lt z).mpr (Nat.lt_of_lt_of_le h (Nat.pow_le_pow_right (by decide) (by decide)))
theorem Rdy.str {z : Str} (h : ∀ c ∈ z.cps.toList, c < 16 ^ 8) (ho : SOk (reprText z)) : Rdy 1 0 (10 * z.length + 2) (.str z) := by
  refine ⟨.str z, fun s n hn => ?_, rfl, Nat.le_refl _, PySem.StrLaws.reprText_len z h, by rw [snd]; exact ho⟩
  obtain ⟨n, rfl⟩ : ∃ j, n = j + 1 := ⟨n - 1, by omega⟩
  simp only [rdP]
theorem Rdy.tup (h : Rds m k W l) : Rdy (m + 1) (k + 1) (W + 4) (.tup l) := by
  obtain ⟨ps, e, a, b, c, _, o⟩ := h
  refine ⟨.tuple ps, fun s n hn => ?_, by rw [PyData.showable]; exact a, by rw [PyData.depth]; omega, by rw [wd]; omega, by rw [snd]; exact o⟩
  obtain ⟨n, rfl⟩ : ∃ j, n = j + 1 := ⟨n - 1, by omega⟩
  simp only [rdP]
  rw [e s n (by omega)]
  rfl
theorem Rdy.lst (h : Rds m k W l) : Rdy (m + 1) (k + 1) (W + 4) (.lst l) := by
  obtain ⟨ps, e, a, b, c, _, o⟩ := h
  refine ⟨.list ps, fun s n hn => ?_, by rw [PyData.showable]; exact a, by rw [PyData.depth]; omega, by rw [wd]; omega, by rw [snd]; exact o⟩
  obtain ⟨n, rfl⟩ : ∃ j, n = j + 1 := ⟨n - 1, by omega⟩
  simp only [rdP]
  rw [e s n (by omega)]
  rfl
theorem kv_show : ∀ {ks ps : List PyData}, PyData.showableAll ks = true → PyData.showableAll ps = true → ks.length = ps.length → PyData.showableKv (ks.zip ps) = true ∧ PyData.depthKv (ks.zip ps) ≤ max (PyData.depthAll ks) (PyData.depthAll ps) ∧ wdKv (ks.zip ps) ≤ wdAll ks + wdAll ps
  | [], [], _, _, _ => ⟨rfl, by simp [PyData.depthKv], by simp [wdKv]⟩
  | [], _ :: _, _, _, h => by cases h
  | _ :: _, [], _, _, h => by cases h
  | x :: ks, y :: ps, h1, h2, h3 => by
    rw [PyData.showableAll, Bool.and_eq_true] at h1 h2
    obtain ⟨a, b, c⟩ := kv_show h1.2 h2.2 (by simpa using h3)
    rw [List.zip_cons_cons, PyData.showableKv, PyData.depthKv, wdKv, PyData.depthAll, PyData.depthAll, wdAll, wdAll]
    refine ⟨by rw [h1.1, h2.1, a]; rfl, by omega, by omega⟩
theorem kv_snd : ∀ {ks ps : List PyData}, sndAll ks → sndAll ps → sndKv (ks.zip ps)
  | [], ps, _, _ => by rw [List.zip_nil_left]; trivial
  | x :: ks, [], _, _ => by rw [List.zip_nil_right]; trivial
  | x :: ks, y :: ps, h1, h2 => by
    rw [sndAll] at h1 h2
    rw [List.zip_cons_cons, sndKv]
    exact ⟨h1.1, h2.1, kv_snd h1.2 h2.2⟩
theorem Rdy.dct {m0 : List (L2.Key × D)} {K : Nat} (hk : PyData.showableAll (m0.map fun p => keyP p.1) = true) (hd : PyData.depthAll (m0.map fun p => keyP p.1) = 0) (hw : wdAll (m0.map fun p => keyP p.1) ≤ K) (ho : sndAll (m0.map fun p => keyP p.1)) (h : Rds m k W (m0.map (·.2))) : Rdy (m + 1) (k + 1) (K + W + 4) (.dct m0) := by
  obtain ⟨ps, e, a, b, c, hl, o⟩ := h
  obtain ⟨x, y, z⟩ := kv_show hk a (by rw [hl, List.length_map, List.length_map])
  refine ⟨.dict ((m0.map fun p => keyP p.1).zip ps), fun s n hn => ?_, by rw [PyData.showable]; exact x, by rw [PyData.depth]; omega, by rw [wd]; omega, by rw [snd]; exact kv_snd ho o⟩
  obtain ⟨n, rfl⟩ : ∃ j, n = j + 1 := ⟨n - 1, by omega⟩
  simp only [rdP]
  rw [e s n (by omega)]
  rfl
end
end Pl
set_option Elab.async false
set_option linter.all false
set_option maxRecDepth 100000
set_option maxHeartbeats 4000000
/-! Pl: rules for dict.get, list(d), keywords, sorted texts, max. -/
namespace Pl
open Mp
open PySem (Str sizeLine PyData)
section
variable {Q : D → Sto → Prop} {E : XT} {r : En} {s : Sto} {a b c : DE} {x y : D}
theorem w_get (h : RP (fun x s1 => ∃ m0, dctOf s1 x = some m0 ∧ RP (fun y s2 => RP (fun z s3 => ∃ m k, dctOf s3 x = some m ∧ keyD y = some k ∧ Q ((getK m k).getD z) s3) E (c r s2)) E (b r s1)) E (a r s)) : RP Q E (getM a b c r s) := w_bind (h.mono (fun x s1 ⟨m0, e0, h⟩ => by
  rw [e0]
  refine w_bind (h.mono (fun y s2 h => w_bind (h.mono (fun z s3 ⟨m, k, e1, e2, h⟩ => ?_) fun _ _ _ h => h)) fun _ _ _ h => h)
  rw [e1]
  dsimp only
  rw [e2]
  exact h) fun _ _ _ h => h)
theorem w_kwA {m : DM (List D)} {k : DM (List (Str × D))} {Q : List D → Sto → Prop} (h : RP (fun ds s1 => RP (fun l s2 => Q (ds ++ [.dct (KwX.kK l)]) s2) E (k r s1)) E (m r s)) : RP Q E (kwA m k r s) := w_bind (h.mono (fun _ _ h => w_bind h) fun _ _ _ h => h)
theorem w_sprK {Q : List (Str × D) → Sto → Prop} (h : RP (fun x s1 => ∃ m l, dctOf s1 x = some m ∧ kS m = some l ∧ Q l s1) E (a r s)) : RP Q E (sprK a r s) := w_bind (h.mono (fun x s ⟨m, l, e1, e2, h⟩ => by
  rw [e1]
  dsimp only
  rw [e2]
  exact h) fun _ _ _ h => h)
theorem w_kwM {ks : List Str} {m : DM (List D)} {Q : List (Str × D) → Sto → Prop} (h : RP (fun es s1 => Q (ks.zip es) s1) E (m r s)) : RP Q E (kwM ks m r s) := w_bind h
theorem w_makeL {kk : Bool} {C : Str} {m : DF} {l : DM (List D)} (h : RP (fun x s1 => x = .glo C ∧ RP Q E (makeM kk C m l r s1)) E (a r s)) : RP Q E (makeLM kk C m a l r s) := w_bind (h.mono (fun x s ⟨e, h⟩ => by
  subst e
  dsimp only
  rw [if_pos rfl]
  exact h) fun _ _ _ h => h)
theorem o_listK {k : Bool} {m : List (L2.Key × D)} (h1 : dctOf s x = some m) (h : RP Q E (newL k (m.map fun p => keyV p.1) s)) : RP Q E (listKD k [x] s) := by
  unfold listKD
  dsimp only
  rw [h1]
  exact h
end
end Pl
set_option Elab.async false
set_option linter.all false
set_option maxRecDepth 100000
set_option maxHeartbeats 4000000
/-! Pl: keys of number and text: the order, the sort. -/
namespace Pl
open Mp
open PySem (Str sizeLine PyData)
theorem dataLt_kP (p q : KP) : PySem.W.dataLt (kP p) (kP q) = ltKP p q := by
  unfold kP ltKP
  rw [PySem.W.dataLt_pair (by simp [PySem.W.alike]) (by simp [PySem.W.alike]), PySem.W.dataLt_int, PySem.W.dataLt_str]
  simp only [PyData.eqv]
  rfl
theorem dataLe_kP (p q : KP) : PySem.W.dataLe false (fun p : KP => kP p) p q = !ltKP q p := by
  show (!PySem.W.dataLt (kP q) (kP p)) = _
  rw [dataLt_kP]
theorem keysF_pure {T : Type} {f : DF} {y : D} {s : Sto} (g : T → D) (k : T → KP) : ∀ {l : List T} {kd : List KP}, (∀ x ∈ l, f [y, g x] s = .ok (kD (k x)) s) → keysF f y (l.map g) kd s = .ok (kd ++ l.map k) s
  | [], kd, _ => by
    rw [List.map_nil, keysF]
    simp
  | x :: l, kd, h => by
    rw [List.map_cons, keysF, h x List.mem_cons_self]
    show keysF f y (l.map g) (kd ++ [((k x).1, (k x).2)]) s = _
    rw [keysF_pure g k fun x hx => h x (List.mem_cons_of_mem _ hx), List.append_assoc]
    rfl
/-- the sort of values of one kind by their keys -/
theorem outK_map {T : Type} (g : T → D) (k : T → KP) (ws : List T) : outK (ws.map k) (ws.map g) = (ws.mergeSort fun a b => !ltKP (k b) (k a)).map g := by
  have e : (ws.map k).zip (ws.map g) = ws.map fun w => (k w, g w) := by
    induction ws with
    | nil => rfl
    | cons w ws ih => simp only [List.map_cons, List.zip_cons_cons, ih]
  unfold outK
  rw [e, ← List.map_mergeSort (f := fun w => (k w, g w)) (r := fun a b => !ltKP (k b) (k a)) (fun a _ b _ => (dataLe_kP (k a) (k b)).symm), List.map_map]
  rfl
/-- each once, as they come first -/
def uniqA {T : Type} [DecidableEq T] (acc : List T) (x : T) : List T := if x ∈ acc then acc else acc ++ [x]
def uniq {T : Type} [DecidableEq T] (l : List T) : List T := l.foldl uniqA []
theorem uniqA_nodup {T : Type} [DecidableEq T] : ∀ {l acc : List T}, acc.Nodup → (l.foldl uniqA acc).Nodup
  | [], _, h => h
  | x :: l, acc, h => by
    rw [List.foldl_cons]
    refine uniqA_nodup ?_
    unfold uniqA
    split
    · exact h
    · rename_i hx
      rw [List.nodup_append]
      exact ⟨h, by simp, fun a ha b hb e => hx (by simp at hb; rw [← hb, ← e]; exact ha)⟩
theorem uniqA_mem {T : Type} [DecidableEq T] {y : T} : ∀ {l acc : List T}, y ∈ l.foldl uniqA acc ↔ y ∈ acc ∨ y ∈ l
  | [], acc => by simp
  | x :: l, acc => by
    rw [List.foldl_cons, uniqA_mem]
    unfold uniqA
    split
    · rename_i hx
      constructor
      · rintro (h | h)
        · exact .inl h
        · exact .inr (List.mem_cons_of_mem _ h)
      · rintro (h | h)
        · exact .inl h
        · rcases List.mem_cons.mp h with rfl | h
          · exact .inl hx
          · exact .inr h
    · simp [or_assoc]
theorem uniq_nodup {T : Type} [DecidableEq T] {l : List T} : (uniq l).Nodup := uniqA_nodup List.Pairwise.nil
theorem uniq_mem {T : Type} [DecidableEq T] {l : List T} {y : T} : y ∈ uniq l ↔ y ∈ l := by
  unfold uniq
  rw [uniqA_mem]
  simp
theorem putA_uniq {T : Type} [DecidableEq T] {K : T → L2.Key} (hK : ∀ x y, K x = K y → x = y) {v : D} {acc : List T} {x : T} : putA (acc.map fun x => (K x, v)) (K x) v = (uniqA acc x).map fun x => (K x, v) := by
  unfold uniqA
  by_cases h : x ∈ acc
  · rw [if_pos h]
    unfold putA
    rw [if_pos (by rw [List.any_eq_true]; exact ⟨_, List.mem_map_of_mem h, decide_eq_true rfl⟩), List.map_map]
    apply List.map_congr_left
    intro y _
    show (if K y = K x then (K y, v) else (K y, v)) = _
    split <;> rfl
  · rw [if_neg h, putA_new]
    · simp
    · intro z
      obtain ⟨p, hp, e⟩ := List.mem_map.mp z
      obtain ⟨y, hy, rfl⟩ := List.mem_map.mp hp
      exact h (hK _ _ e ▸ hy)
/-- a dict comprehension with one value: each key once -/
theorem w_dcU {T : Type} [DecidableEq T] {c : Src} {g : DG} {tk te : DE} {r : En} {s : Sto} {E : XT} {Q : List (L2.Key × D) → Sto → Prop} (f : T → D) (v : D) (K : T → L2.Key) (hK : ∀ x y, K x = K y → x = y) (hc : c.cel = none) :
    ∀ (xs acc : List T), acc.length + xs.length ≤ sizeLine → (∀ x ∈ xs, ∃ p y, g (f x) r s = some (p, s) ∧ RP (fun z t => t = s ∧ z = y) noX (tk p s) ∧ keyD y = some (K x) ∧ RP (fun z t => t = s ∧ z = v) noX (te p s)) →
      Q ((xs.foldl uniqA acc).map fun x => (K x, v)) s → RP Q E (dcF c g yesM tk te r (xs.map f) (acc.map fun x => (K x, v)) s)
  | [], acc, _, _, he => by
    rw [List.map_nil]
    unfold dcF
    rw [if_pos (by unfold SrcOk; rw [hc]; trivial)]
    exact he
  | x :: xs, acc, hl, hs, he => by
    obtain ⟨p, y, h1, h2, h3, h4⟩ := hs x List.mem_cons_self
    rw [List.map_cons]
    unfold dcF
    rw [if_pos (by unfold SrcOk; rw [hc]; trivial), h1]
    dsimp only
    rw [show yesM p s = .ok true s from rfl]
    dsimp only
    rw [if_pos rfl, h2.eqn]
    dsimp only
    rw [h4.eqn]
    dsimp only
    rw [h3]
    dsimp only
    simp only [List.length_cons] at hl
    have hu : (uniqA acc x).length ≤ acc.length + 1 := by
      unfold uniqA
      split
      · omega
      · simp
    rw [if_pos (by rw [List.length_map]; omega), putA_uniq hK]
    exact w_dcU f v K hK hc xs (uniqA acc x) (by omega) (fun z hz => hs z (List.mem_cons_of_mem _ hz)) he
section
variable {Q : D → Sto → Prop} {E : XT} {r : En} {s : Sto} {me mo : DE} {x y : D}
theorem o_ltK {a b : Int} {z u : Str} (h : Q (.bl (ltKP (a, z) (b, u))) s) : RP Q E (ltKD (.tup [.int a, .str z]) (.tup [.int b, .str u]) s) := h
theorem w_sortK {tb : List (Str × DF)} {m : Str} (h : RP (fun x s1 => RP (fun y s2 => ∃ C fs f, insOf s2 y = some (C, fs) ∧ fs.lookup m = none ∧ tb.lookup C = some f ∧ ∃ l kd s3, lstOf s2 x = some l ∧ keysF f y l [] s2 = .ok kd s3 ∧ Q (.lst (outK kd l)) s3) E (mo r s1)) E (me r s)) : RP Q E (sortKM tb m me mo r s) :=
  w_bind (h.mono (fun x s1 h => w_meth (h.mono (fun y s2 ⟨C, fs, f, e1, e2, e3, l, kd, s3, e4, e5, h⟩ => ⟨C, fs, sortF f, e1, e2, by
    have z : ∀ tb : List (Str × DF), tb.lookup C = some f → (tb.map fun p => (p.1, sortF p.2)).lookup C = some (sortF f) := by
      intro tb
      induction tb with
      | nil => intro h; cases h
      | cons p tb ih =>
        intro h
        rw [List.map_cons]
        rw [List.lookup_cons] at h ⊢
        by_cases e : (C == p.1) = true
        · rw [e] at h ⊢
          cases h
          rfl
        · have e : (C == p.1) = false := by simpa using e
          rw [e] at h ⊢
          exact ih h
    exact z tb e3, by
    show RP Q E (sortF f [y, x] s2)
    unfold sortF
    dsimp only
    rw [e4]
    dsimp only
    rw [e5]
    exact h⟩) fun _ _ _ h => h)) fun _ _ _ h => h)
end
end Pl
set_option Elab.async false
set_option linter.all false
set_option maxRecDepth 100000
set_option maxHeartbeats 0
namespace G
open PySem PySem.Spec PyProof.Rows L2 Mp
section
variable {w : World} {K : Frag} {mg : Str → Option Value} {base : Heap}
theorem z0 (Z : FX K mg) : mg "ValueError" = none := Z.free 0 rfl
theorem z1 (Z : FX K mg) : OexB K (He.ga K "InvalidCost") "ValueError" "ValueError.__new__" "ValueError.__init__" mValue ∧ PySem.W.findIn K (.ref (He.ga K "InvalidCost")) "__init__" = some (some (.ref (He.ma K (He.ga K "InvalidCost") "__init__"))) ∧ PySem.W.typeIn K (.ref (He.ma K (He.ga K "InvalidCost") "__init__")) = some (.type "function") := Z.exc 1 bxValue rfl
theorem z2 (Z : FX K mg) : NoAttr K (He.ga K "InvalidCost") "letter" := Z.noat 2 rfl
theorem z3 (Z : FX K mg) : OexB K (He.ga K "InvalidLetters") "ValueError" "ValueError.__new__" "ValueError.__init__" mValue ∧ PySem.W.findIn K (.ref (He.ga K "InvalidLetters")) "__init__" = some (some (.ref (He.ma K (He.ga K "InvalidLetters") "__init__"))) ∧ PySem.W.typeIn K (.ref (He.ma K (He.ga K "InvalidLetters") "__init__")) = some (.type "function") := Z.exc 3 bxValue rfl
theorem z4 (Z : FX K mg) : NoAttr K (He.ga K "InvalidLetters") "value" := Z.noat 4 rfl
theorem z5 (Z : FX K mg) : OexB K (He.ga K "InvalidWord") "ValueError" "ValueError.__new__" "ValueError.__init__" mValue ∧ PySem.W.findIn K (.ref (He.ga K "InvalidWord")) "__init__" = some (some (.ref (He.ma K (He.ga K "InvalidWord") "__init__"))) ∧ PySem.W.typeIn K (.ref (He.ma K (He.ga K "InvalidWord") "__init__")) = some (.type "function") := Z.exc 5 bxValue rfl
theorem z6 (Z : FX K mg) : NoAttr K (He.ga K "InvalidWord") "value" := Z.noat 6 rfl
theorem z7 (Z : FX K mg) : mg "str" = none := Z.free 7 rfl
theorem z8 (Z : FX K mg) : mg "isinstance" = none := Z.free 8 rfl
theorem z9 (Z : FX K mg) : mg "len" = none := Z.free 9 rfl
theorem z10 (Z : FX K mg) : ∃ t, mg "MAX_LETTERS" = some (.int 4 t) := Z.int 10 rfl
theorem z11 (Z : FX K mg) : ∃ t, mg "ALPHABET" = some (.str "abcdefghijklmnopqrstuvwxyz" t) := Z.str 11 rfl
theorem z12 (Z : FX K mg) : mg "all" = none := Z.free 12 rfl
theorem z13 (Z : FX K mg) : mg "range" = none := Z.free 13 rfl
theorem z14 (Z : FX K mg) : mg "int" = none := Z.free 14 rfl
theorem z15 (Z : FX K mg) : mg "bool" = none := Z.free 15 rfl
theorem z16 (Z : FX K mg) : mg "is_integer" = some (.ref (He.ga K "is_integer")) := Z.glo 16 rfl
theorem z17 (Z : FX K mg) : mg "are_letters" = some (.ref (He.ga K "are_letters")) := Z.glo 17 rfl
theorem z18 (Z : FX K mg) : mg "InvalidLetters" = some (.ref (He.ga K "InvalidLetters")) := Z.glo 18 rfl
theorem z19 (Z : FX K mg) : mg "sorted" = none := Z.free 19 rfl
theorem z20 (Z : FX K mg) : mg "is_letter" = some (.ref (He.ga K "is_letter")) := Z.glo 20 rfl
theorem z21 (Z : FX K mg) : ∃ t, mg "MAX_COST" = some (.int 9 t) := Z.int 21 rfl
theorem z22 (Z : FX K mg) : mg "is_between" = some (.ref (He.ga K "is_between")) := Z.glo 22 rfl
theorem z23 (Z : FX K mg) : mg "InvalidCost" = some (.ref (He.ga K "InvalidCost")) := Z.glo 23 rfl
theorem z24 (Z : FX K mg) : Cls K (He.ga K "Order") := Z.cls 24 rfl
theorem z25 (Z : FX K mg) : NoAttr K (He.ga K "Order") "own_letters" := Z.noat 25 rfl
theorem z26 (Z : FX K mg) : NoAttr K (He.ga K "Order") "own_costs" := Z.noat 26 rfl
theorem z27 (Z : FX K mg) : mg "sum" = none := Z.free 27 rfl
theorem z28 (Z : FX K mg) : Meth K (He.ga K "Order") "count_next" (He.ma K (He.ga K "Order") "count_next") := Z.meth 28 rfl
theorem z29 (Z : FX K mg) : Meth K (He.ga K "Order") "is_possible" (He.ma K (He.ga K "Order") "is_possible") := Z.meth 29 rfl
theorem z30 (Z : FX K mg) : Meth K (He.ga K "Order") "filled" (He.ma K (He.ga K "Order") "filled") := Z.meth 30 rfl
theorem z31 (Z : FX K mg) : Meth K (He.ga K "Order") "cost_of" (He.ma K (He.ga K "Order") "cost_of") := Z.meth 31 rfl
theorem z32 (Z : FX K mg) : Meth K (He.ga K "Order") "counts_to" (He.ma K (He.ga K "Order") "counts_to") := Z.meth 32 rfl
theorem z33 (Z : FX K mg) : Meth K (He.ga K "Order") "neighbor" (He.ma K (He.ga K "Order") "neighbor") := Z.meth 33 rfl
theorem z34 (Z : FX K mg) : mg "is_word" = some (.ref (He.ga K "is_word")) := Z.glo 34 rfl
theorem z35 (Z : FX K mg) : mg "InvalidWord" = some (.ref (He.ga K "InvalidWord")) := Z.glo 35 rfl
theorem z36 (Z : FX K mg) : mg "need_word" = some (.ref (He.ga K "need_word")) := Z.glo 36 rfl
theorem z37 (Z : FX K mg) : Meth K (He.ga K "Order") "follower" (He.ma K (He.ga K "Order") "follower") := Z.meth 37 rfl
theorem z38 (Z : FX K mg) : Meth K (He.ga K "Order") "key" (He.ma K (He.ga K "Order") "key") := Z.meth 38 rfl
theorem z39 (Z : FX K mg) : Meth K (He.ga K "Order") "below" (He.ma K (He.ga K "Order") "below") := Z.meth 39 rfl
theorem z40 (Z : FX K mg) : mg "list" = none := Z.free 40 rfl
theorem z41 (Z : FX K mg) : mg "max" = none := Z.free 41 rfl
theorem z42 (Z : FX K mg) : Meth K (He.ga K "Order") "place_of" (He.ma K (He.ga K "Order") "place_of") := Z.meth 42 rfl
theorem z43 (Z : FX K mg) : mg "dict" = none := Z.free 43 rfl
theorem z44 (Z : FX K mg) : Mk K (He.ga K "Order") (He.ma K (He.ga K "Order") "__init__") := Z.mkr 44 rfl
theorem z45 (Z : FX K mg) : BMeth K (He.ga K "Order") "key" (He.ma K (He.ga K "Order") "key") := Z.bm 45 rfl
theorem z46 (Z : FX K mg) : mg "abs" = none := Z.free 46 rfl
theorem z47 (Z : FX K mg) : mg "_law_draw" = some (.ref (He.ga K "_law_draw")) := Z.glo 47 rfl
theorem z48 (Z : FX K mg) : mg "_law_pick" = some (.ref (He.ga K "_law_pick")) := Z.glo 48 rfl
theorem z49 (Z : FX K mg) : mg "_law_shuffled" = some (.ref (He.ga K "_law_shuffled")) := Z.glo 49 rfl
theorem z50 (Z : FX K mg) : ClX.CRead K (He.ga K "Order") (.type "type") := Z.cr 50 rfl
theorem z51 (Z : FX K mg) : ClX.CMet K (He.ga K "Order") (.type "type") "of_costs" (He.ma K (He.ga K "Order") "of_costs") (He5.wf K (He.ga K "Order") "classmethod" "of_costs") := Z.cm 51 rfl
theorem z52 (Z : FX K mg) : mg "Order" = some (.ref (He.ga K "Order")) := Z.glo 52 rfl
theorem z53 (Z : FX K mg) : mg "zip" = none := Z.free 53 rfl
theorem z54 (Z : FX K mg) : mg "_law_pen" = some (.ref (He.ga K "_law_pen")) := Z.glo 54 rfl
theorem z55 (Z : FX K mg) : mg "_law_letters" = some (.ref (He.ga K "_law_letters")) := Z.glo 55 rfl
theorem z56 (Z : FX K mg) : mg "_law_costs" = some (.ref (He.ga K "_law_costs")) := Z.glo 56 rfl
theorem z57 (Z : FX K mg) : mg "_law_other_letters" = some (.ref (He.ga K "_law_other_letters")) := Z.glo 57 rfl
theorem z58 (Z : FX K mg) : mg "_law_made_order" = some (.ref (He.ga K "_law_made_order")) := Z.glo 58 rfl
theorem z59 (Z : FX K mg) : mg "_law_letter_more" = some (.ref (He.ga K "_law_letter_more")) := Z.glo 59 rfl
theorem z60 (Z : FX K mg) : mg "_law_word" = some (.ref (He.ga K "_law_word")) := Z.glo 60 rfl
theorem z61 (Z : FX K mg) : Meth K (He.ga K "Order") "number_of" (He.ma K (He.ga K "Order") "number_of") := Z.meth 61 rfl
theorem z62 (Z : FX K mg) : mg "_law_turned" = some (.ref (He.ga K "_law_turned")) := Z.glo 62 rfl
theorem z63 (Z : FX K mg) : Meth K (He.ga K "Order") "after" (He.ma K (He.ga K "Order") "after") := Z.meth 63 rfl
theorem z64 (Z : FX K mg) : Meth K (He.ga K "Order") "is_before" (He.ma K (He.ga K "Order") "is_before") := Z.meth 64 rfl
theorem z65 (Z : FX K mg) : Meth K (He.ga K "Order") "sorted_words" (He.ma K (He.ga K "Order") "sorted_words") := Z.meth 65 rfl
theorem z66 (Z : FX K mg) : PropOf K (He.ga K "Order") "latest" (He.ma K (He.ga K "Order") "latest") (propG "Order" "latest" K) := Z.propOf 66 rfl
theorem z68 (Z : FX K mg) : IsiOk K it0 := Z.isi 68 rfl
theorem z_isi (Z : FX K mg) : IsiOk K it0 := z68 Z
theorem x_InvalidCost (Z : FX K mg) : ∃ fd, FnOk PP w K mg base (L2.CX PP w) 1 (He.ma K (He.ga K "InvalidCost") "__init__") fd ["self", "letter"] (spI1 (He.ga K "InvalidCost") "letter") ∧ Binds K fd ["self", "letter"] [] := by
  obtain ⟨fd, F⟩ := Z.df 0 (d := d_InvalidCost___init__) rfl rfl
  exact ⟨fd, fn_init1 F ⟨rfl, rfl, rfl, by decide +kernel, rfl, by decide +kernel, by decide +kernel⟩ rfl rfl (by decide) (by decide) (z0 Z) ((z1 Z)).1 (z2 Z), F.bindsN (ps := ["self", "letter"]) fun _ _ _ _ _ _ us hl => match us, hl with | [_, _], _ => rfl⟩
theorem x_InvalidLetters (Z : FX K mg) : ∃ fd, FnOk PP w K mg base (L2.CX PP w) 1 (He.ma K (He.ga K "InvalidLetters") "__init__") fd ["self", "value"] (spI1 (He.ga K "InvalidLetters") "value") ∧ Binds K fd ["self", "value"] [] := by
  obtain ⟨fd, F⟩ := Z.df 1 (d := d_InvalidLetters___init__) rfl rfl
  exact ⟨fd, fn_init1 F ⟨rfl, rfl, rfl, by decide +kernel, rfl, by decide +kernel, by decide +kernel⟩ rfl rfl (by decide) (by decide) (z0 Z) ((z3 Z)).1 (z4 Z), F.bindsN (ps := ["self", "value"]) fun _ _ _ _ _ _ us hl => match us, hl with | [_, _], _ => rfl⟩
theorem x_InvalidWord (Z : FX K mg) : ∃ fd, FnOk PP w K mg base (L2.CX PP w) 1 (He.ma K (He.ga K "InvalidWord") "__init__") fd ["self", "value"] (spI1 (He.ga K "InvalidWord") "value") ∧ Binds K fd ["self", "value"] [] := by
  obtain ⟨fd, F⟩ := Z.df 2 (d := d_InvalidWord___init__) rfl rfl
  exact ⟨fd, fn_init1 F ⟨rfl, rfl, rfl, by decide +kernel, rfl, by decide +kernel, by decide +kernel⟩ rfl rfl (by decide) (by decide) (z0 Z) ((z5 Z)).1 (z6 Z), F.bindsN (ps := ["self", "value"]) fun _ _ _ _ _ _ us hl => match us, hl with | [_, _], _ => rfl⟩
noncomputable def b_are_letters : DS := seqS (ifS (orT (notT (truM (argM (isiD it0) (consA (vM 0) (consA (cM (.ty "str")) (nilA)))))) (notT (blM (chainM leI leI (cM (.int 1)) (argM (lenD) (consA (vM 0) (nilA))) (cM (.int 4)))))) (retS (cM (.bl false))) (skipS)) (seqS (ifS (notT (truM (argM (allD) (consA (lcM false (seqI (vM 0)) (nameG 2) (yesM) ((binM (inD false) (vM 2) (cM (.str "abcdefghijklmnopqrstuvwxyz")))) [2]) (nilA))))) (retS (cM (.bl false))) (skipS)) (retS (argM (allD) (consA (lcM false (argI rangeD1 (consA (binM subD (argM (lenD) (consA (vM 0) (nilA))) (cM (.int 1))) (nilA))) (nameG 1) (yesM) ((binM ltI (binM idxD (vM 0) (vM 1)) (binM idxD (vM 0) (binM addD (vM 1) (cM (.int 1)))))) [1]) (nilA)))))
noncomputable def m_are_letters : DF := bodyM 1 [] 3 b_are_letters
theorem c_are_letters (Z : FX K mg) {f : Addr} : BodyD PP w K mg base ["value", "place", "letter"] "are_letters" (defScope s_are_letters) f 0 (defBody s_are_letters) b_are_letters := by
  intro cdv A outer s H E hr
  have nd : (["value", "place", "letter"] : List Str).Nodup := by decide +kernel
  have tk : Takes (cxOf (L2.CX PP w) PP w K mg base ["value", "place", "letter"] "are_letters" (defScope s_are_letters) f cdv A outer s H E) (fun c d _ H' => E c d H') := takes_of rfl rfl rfl rfl
  have hp := passes_of (X := cxOf (L2.CX PP w) PP w K mg base ["value", "place", "letter"] "are_letters" (defScope s_are_letters) f cdv A outer s H E) rfl
  have hu := hr.rm.units
  have hu1 : _ + 1 < cLine := Nat.lt_of_le_of_lt (Nat.add_le_add_left (by decide : 1 ≤ 64) _) hu
  exact (s_cons (s_if (PW.pt (w_or (t_not (t_truth (e_callB call_isi (v_isi (z_isi Z)) rfl (z8 Z) (by decide +kernel) (a_cons (ev 0) (a_cons (e_ty (n := "str") rfl (z7 Z) (by decide +kernel)) a_nil))))) (w_or1 (t_not (t_chain o_le o_le v_ord v_ord e_int (e_callB call_len v_len rfl (z9 Z) (by decide +kernel) (a_cons (ev 0) a_nil)) (e_gint rfl (z10 Z))))))) (s_one (s_ret e_bl)) s_nil)
    (s_cons (s_if (t_not (t_truth (e_callB (cr_all rfl) v_all rfl (z12 Z) (by decide +kernel) (a_cons (e_lc false rfl nd (i_seq (ev 0)) (own := ([("letter", 2)] : List (Str × Nat))) (show BlkOk ["value", "place", "letter"] (defScope s_are_letters) _ _ from ⟨rfl, by decide +kernel, by decide +kernel, by decide +kernel, by decide +kernel⟩) (fun _ _ _ _ _ => (gw_name nd rfl (by first | exact .inl rfl | exact .inr rfl) (by decide))) (fun _ _ _ _ _ => ts_nil) (fun _ _ _ _ _ => (e_in hu1 (ev 2) (e_gstr rfl (z11 Z))))) a_nil)))) (s_one (s_ret e_bl)) s_nil)
    (s_one (s_ret (e_callB (cr_all rfl) v_all rfl (z12 Z) (by decide +kernel) (a_cons (e_lc false rfl nd (i_range1 rfl (z13 Z) (a_cons (e_sub (e_callB call_len v_len rfl (z9 Z) (by decide +kernel) (a_cons (ev 0) a_nil)) e_int) a_nil)) (own := ([("place", 1)] : List (Str × Nat))) (show BlkOk ["value", "place", "letter"] (defScope s_are_letters) _ _ from ⟨rfl, by decide +kernel, by decide +kernel, by decide +kernel, by decide +kernel⟩) (fun _ _ _ _ _ => (gw_name nd rfl (by first | exact .inl rfl | exact .inr rfl) (by decide))) (fun _ _ _ _ _ => ts_nil) (fun _ _ _ _ _ => (e_lt (e_idx hu1 (ev 0) (ev 1)) (e_idx hu1 (ev 0) (e_add (ev 1) e_int))))) a_nil))))))
theorem f_are_letters (Z : FX K mg) : FnD PP w K mg base 1 ((fun K => He.ga K "are_letters") K) m_are_letters := by
  obtain ⟨fd, F0⟩ := Z.df 3 (d := d_are_letters) rfl rfl
  have F : FunD K "are_letters" "are_letters" (defArgs s_are_letters) (defBody s_are_letters) (defScope s_are_letters) [] [] ((fun K => He.ga K "are_letters") K) fd := cast (by kernel_rfl) F0
  exact fn_ok0 (x := "are_letters") (qual := "are_letters") (params := defArgs s_are_letters) (body := defBody s_are_letters) (scope := defScope s_are_letters) (kws := []) (N := ["value", "place", "letter"]) (ps := ["value"]) (k := 0) (b := b_are_letters) F ⟨by kernel_rfl, by kernel_rfl, by kernel_rfl, by decide +kernel, by kernel_rfl, by decide +kernel, by decide +kernel⟩ (fun _ _ _ _ _ _ us hl => match us, hl with | [_], _ => by kernel_rfl) (c_are_letters Z)
theorem k_are_letters (Z : FX K mg) : PySem.W.keepIn K (.ref ((fun K => He.ga K "are_letters") K)) = true := Z.keep 3 (d := d_are_letters) rfl
noncomputable def b_is_integer : DS := retS (andV (argM (isiD it0) (consA (vM 0) (consA (cM (.ty "int")) (nilA)))) (notV (argM (isiD it0) (consA (vM 0) (consA (cM (.ty "bool")) (nilA))))))
noncomputable def m_is_integer : DF := bodyM 1 [] 1 b_is_integer
theorem c_is_integer (Z : FX K mg) {f : Addr} : BodyD PP w K mg base ["value"] "is_integer" (defScope s_is_integer) f 0 (defBody s_is_integer) b_is_integer := by
  intro cdv A outer s H E hr
  have nd : (["value"] : List Str).Nodup := by decide +kernel
  have tk : Takes (cxOf (L2.CX PP w) PP w K mg base ["value"] "is_integer" (defScope s_is_integer) f cdv A outer s H E) (fun c d _ H' => E c d H') := takes_of rfl rfl rfl rfl
  have hp := passes_of (X := cxOf (L2.CX PP w) PP w K mg base ["value"] "is_integer" (defScope s_is_integer) f cdv A outer s H E) rfl
  have hu := hr.rm.units
  have hu1 : _ + 1 < cLine := Nat.lt_of_le_of_lt (Nat.add_le_add_left (by decide : 1 ≤ 64) _) hu
  exact (s_one (s_ret (e_and (e_callB call_isi (v_isi (z_isi Z)) rfl (z8 Z) (by decide +kernel) (a_cons (ev 0) (a_cons (e_ty (n := "int") rfl (z14 Z) (by decide +kernel)) a_nil))) (e_one (e_not (e_callB call_isi (v_isi (z_isi Z)) rfl (z8 Z) (by decide +kernel) (a_cons (ev 0) (a_cons (e_ty (n := "bool") rfl (z15 Z) (by decide +kernel)) a_nil))))))))
theorem f_is_integer (Z : FX K mg) : FnD PP w K mg base 1 ((fun K => He.ga K "is_integer") K) m_is_integer := by
  obtain ⟨fd, F0⟩ := Z.df 4 (d := d_is_integer) rfl rfl
  have F : FunD K "is_integer" "is_integer" (defArgs s_is_integer) (defBody s_is_integer) (defScope s_is_integer) [] [] ((fun K => He.ga K "is_integer") K) fd := cast (by kernel_rfl) F0
  exact fn_ok0 (x := "is_integer") (qual := "is_integer") (params := defArgs s_is_integer) (body := defBody s_is_integer) (scope := defScope s_is_integer) (kws := []) (N := ["value"]) (ps := ["value"]) (k := 0) (b := b_is_integer) F ⟨by kernel_rfl, by kernel_rfl, by kernel_rfl, by decide +kernel, by kernel_rfl, by decide +kernel, by decide +kernel⟩ (fun _ _ _ _ _ _ us hl => match us, hl with | [_], _ => by kernel_rfl) (c_is_integer Z)
theorem k_is_integer (Z : FX K mg) : PySem.W.keepIn K (.ref ((fun K => He.ga K "is_integer") K)) = true := Z.keep 4 (d := d_is_integer) rfl
noncomputable def b_is_between : DS := retS (andV (callM m_is_integer (consA (vM 0) (nilA))) ((chainM leI leI (vM 1) (vM 0) (vM 2))))
noncomputable def m_is_between : DF := bodyM 3 [] 3 b_is_between
theorem c_is_between (Z : FX K mg) {f : Addr} : BodyD PP w K mg base ["value", "least", "most"] "is_between" (defScope s_is_between) f 1 (defBody s_is_between) b_is_between := by
  intro cdv A outer s H E hr
  have nd : (["value", "least", "most"] : List Str).Nodup := by decide +kernel
  have tk : Takes (cxOf (L2.CX PP w) PP w K mg base ["value", "least", "most"] "is_between" (defScope s_is_between) f cdv A outer s H E) (fun c d _ H' => E c d H') := takes_of rfl rfl rfl rfl
  have hp := passes_of (X := cxOf (L2.CX PP w) PP w K mg base ["value", "least", "most"] "is_between" (defScope s_is_between) f cdv A outer s H E) rfl
  have hu := hr.rm.units
  have hu1 : _ + 1 < cLine := Nat.lt_of_le_of_lt (Nat.add_le_add_left (by decide : 1 ≤ 64) _) hu
  exact (s_one (s_ret (e_and (e_call tk (f_is_integer Z) (hr.mono (Nat.le_of_ble_eq_true rfl) : Rm 1 _) rfl (z16 Z) (k_is_integer Z) (a_cons (ev 0) a_nil)) (e_one (e_chain o_le o_le v_ord v_ord (ev 1) (ev 0) (ev 2))))))
theorem f_is_between (Z : FX K mg) : FnD PP w K mg base 2 ((fun K => He.ga K "is_between") K) m_is_between := by
  obtain ⟨fd, F0⟩ := Z.df 5 (d := d_is_between) rfl rfl
  have F : FunD K "is_between" "is_between" (defArgs s_is_between) (defBody s_is_between) (defScope s_is_between) [] [] ((fun K => He.ga K "is_between") K) fd := cast (by kernel_rfl) F0
  exact fn_ok0 (x := "is_between") (qual := "is_between") (params := defArgs s_is_between) (body := defBody s_is_between) (scope := defScope s_is_between) (kws := []) (N := ["value", "least", "most"]) (ps := ["value", "least", "most"]) (k := 1) (b := b_is_between) F ⟨by kernel_rfl, by kernel_rfl, by kernel_rfl, by decide +kernel, by kernel_rfl, by decide +kernel, by decide +kernel⟩ (fun _ _ _ _ _ _ us hl => match us, hl with | [_, _, _], _ => by kernel_rfl) (c_is_between Z)
theorem k_is_between (Z : FX K mg) : PySem.W.keepIn K (.ref ((fun K => He.ga K "is_between") K)) = true := Z.keep 5 (d := d_is_between) rfl
noncomputable def b_is_letter : DS := retS (andV (argM (isiD it0) (consA (vM 0) (consA (cM (.ty "str")) (nilA)))) (andV ((binM eqD (argM (lenD) (consA (vM 0) (nilA))) (cM (.int 1)))) ((binM (inD false) (vM 0) (cM (.str "abcdefghijklmnopqrstuvwxyz"))))))
noncomputable def m_is_letter : DF := bodyM 1 [] 1 b_is_letter
theorem c_is_letter (Z : FX K mg) {f : Addr} : BodyD PP w K mg base ["value"] "is_letter" (defScope s_is_letter) f 0 (defBody s_is_letter) b_is_letter := by
  intro cdv A outer s H E hr
  have nd : (["value"] : List Str).Nodup := by decide +kernel
  have tk : Takes (cxOf (L2.CX PP w) PP w K mg base ["value"] "is_letter" (defScope s_is_letter) f cdv A outer s H E) (fun c d _ H' => E c d H') := takes_of rfl rfl rfl rfl
  have hp := passes_of (X := cxOf (L2.CX PP w) PP w K mg base ["value"] "is_letter" (defScope s_is_letter) f cdv A outer s H E) rfl
  have hu := hr.rm.units
  have hu1 : _ + 1 < cLine := Nat.lt_of_le_of_lt (Nat.add_le_add_left (by decide : 1 ≤ 64) _) hu
  exact (s_one (s_ret (e_and (e_callB call_isi (v_isi (z_isi Z)) rfl (z8 Z) (by decide +kernel) (a_cons (ev 0) (a_cons (e_ty (n := "str") rfl (z7 Z) (by decide +kernel)) a_nil))) (e_and (e_eq hu (e_callB call_len v_len rfl (z9 Z) (by decide +kernel) (a_cons (ev 0) a_nil)) e_int) (e_one (e_in hu1 (ev 0) (e_gstr rfl (z11 Z))))))))
theorem f_is_letter (Z : FX K mg) : FnD PP w K mg base 1 ((fun K => He.ga K "is_letter") K) m_is_letter := by
  obtain ⟨fd, F0⟩ := Z.df 6 (d := d_is_letter) rfl rfl
  have F : FunD K "is_letter" "is_letter" (defArgs s_is_letter) (defBody s_is_letter) (defScope s_is_letter) [] [] ((fun K => He.ga K "is_letter") K) fd := cast (by kernel_rfl) F0
  exact fn_ok0 (x := "is_letter") (qual := "is_letter") (params := defArgs s_is_letter) (body := defBody s_is_letter) (scope := defScope s_is_letter) (kws := []) (N := ["value"]) (ps := ["value"]) (k := 0) (b := b_is_letter) F ⟨by kernel_rfl, by kernel_rfl, by kernel_rfl, by decide +kernel, by kernel_rfl, by decide +kernel, by decide +kernel⟩ (fun _ _ _ _ _ _ us hl => match us, hl with | [_], _ => by kernel_rfl) (c_is_letter Z)
theorem k_is_letter (Z : FX K mg) : PySem.W.keepIn K (.ref ((fun K => He.ga K "is_letter") K)) = true := Z.keep 6 (d := d_is_letter) rfl
noncomputable def b_Order___init__ : DS := seqS (ifS (notT (truM (callM m_are_letters (consA (vM 1) (nilA))))) (raiseS "InvalidLetters" "value" (consA (vM 1) (nilA))) (skipS)) (seqS (forS (seqI (argM sortedD (consA (vM 2) (nilA)))) (nameG 3) (ifS (orT (notT (truM (callM m_is_letter (consA (vM 3) (nilA))))) (orT (blM (binM (inD true) (vM 3) (vM 1))) (notT (truM (callM m_is_between (consA (binM idxD (vM 2) (vM 3)) (consA (cM (.int 1)) (consA (cM (.int 9)) (nilA))))))))) (raiseS "InvalidCost" "letter" (consA (vM 3) (nilA))) (skipS))) (seqS (fldS ["Order"] "own_letters" (vM 0) (vM 1)) (fldS ["Order"] "own_costs" (vM 0) (dcM (seqI (vM 1)) (nameG 3) (yesM) (vM 3) (getM (vM 2) (vM 3) (cM (.int 1))) [3]))))
noncomputable def m_Order___init__ : DF := bodyK ["self", "letters"] 4 b_Order___init__
theorem c_Order___init__ (Z : FX K mg) {f : Addr} : BodyD PP w K mg base ["self", "letters", "costs", "letter"] "Order.__init__" (defScope s_Order___init__) f 2 (defBody s_Order___init__) b_Order___init__ := by
  intro cdv A outer s H E hr
  have nd : (["self", "letters", "costs", "letter"] : List Str).Nodup := by decide +kernel
  have tk : Takes (cxOf (L2.CX PP w) PP w K mg base ["self", "letters", "costs", "letter"] "Order.__init__" (defScope s_Order___init__) f cdv A outer s H E) (fun c d _ H' => E c d H') := takes_of rfl rfl rfl rfl
  have hp := passes_of (X := cxOf (L2.CX PP w) PP w K mg base ["self", "letters", "costs", "letter"] "Order.__init__" (defScope s_Order___init__) f cdv A outer s H E) rfl
  have hu := hr.rm.units
  have hu1 : _ + 1 < cLine := Nat.lt_of_le_of_lt (Nat.add_le_add_left (by decide : 1 ≤ 64) _) hu
  exact (s_cons (s_if (t_not (t_truth (e_call tk (f_are_letters Z) (hr.mono (Nat.le_of_ble_eq_true rfl) : Rm 1 _) rfl (z17 Z) (k_are_letters Z) (a_cons (ev 1) a_nil)))) (s_one (raise_row1 (x_InvalidLetters Z) fun fd h => s_raise1 rfl tk ⟨((z3 Z)).1, ((z3 Z)).2.1, ((z3 Z)).2.2⟩ h.1 ((hr.mono (Nat.le_of_ble_eq_true rfl) : Rm 2 _)).rm h.2 rfl (z18 Z) (a_cons (ev 1) a_nil))) s_nil)
    (s_cons (s_for hp rfl (i_seq (e_callB (cr_sortedAll rfl) v_sorted rfl (z19 Z) (by decide +kernel) (a_cons (ev 2) a_nil))) (g_name nd rfl (by first | exact .inl rfl | exact .inr rfl)) (s_one (s_if (PW.pt (w_or (t_not (t_truth (e_call tk (f_is_letter Z) (hr.mono (Nat.le_of_ble_eq_true rfl) : Rm 1 _) rfl (z20 Z) (k_is_letter Z) (a_cons (ev 3) a_nil)))) (w_or (t_notIn hu1 (ev 3) (ev 1)) (w_or1 (t_not (t_truth (e_call tk (f_is_between Z) (hr.mono (Nat.le_of_ble_eq_true rfl) : Rm 2 _) rfl (z22 Z) (k_is_between Z) (a_cons (e_idx hu1 (ev 2) (ev 3)) (a_cons e_int (a_cons (e_gint rfl (z21 Z)) a_nil)))))))))) (s_one (raise_row1 (x_InvalidCost Z) fun fd h => s_raise1 rfl tk ⟨((z1 Z)).1, ((z1 Z)).2.1, ((z1 Z)).2.2⟩ h.1 ((hr.mono (Nat.le_of_ble_eq_true rfl) : Rm 2 _)).rm h.2 rfl (z23 Z) (a_cons (ev 3) a_nil))) s_nil)))
    (s_cons (s_fld (List.forall_mem_cons.2 ⟨⟨(z24 Z), (z25 Z)⟩, (List.forall_mem_nil _)⟩) (ev 0) (ev 1))
    (s_one (s_fld (List.forall_mem_cons.2 ⟨⟨(z24 Z), (z26 Z)⟩, (List.forall_mem_nil _)⟩) (ev 0) (e_dc rfl nd (i_seq (ev 1)) (own := ([("letter", 3)] : List (Str × Nat))) (show BlkOk ["self", "letters", "costs", "letter"] (defScope s_Order___init__) _ _ from ⟨rfl, by decide +kernel, by decide +kernel, by decide +kernel, by decide +kernel⟩) (fun _ _ _ _ _ => (gw_name nd rfl (by first | exact .inl rfl | exact .inr rfl) (by decide))) (fun _ _ _ _ _ => ts_nil) (fun _ _ _ _ _ => (ev 3)) (fun _ _ _ _ _ => (e_get2 hu1 (ev 2) (ev 3) e_int ⟨rfl, rfl, rfl, rfl⟩))))))))
theorem f_Order___init__ (Z : FX K mg) : FnDK PP w K mg base 3 ((fun K => He.ma K (He.ga K "Order") "__init__") K) m_Order___init__ := by
  obtain ⟨fd, F⟩ := Z.df 7 (d := d_Order___init__) rfl rfl
  exact fn_okK (ps := ["self", "letters"]) (pk := "costs") F ⟨rfl, rfl, rfl, by decide +kernel, rfl, by decide +kernel, by decide +kernel⟩ rfl rfl rfl rfl rfl (by decide) (c_Order___init__ Z)
theorem f_Order___init___at_Order (Z : FX K mg) : FnDK PP w K mg base 3 (He.ma K (He.ga K "Order") "__init__") m_Order___init__ := f_Order___init__ Z
noncomputable def b_Order_cost_of : DS := retS (argM (sumD) (consA (lcM false (seqI (vM 1)) (nameG 2) (yesM) (binM idxD (attrM [("Order", .fld)] "own_costs" (vM 0)) (vM 2)) [2]) (nilA)))
noncomputable def m_Order_cost_of : DF := bodyM 2 [] 3 b_Order_cost_of
theorem c_Order_cost_of (Z : FX K mg) {f : Addr} : BodyD PP w K mg base ["self", "word", "letter"] "Order.cost_of" (defScope s_Order_cost_of) f 0 (defBody s_Order_cost_of) b_Order_cost_of := by
  intro cdv A outer s H E hr
  have nd : (["self", "word", "letter"] : List Str).Nodup := by decide +kernel
  have tk : Takes (cxOf (L2.CX PP w) PP w K mg base ["self", "word", "letter"] "Order.cost_of" (defScope s_Order_cost_of) f cdv A outer s H E) (fun c d _ H' => E c d H') := takes_of rfl rfl rfl rfl
  have hp := passes_of (X := cxOf (L2.CX PP w) PP w K mg base ["self", "word", "letter"] "Order.cost_of" (defScope s_Order_cost_of) f cdv A outer s H E) rfl
  have hu := hr.rm.units
  have hu1 : _ + 1 < cLine := Nat.lt_of_le_of_lt (Nat.add_le_add_left (by decide : 1 ≤ 64) _) hu
  exact (s_one (s_ret (e_callB (cr_sum rfl) v_sum rfl (z27 Z) (by decide +kernel) (a_cons (e_lc false rfl nd (i_seq (ev 1)) (own := ([("letter", 2)] : List (Str × Nat))) (show BlkOk ["self", "word", "letter"] (defScope s_Order_cost_of) _ _ from ⟨rfl, by decide +kernel, by decide +kernel, by decide +kernel, by decide +kernel⟩) (fun _ _ _ _ _ => (gw_name nd rfl (by first | exact .inl rfl | exact .inr rfl) (by decide))) (fun _ _ _ _ _ => ts_nil) (fun _ _ _ _ _ => (e_idx hu1 (e_attr (.fld (z24 Z) (z26 Z) .nil) (ev 0)) (ev 2)))) a_nil))))
theorem f_Order_cost_of (Z : FX K mg) : FnD PP w K mg base 1 ((fun K => He.ma K (He.ga K "Order") "cost_of") K) m_Order_cost_of := by
  obtain ⟨fd, F0⟩ := Z.df 8 (d := d_Order_cost_of) rfl rfl
  have F : FunD K "cost_of" "Order.cost_of" (defArgs s_Order_cost_of) (defBody s_Order_cost_of) (defScope s_Order_cost_of) [] [] ((fun K => He.ma K (He.ga K "Order") "cost_of") K) fd := cast (by kernel_rfl) F0
  exact fn_ok0 (x := "cost_of") (qual := "Order.cost_of") (params := defArgs s_Order_cost_of) (body := defBody s_Order_cost_of) (scope := defScope s_Order_cost_of) (kws := []) (N := ["self", "word", "letter"]) (ps := ["self", "word"]) (k := 0) (b := b_Order_cost_of) F ⟨by kernel_rfl, by kernel_rfl, by kernel_rfl, by decide +kernel, by kernel_rfl, by decide +kernel, by decide +kernel⟩ (fun _ _ _ _ _ _ us hl => match us, hl with | [_, _], _ => by kernel_rfl) (c_Order_cost_of Z)
theorem f_Order_cost_of_at_Order (Z : FX K mg) : FnD PP w K mg base 1 (He.ma K (He.ga K "Order") "cost_of") m_Order_cost_of := f_Order_cost_of Z
noncomputable def b_Order_count_next : DS := seqS (setS 2 (argM (lenD) (consA (vM 1) (nilA)))) (seqS (ifS (blM (binM eqD (vM 2) (cM (.int 0)))) (retS (cM (.int 1))) (skipS)) (retS (argM (sumD) (consA (lcM false (valuesI (attrM [("Order", .fld)] "own_costs" (vM 0))) (nameG 3) (blM (binM leI (vM 3) (vM 2))) (binM idxD (vM 1) (binM subD (vM 2) (vM 3))) [3]) (nilA)))))
noncomputable def m_Order_count_next : DF := bodyM 2 [] 4 b_Order_count_next
theorem c_Order_count_next (Z : FX K mg) {f : Addr} : BodyD PP w K mg base ["self", "counts", "cost", "own"] "Order.count_next" (defScope s_Order_count_next) f 0 (defBody s_Order_count_next) b_Order_count_next := by
  intro cdv A outer s H E hr
  have nd : (["self", "counts", "cost", "own"] : List Str).Nodup := by decide +kernel
  have tk : Takes (cxOf (L2.CX PP w) PP w K mg base ["self", "counts", "cost", "own"] "Order.count_next" (defScope s_Order_count_next) f cdv A outer s H E) (fun c d _ H' => E c d H') := takes_of rfl rfl rfl rfl
  have hp := passes_of (X := cxOf (L2.CX PP w) PP w K mg base ["self", "counts", "cost", "own"] "Order.count_next" (defScope s_Order_count_next) f cdv A outer s H E) rfl
  have hu := hr.rm.units
  have hu1 : _ + 1 < cLine := Nat.lt_of_le_of_lt (Nat.add_le_add_left (by decide : 1 ≤ 64) _) hu
  exact (s_cons (s_set nd rfl (by first | exact .inl rfl | exact .inr rfl) (e_callB call_len v_len rfl (z9 Z) (by decide +kernel) (a_cons (ev 1) a_nil)))
    (s_cons (s_if (t_eq hu (ev 2) e_int) (s_one (s_ret e_int)) s_nil)
    (s_one (s_ret (e_callB (cr_sum rfl) v_sum rfl (z27 Z) (by decide +kernel) (a_cons (e_lc false rfl nd (i_values (e_attr (.fld (z24 Z) (z26 Z) .nil) (ev 0))) (own := ([("own", 3)] : List (Str × Nat))) (show BlkOk ["self", "counts", "cost", "own"] (defScope s_Order_count_next) _ _ from ⟨rfl, by decide +kernel, by decide +kernel, by decide +kernel, by decide +kernel⟩) (fun _ _ _ _ _ => (gw_name nd rfl (by first | exact .inl rfl | exact .inr rfl) (by decide))) (fun _ _ _ _ _ => (ts_one (t_le (ev 3) (ev 2)))) (fun _ _ _ _ _ => (e_idx hu1 (ev 1) (e_sub (ev 2) (ev 3))))) a_nil))))))
theorem f_Order_count_next (Z : FX K mg) : FnD PP w K mg base 1 ((fun K => He.ma K (He.ga K "Order") "count_next") K) m_Order_count_next := by
  obtain ⟨fd, F0⟩ := Z.df 9 (d := d_Order_count_next) rfl rfl
  have F : FunD K "count_next" "Order.count_next" (defArgs s_Order_count_next) (defBody s_Order_count_next) (defScope s_Order_count_next) [] [] ((fun K => He.ma K (He.ga K "Order") "count_next") K) fd := cast (by kernel_rfl) F0
  exact fn_ok0 (x := "count_next") (qual := "Order.count_next") (params := defArgs s_Order_count_next) (body := defBody s_Order_count_next) (scope := defScope s_Order_count_next) (kws := []) (N := ["self", "counts", "cost", "own"]) (ps := ["self", "counts"]) (k := 0) (b := b_Order_count_next) F ⟨by kernel_rfl, by kernel_rfl, by kernel_rfl, by decide +kernel, by kernel_rfl, by decide +kernel, by decide +kernel⟩ (fun _ _ _ _ _ _ us hl => match us, hl with | [_, _], _ => by kernel_rfl) (c_Order_count_next Z)
theorem f_Order_count_next_at_Order (Z : FX K mg) : FnD PP w K mg base 1 (He.ma K (He.ga K "Order") "count_next") m_Order_count_next := f_Order_count_next Z
noncomputable def b_Order_counts_to : DS := seqS (setS 2 (argM (lstD true) (nilA))) (seqS (whileS (blM (binM leI (argM (lenD) (consA (vM 2) (nilA))) (vM 1))) (exprS (bmD isLstD appD (vM 2) (consA (methM [("Order", m_Order_count_next)] "count_next" (vM 0) (consA (vM 2) (nilA))) (nilA))))) (retS (vM 2)))
noncomputable def m_Order_counts_to : DF := bodyM 2 [] 3 b_Order_counts_to
theorem c_Order_counts_to (Z : FX K mg) {f : Addr} : BodyD PP w K mg base ["self", "cost", "counts"] "Order.counts_to" (defScope s_Order_counts_to) f 1 (defBody s_Order_counts_to) b_Order_counts_to := by
  intro cdv A outer s H E hr
  have nd : (["self", "cost", "counts"] : List Str).Nodup := by decide +kernel
  have tk : Takes (cxOf (L2.CX PP w) PP w K mg base ["self", "cost", "counts"] "Order.counts_to" (defScope s_Order_counts_to) f cdv A outer s H E) (fun c d _ H' => E c d H') := takes_of rfl rfl rfl rfl
  have hp := passes_of (X := cxOf (L2.CX PP w) PP w K mg base ["self", "cost", "counts"] "Order.counts_to" (defScope s_Order_counts_to) f cdv A outer s H E) rfl
  have hu := hr.rm.units
  have hu1 : _ + 1 < cLine := Nat.lt_of_le_of_lt (Nat.add_le_add_left (by decide : 1 ≤ 64) _) hu
  exact (s_cons (s_set nd rfl (by first | exact .inl rfl | exact .inr rfl) (e_lst true a_nil))
    (s_cons (s_while hp (t_le (e_callB call_len v_len rfl (z9 Z) (by decide +kernel) (a_cons (ev 2) a_nil)) (ev 1)) (s_one (s_expr (e_bm PySem.F.plainAttrs_list PySem.F.slot_list_append PySem.F.type_list_append mt_append ty_lst v_app (ev 2) (a_cons (e_meth tk (.cons ⟨(z24 Z), _, 1, (z28 Z), f_Order_count_next_at_Order Z, (hr.mono (Nat.le_of_ble_eq_true rfl) : Rm 1 _)⟩ .nil) (ev 0) (a_cons (ev 2) a_nil)) a_nil)))))
    (s_one (s_ret (ev 2)))))
theorem f_Order_counts_to (Z : FX K mg) : FnD PP w K mg base 2 ((fun K => He.ma K (He.ga K "Order") "counts_to") K) m_Order_counts_to := by
  obtain ⟨fd, F0⟩ := Z.df 10 (d := d_Order_counts_to) rfl rfl
  have F : FunD K "counts_to" "Order.counts_to" (defArgs s_Order_counts_to) (defBody s_Order_counts_to) (defScope s_Order_counts_to) [] [] ((fun K => He.ma K (He.ga K "Order") "counts_to") K) fd := cast (by kernel_rfl) F0
  exact fn_ok0 (x := "counts_to") (qual := "Order.counts_to") (params := defArgs s_Order_counts_to) (body := defBody s_Order_counts_to) (scope := defScope s_Order_counts_to) (kws := []) (N := ["self", "cost", "counts"]) (ps := ["self", "cost"]) (k := 1) (b := b_Order_counts_to) F ⟨by kernel_rfl, by kernel_rfl, by kernel_rfl, by decide +kernel, by kernel_rfl, by decide +kernel, by decide +kernel⟩ (fun _ _ _ _ _ _ us hl => match us, hl with | [_, _], _ => by kernel_rfl) (c_Order_counts_to Z)
theorem f_Order_counts_to_at_Order (Z : FX K mg) : FnD PP w K mg base 2 (He.ma K (He.ga K "Order") "counts_to") m_Order_counts_to := f_Order_counts_to Z
noncomputable def b_Order_is_possible : DS := seqS (setS 4 (binM subD (vM 2) (binM idxD (attrM [("Order", .fld)] "own_costs" (vM 0)) (vM 1)))) (retS (andV ((binM geI (vM 4) (cM (.int 0)))) ((binM gtI (binM idxD (vM 3) (vM 4)) (cM (.int 0))))))
noncomputable def m_Order_is_possible : DF := bodyM 4 [] 5 b_Order_is_possible
theorem c_Order_is_possible (Z : FX K mg) {f : Addr} : BodyD PP w K mg base ["self", "letter", "cost", "counts", "left"] "Order.is_possible" (defScope s_Order_is_possible) f 0 (defBody s_Order_is_possible) b_Order_is_possible := by
  intro cdv A outer s H E hr
  have nd : (["self", "letter", "cost", "counts", "left"] : List Str).Nodup := by decide +kernel
  have tk : Takes (cxOf (L2.CX PP w) PP w K mg base ["self", "letter", "cost", "counts", "left"] "Order.is_possible" (defScope s_Order_is_possible) f cdv A outer s H E) (fun c d _ H' => E c d H') := takes_of rfl rfl rfl rfl
  have hp := passes_of (X := cxOf (L2.CX PP w) PP w K mg base ["self", "letter", "cost", "counts", "left"] "Order.is_possible" (defScope s_Order_is_possible) f cdv A outer s H E) rfl
  have hu := hr.rm.units
  have hu1 : _ + 1 < cLine := Nat.lt_of_le_of_lt (Nat.add_le_add_left (by decide : 1 ≤ 64) _) hu
  exact (s_cons (s_set nd rfl (by first | exact .inl rfl | exact .inr rfl) (e_sub (ev 2) (e_idx hu1 (e_attr (.fld (z24 Z) (z26 Z) .nil) (ev 0)) (ev 1))))
    (s_one (s_ret (e_and (e_ge (ev 4) e_int) (e_one (e_gt (e_idx hu1 (ev 3) (ev 4)) e_int))))))
theorem f_Order_is_possible (Z : FX K mg) : FnD PP w K mg base 1 ((fun K => He.ma K (He.ga K "Order") "is_possible") K) m_Order_is_possible := by
  obtain ⟨fd, F0⟩ := Z.df 11 (d := d_Order_is_possible) rfl rfl
  have F : FunD K "is_possible" "Order.is_possible" (defArgs s_Order_is_possible) (defBody s_Order_is_possible) (defScope s_Order_is_possible) [] [] ((fun K => He.ma K (He.ga K "Order") "is_possible") K) fd := cast (by kernel_rfl) F0
  exact fn_ok0 (x := "is_possible") (qual := "Order.is_possible") (params := defArgs s_Order_is_possible) (body := defBody s_Order_is_possible) (scope := defScope s_Order_is_possible) (kws := []) (N := ["self", "letter", "cost", "counts", "left"]) (ps := ["self", "letter", "cost", "counts"]) (k := 0) (b := b_Order_is_possible) F ⟨by kernel_rfl, by kernel_rfl, by kernel_rfl, by decide +kernel, by kernel_rfl, by decide +kernel, by decide +kernel⟩ (fun _ _ _ _ _ _ us hl => match us, hl with | [_, _, _, _], _ => by kernel_rfl) (c_Order_is_possible Z)
theorem f_Order_is_possible_at_Order (Z : FX K mg) : FnD PP w K mg base 1 (He.ma K (He.ga K "Order") "is_possible") m_Order_is_possible := f_Order_is_possible Z
noncomputable def b_Order_filled : DS := seqS (par2S 4 5 (consA (cM (.str "")) (consA (ifM (truM (vM 3)) (unM revD (attrM [("Order", .fld)] "own_letters" (vM 0))) (attrM [("Order", .fld)] "own_letters" (vM 0))) (nilA)))) (seqS (whileS (blM (binM gtI (vM 1) (cM (.int 0)))) (seqS (setS 6 (lcM false (seqI (vM 5)) (nameG 7) (truM (methM [("Order", m_Order_is_possible)] "is_possible" (vM 0) (consA (vM 7) (consA (vM 1) (consA (vM 2) (nilA)))))) (vM 7) [7])) (asgS (argM tupD (consA (binM addD (vM 4) (binM idxD (vM 6) (cM (.int 0)))) (consA (binM subD (vM 1) (binM idxD (attrM [("Order", .fld)] "own_costs" (vM 0)) (binM idxD (vM 6) (cM (.int 0))))) (nilA)))) (tupG 2 (consG (nameG 4) (consG (nameG 1) (nilG))))))) (retS (vM 4)))
noncomputable def m_Order_filled : DF := bodyM 4 [] 8 b_Order_filled
theorem c_Order_filled (Z : FX K mg) {f : Addr} : BodyD PP w K mg base ["self", "cost", "counts", "is_last", "found", "letters", "some", "letter"] "Order.filled" (defScope s_Order_filled) f 1 (defBody s_Order_filled) b_Order_filled := by
  intro cdv A outer s H E hr
  have nd : (["self", "cost", "counts", "is_last", "found", "letters", "some", "letter"] : List Str).Nodup := by decide +kernel
  have tk : Takes (cxOf (L2.CX PP w) PP w K mg base ["self", "cost", "counts", "is_last", "found", "letters", "some", "letter"] "Order.filled" (defScope s_Order_filled) f cdv A outer s H E) (fun c d _ H' => E c d H') := takes_of rfl rfl rfl rfl
  have hp := passes_of (X := cxOf (L2.CX PP w) PP w K mg base ["self", "cost", "counts", "is_last", "found", "letters", "some", "letter"] "Order.filled" (defScope s_Order_filled) f cdv A outer s H E) rfl
  have hu := hr.rm.units
  have hu1 : _ + 1 < cLine := Nat.lt_of_le_of_lt (Nat.add_le_add_left (by decide : 1 ≤ 64) _) hu
  exact (s_cons (s_par2 rfl nd rfl rfl (by decide) rfl rfl (a_cons e_str (a_cons (e_if (t_truth (ev 3)) (e_rev (e_attr (.fld (z24 Z) (z25 Z) .nil) (ev 0))) (e_attr (.fld (z24 Z) (z25 Z) .nil) (ev 0))) a_nil)))
    (s_cons (s_while hp (t_gt (ev 1) e_int) (s_cons (s_setLc false rfl nd rfl rfl rfl (i_seq (ev 5)) (own := ([("letter", 7)] : List (Str × Nat))) (show BlkOk ["self", "cost", "counts", "is_last", "found", "letters", "some", "letter"] (defScope s_Order_filled) _ _ from ⟨rfl, by decide +kernel, by decide +kernel, by decide +kernel, by decide +kernel⟩) (fun _ _ _ _ _ => (gw_name nd rfl (by first | exact .inl rfl | exact .inr rfl) (by decide))) (fun _ _ _ _ _ => (ts_one (t_truth (e_meth takes_blk (.cons ⟨(z24 Z), _, 1, (z29 Z), f_Order_is_possible_at_Order Z, (hr.mono (Nat.le_of_ble_eq_true rfl) : Rm 1 _)⟩ .nil) (ev 0) (a_cons (ev 7) (a_cons (ev 1) (a_cons (ev 2) a_nil))))))) (fun _ _ _ _ _ => (ev 7)))
    (s_one (s_asg (e_tup (a_cons (e_add (ev 4) (e_idx hu1 (ev 6) e_int)) (a_cons (e_sub (ev 1) (e_idx hu1 (e_attr (.fld (z24 Z) (z26 Z) .nil) (ev 0)) (e_idx hu1 (ev 6) e_int))) a_nil))) (g_tup rfl (gs_cons (g_name nd rfl (by first | exact .inl rfl | exact .inr rfl)) (gs_cons (g_name nd rfl (by first | exact .inl rfl | exact .inr rfl)) gs_nil)))))))
    (s_one (s_ret (ev 4)))))
theorem f_Order_filled (Z : FX K mg) : FnD PP w K mg base 2 ((fun K => He.ma K (He.ga K "Order") "filled") K) m_Order_filled := by
  obtain ⟨fd, F0⟩ := Z.df 12 (d := d_Order_filled) rfl rfl
  have F : FunD K "filled" "Order.filled" (defArgs s_Order_filled) (defBody s_Order_filled) (defScope s_Order_filled) [] [] ((fun K => He.ma K (He.ga K "Order") "filled") K) fd := cast (by kernel_rfl) F0
  exact fn_ok0 (x := "filled") (qual := "Order.filled") (params := defArgs s_Order_filled) (body := defBody s_Order_filled) (scope := defScope s_Order_filled) (kws := []) (N := ["self", "cost", "counts", "is_last", "found", "letters", "some", "letter"]) (ps := ["self", "cost", "counts", "is_last"]) (k := 1) (b := b_Order_filled) F ⟨by kernel_rfl, by kernel_rfl, by kernel_rfl, by decide +kernel, by kernel_rfl, by decide +kernel, by decide +kernel⟩ (fun _ _ _ _ _ _ us hl => match us, hl with | [_, _, _, _], _ => by kernel_rfl) (c_Order_filled Z)
theorem f_Order_filled_at_Order (Z : FX K mg) : FnD PP w K mg base 2 (He.ma K (He.ga K "Order") "filled") m_Order_filled := f_Order_filled Z
noncomputable def b_Order_neighbor : DS := seqS (setS 4 (cM (.int 0))) (seqS (forS (argI rangeD3 (consA (binM subD (argM (lenD) (consA (vM 1) (nilA))) (cM (.int 1))) (consA (unM negD (cM (.int 1))) (consA (unM negD (cM (.int 1))) (nilA))))) (nameG 5) (seqS (setS 6 (binM idxD (vM 1) (vM 5))) (seqS (augS 4 addI (binM idxD (attrM [("Order", .fld)] "own_costs" (vM 0)) (vM 6))) (seqS (setS 7 (lcM false (seqI (attrM [("Order", .fld)] "own_letters" (vM 0))) (nameG 9) (andT (blM (binM neD (vM 9) (vM 6))) (blM (binM eqD ((binM gtI (vM 9) (vM 6))) (vM 3)))) (vM 9) [9])) (seqS (setS 7 (lcM false (seqI (vM 7)) (nameG 8) (truM (methM [("Order", m_Order_is_possible)] "is_possible" (vM 0) (consA (vM 8) (consA (vM 4) (consA (vM 2) (nilA)))))) (vM 8) [8])) (ifS (blM (binM neD (vM 7) (argM (lstD false) (nilA)))) (seqS (setS 8 (ifM (truM (vM 3)) (binM idxD (vM 7) (cM (.int 0))) (binM idxD (vM 7) (unM negD (cM (.int 1)))))) (retS (binM addD (binM addD (sliM false (vM 1) (pureM none) (optM (vM 5))) (vM 8)) (methM [("Order", m_Order_filled)] "filled" (vM 0) (consA (binM subD (vM 4) (binM idxD (attrM [("Order", .fld)] "own_costs" (vM 0)) (vM 8))) (consA (vM 2) (consA (notV (vM 3)) (nilA)))))))) (skipS))))))) (retS (cM .non)))
noncomputable def m_Order_neighbor : DF := bodyM 4 [] 10 b_Order_neighbor
theorem c_Order_neighbor (Z : FX K mg) {f : Addr} : BodyD PP w K mg base ["self", "word", "counts", "is_later", "cost", "place", "here", "some", "letter", "one"] "Order.neighbor" (defScope s_Order_neighbor) f 2 (defBody s_Order_neighbor) b_Order_neighbor := by
  intro cdv A outer s H E hr
  have nd : (["self", "word", "counts", "is_later", "cost", "place", "here", "some", "letter", "one"] : List Str).Nodup := by decide +kernel
  have tk : Takes (cxOf (L2.CX PP w) PP w K mg base ["self", "word", "counts", "is_later", "cost", "place", "here", "some", "letter", "one"] "Order.neighbor" (defScope s_Order_neighbor) f cdv A outer s H E) (fun c d _ H' => E c d H') := takes_of rfl rfl rfl rfl
  have hp := passes_of (X := cxOf (L2.CX PP w) PP w K mg base ["self", "word", "counts", "is_later", "cost", "place", "here", "some", "letter", "one"] "Order.neighbor" (defScope s_Order_neighbor) f cdv A outer s H E) rfl
  have hu := hr.rm.units
  have hu1 : _ + 1 < cLine := Nat.lt_of_le_of_lt (Nat.add_le_add_left (by decide : 1 ≤ 64) _) hu
  exact (s_cons (s_set nd rfl (by first | exact .inl rfl | exact .inr rfl) e_int)
    (s_cons (s_for hp rfl (i_range3 rfl (z13 Z) (a_cons (e_sub (e_callB call_len v_len rfl (z9 Z) (by decide +kernel) (a_cons (ev 1) a_nil)) e_int) (a_cons (e_neg e_int) (a_cons (e_neg e_int) a_nil)))) (g_name nd rfl (by first | exact .inl rfl | exact .inr rfl)) (s_cons (s_set nd rfl (by first | exact .inl rfl | exact .inr rfl) (e_idx hu1 (ev 1) (ev 5)))
    (s_cons (s_augAdd nd rfl (by first | exact .inl rfl | exact .inr rfl) (e_idx hu1 (e_attr (.fld (z24 Z) (z26 Z) .nil) (ev 0)) (ev 6)))
    (s_cons (s_setLc false rfl nd rfl rfl rfl (i_seq (e_attr (.fld (z24 Z) (z25 Z) .nil) (ev 0))) (own := ([("one", 9)] : List (Str × Nat))) (show BlkOk ["self", "word", "counts", "is_later", "cost", "place", "here", "some", "letter", "one"] (defScope s_Order_neighbor) _ _ from ⟨rfl, by decide +kernel, by decide +kernel, by decide +kernel, by decide +kernel⟩) (fun _ _ _ _ _ => (gw_name nd rfl (by first | exact .inl rfl | exact .inr rfl) (by decide))) (fun _ _ _ _ _ => (ts_one (PW.pt (w_and (t_ne hu (ev 9) (ev 6)) (w_and1 (t_eq hu (e_gt (ev 9) (ev 6)) (ev 3))))))) (fun _ _ _ _ _ => (ev 9)))
    (s_cons (s_setLc false rfl nd rfl rfl rfl (i_seq (ev 7)) (own := ([("letter", 8)] : List (Str × Nat))) (show BlkOk ["self", "word", "counts", "is_later", "cost", "place", "here", "some", "letter", "one"] (defScope s_Order_neighbor) _ _ from ⟨rfl, by decide +kernel, by decide +kernel, by decide +kernel, by decide +kernel⟩) (fun _ _ _ _ _ => (gw_name nd rfl (by first | exact .inl rfl | exact .inr rfl) (by decide))) (fun _ _ _ _ _ => (ts_one (t_truth (e_meth takes_blk (.cons ⟨(z24 Z), _, 1, (z29 Z), f_Order_is_possible_at_Order Z, (hr.mono (Nat.le_of_ble_eq_true rfl) : Rm 1 _)⟩ .nil) (ev 0) (a_cons (ev 8) (a_cons (ev 4) (a_cons (ev 2) a_nil))))))) (fun _ _ _ _ _ => (ev 8)))
    (s_one (s_if (t_ne hu (ev 7) (e_lst false a_nil)) (s_cons (s_set nd rfl (by first | exact .inl rfl | exact .inr rfl) (e_if (t_truth (ev 3)) (e_idx hu1 (ev 7) e_int) (e_idx hu1 (ev 7) (e_neg e_int))))
    (s_one (s_ret (e_add (e_add (e_sli false (ev 1) o_none (o_some (ev 5))) (ev 8)) (e_meth tk (.cons ⟨(z24 Z), _, 2, (z30 Z), f_Order_filled_at_Order Z, (hr.mono (Nat.le_of_ble_eq_true rfl) : Rm 2 _)⟩ .nil) (ev 0) (a_cons (e_sub (ev 4) (e_idx hu1 (e_attr (.fld (z24 Z) (z26 Z) .nil) (ev 0)) (ev 8))) (a_cons (ev 2) (a_cons (e_not (ev 3)) a_nil)))))))) s_nil)))))))
    (s_one (s_ret e_non))))
theorem f_Order_neighbor (Z : FX K mg) : FnD PP w K mg base 3 ((fun K => He.ma K (He.ga K "Order") "neighbor") K) m_Order_neighbor := by
  obtain ⟨fd, F0⟩ := Z.df 13 (d := d_Order_neighbor) rfl rfl
  have F : FunD K "neighbor" "Order.neighbor" (defArgs s_Order_neighbor) (defBody s_Order_neighbor) (defScope s_Order_neighbor) [] [] ((fun K => He.ma K (He.ga K "Order") "neighbor") K) fd := cast (by kernel_rfl) F0
  exact fn_ok0 (x := "neighbor") (qual := "Order.neighbor") (params := defArgs s_Order_neighbor) (body := defBody s_Order_neighbor) (scope := defScope s_Order_neighbor) (kws := []) (N := ["self", "word", "counts", "is_later", "cost", "place", "here", "some", "letter", "one"]) (ps := ["self", "word", "counts", "is_later"]) (k := 2) (b := b_Order_neighbor) F ⟨by kernel_rfl, by kernel_rfl, by kernel_rfl, by decide +kernel, by kernel_rfl, by decide +kernel, by decide +kernel⟩ (fun _ _ _ _ _ _ us hl => match us, hl with | [_, _, _, _], _ => by kernel_rfl) (c_Order_neighbor Z)
theorem f_Order_neighbor_at_Order (Z : FX K mg) : FnD PP w K mg base 3 (He.ma K (He.ga K "Order") "neighbor") m_Order_neighbor := f_Order_neighbor Z
noncomputable def b_Order_follower : DS := seqS (setS 2 (methM [("Order", m_Order_cost_of)] "cost_of" (vM 0) (consA (vM 1) (nilA)))) (seqS (setS 3 (methM [("Order", m_Order_counts_to)] "counts_to" (vM 0) (consA (binM addD (vM 2) (cM (.int 9))) (nilA)))) (seqS (setS 4 (methM [("Order", m_Order_neighbor)] "neighbor" (vM 0) (consA (vM 1) (consA (vM 3) (consA (cM (.bl true)) (nilA)))))) (seqS (ifS (blM (binM isNotNoneD (vM 4) (cM .non))) (retS (vM 4)) (skipS)) (seqS (setS 5 (lcM false (argI rangeD2 (consA (binM addD (vM 2) (cM (.int 1))) (consA (binM addD (binM addD (vM 2) (cM (.int 9))) (cM (.int 1))) (nilA)))) (nameG 6) (blM (binM gtI (binM idxD (vM 3) (vM 6)) (cM (.int 0)))) (vM 6) [6])) (retS (methM [("Order", m_Order_filled)] "filled" (vM 0) (consA (binM idxD (vM 5) (cM (.int 0))) (consA (vM 3) (consA (cM (.bl false)) (nilA))))))))))
noncomputable def m_Order_follower : DF := bodyM 2 [] 7 b_Order_follower
theorem c_Order_follower (Z : FX K mg) {f : Addr} : BodyD PP w K mg base ["self", "word", "cost", "counts", "found", "later", "more"] "Order.follower" (defScope s_Order_follower) f 3 (defBody s_Order_follower) b_Order_follower := by
  intro cdv A outer s H E hr
  have nd : (["self", "word", "cost", "counts", "found", "later", "more"] : List Str).Nodup := by decide +kernel
  have tk : Takes (cxOf (L2.CX PP w) PP w K mg base ["self", "word", "cost", "counts", "found", "later", "more"] "Order.follower" (defScope s_Order_follower) f cdv A outer s H E) (fun c d _ H' => E c d H') := takes_of rfl rfl rfl rfl
  have hp := passes_of (X := cxOf (L2.CX PP w) PP w K mg base ["self", "word", "cost", "counts", "found", "later", "more"] "Order.follower" (defScope s_Order_follower) f cdv A outer s H E) rfl
  have hu := hr.rm.units
  have hu1 : _ + 1 < cLine := Nat.lt_of_le_of_lt (Nat.add_le_add_left (by decide : 1 ≤ 64) _) hu
  exact (s_cons (s_set nd rfl (by first | exact .inl rfl | exact .inr rfl) (e_meth tk (.cons ⟨(z24 Z), _, 1, (z31 Z), f_Order_cost_of_at_Order Z, (hr.mono (Nat.le_of_ble_eq_true rfl) : Rm 1 _)⟩ .nil) (ev 0) (a_cons (ev 1) a_nil)))
    (s_cons (s_set nd rfl (by first | exact .inl rfl | exact .inr rfl) (e_meth tk (.cons ⟨(z24 Z), _, 2, (z32 Z), f_Order_counts_to_at_Order Z, (hr.mono (Nat.le_of_ble_eq_true rfl) : Rm 2 _)⟩ .nil) (ev 0) (a_cons (e_add (ev 2) (e_gint rfl (z21 Z))) a_nil)))
    (s_cons (s_set nd rfl (by first | exact .inl rfl | exact .inr rfl) (e_meth tk (.cons ⟨(z24 Z), _, 3, (z33 Z), f_Order_neighbor_at_Order Z, (hr.mono (Nat.le_of_ble_eq_true rfl) : Rm 3 _)⟩ .nil) (ev 0) (a_cons (ev 1) (a_cons (ev 3) (a_cons e_bl a_nil)))))
    (s_cons (s_if (t_notN (ev 4) e_non) (s_one (s_ret (ev 4))) s_nil)
    (s_cons (s_setLc false rfl nd rfl rfl rfl (i_range2 rfl (z13 Z) (a_cons (e_add (ev 2) e_int) (a_cons (e_add (e_add (ev 2) (e_gint rfl (z21 Z))) e_int) a_nil))) (own := ([("more", 6)] : List (Str × Nat))) (show BlkOk ["self", "word", "cost", "counts", "found", "later", "more"] (defScope s_Order_follower) _ _ from ⟨rfl, by decide +kernel, by decide +kernel, by decide +kernel, by decide +kernel⟩) (fun _ _ _ _ _ => (gw_name nd rfl (by first | exact .inl rfl | exact .inr rfl) (by decide))) (fun _ _ _ _ _ => (ts_one (t_gt (e_idx hu1 (ev 3) (ev 6)) e_int))) (fun _ _ _ _ _ => (ev 6)))
    (s_one (s_ret (e_meth tk (.cons ⟨(z24 Z), _, 2, (z30 Z), f_Order_filled_at_Order Z, (hr.mono (Nat.le_of_ble_eq_true rfl) : Rm 2 _)⟩ .nil) (ev 0) (a_cons (e_idx hu1 (ev 5) e_int) (a_cons (ev 3) (a_cons e_bl a_nil)))))))))))
theorem f_Order_follower (Z : FX K mg) : FnD PP w K mg base 4 ((fun K => He.ma K (He.ga K "Order") "follower") K) m_Order_follower := by
  obtain ⟨fd, F0⟩ := Z.df 14 (d := d_Order_follower) rfl rfl
  have F : FunD K "follower" "Order.follower" (defArgs s_Order_follower) (defBody s_Order_follower) (defScope s_Order_follower) [] [] ((fun K => He.ma K (He.ga K "Order") "follower") K) fd := cast (by kernel_rfl) F0
  exact fn_ok0 (x := "follower") (qual := "Order.follower") (params := defArgs s_Order_follower) (body := defBody s_Order_follower) (scope := defScope s_Order_follower) (kws := []) (N := ["self", "word", "cost", "counts", "found", "later", "more"]) (ps := ["self", "word"]) (k := 3) (b := b_Order_follower) F ⟨by kernel_rfl, by kernel_rfl, by kernel_rfl, by decide +kernel, by kernel_rfl, by decide +kernel, by decide +kernel⟩ (fun _ _ _ _ _ _ us hl => match us, hl with | [_, _], _ => by kernel_rfl) (c_Order_follower Z)
theorem f_Order_follower_at_Order (Z : FX K mg) : FnD PP w K mg base 4 (He.ma K (He.ga K "Order") "follower") m_Order_follower := f_Order_follower Z
noncomputable def b_is_word : DS := seqS (ifS (orT (notT (truM (argM (isiD it0) (consA (vM 1) (consA (cM (.ty "str")) (nilA)))))) (blM (binM gtI (argM (lenD) (consA (vM 1) (nilA))) (vM 2)))) (retS (cM (.bl false))) (skipS)) (retS (argM (allD) (consA (lcM false (seqI (vM 1)) (nameG 3) (yesM) ((binM (inD false) (vM 3) (vM 0))) [3]) (nilA))))
noncomputable def m_is_word : DF := bodyM 3 [.int 160] 4 b_is_word
theorem c_is_word (Z : FX K mg) {f : Addr} : BodyD PP w K mg base ["letters", "value", "most", "letter"] "is_word" (defScope s_is_word) f 0 (defBody s_is_word) b_is_word := by
  intro cdv A outer s H E hr
  have nd : (["letters", "value", "most", "letter"] : List Str).Nodup := by decide +kernel
  have tk : Takes (cxOf (L2.CX PP w) PP w K mg base ["letters", "value", "most", "letter"] "is_word" (defScope s_is_word) f cdv A outer s H E) (fun c d _ H' => E c d H') := takes_of rfl rfl rfl rfl
  have hp := passes_of (X := cxOf (L2.CX PP w) PP w K mg base ["letters", "value", "most", "letter"] "is_word" (defScope s_is_word) f cdv A outer s H E) rfl
  have hu := hr.rm.units
  have hu1 : _ + 1 < cLine := Nat.lt_of_le_of_lt (Nat.add_le_add_left (by decide : 1 ≤ 64) _) hu
  exact (s_cons (s_if (PW.pt (w_or (t_not (t_truth (e_callB call_isi (v_isi (z_isi Z)) rfl (z8 Z) (by decide +kernel) (a_cons (ev 1) (a_cons (e_ty (n := "str") rfl (z7 Z) (by decide +kernel)) a_nil))))) (w_or1 (t_gt (e_callB call_len v_len rfl (z9 Z) (by decide +kernel) (a_cons (ev 1) a_nil)) (ev 2))))) (s_one (s_ret e_bl)) s_nil)
    (s_one (s_ret (e_callB (cr_all rfl) v_all rfl (z12 Z) (by decide +kernel) (a_cons (e_lc false rfl nd (i_seq (ev 1)) (own := ([("letter", 3)] : List (Str × Nat))) (show BlkOk ["letters", "value", "most", "letter"] (defScope s_is_word) _ _ from ⟨rfl, by decide +kernel, by decide +kernel, by decide +kernel, by decide +kernel⟩) (fun _ _ _ _ _ => (gw_name nd rfl (by first | exact .inl rfl | exact .inr rfl) (by decide))) (fun _ _ _ _ _ => ts_nil) (fun _ _ _ _ _ => (e_in hu1 (ev 3) (ev 0)))) a_nil)))))
theorem f_is_word (Z : FX K mg) : FnD PP w K mg base 1 ((fun K => He.ga K "is_word") K) m_is_word := by
  obtain ⟨fd, F⟩ := Z.df 15 (d := d_is_word) rfl rfl
  exact fn_ok (ps := ["letters", "value", "most"]) (dd := [.int 160]) F ⟨rfl, rfl, rfl, by decide +kernel, rfl, by decide +kernel, by decide +kernel⟩ (fun _ => .cons (.int 160) (.nil)) (fun j hj => match j, hj with
    | 0, _ => F.binds1 2 0 (fun h => nomatch h) rfl (fun _ _ _ _ _ _ _ us its h1 h2 => match us, h1, its, h2 with | [_, _], _, [_], _ => ⟨_, rfl, rfl⟩)
    | 1, _ => F.binds1 3 1 (fun h => nomatch h) rfl (fun _ _ _ _ _ _ _ us its h1 h2 => match us, h1, its, h2 with | [_, _, _], _, [_], _ => ⟨_, rfl, rfl⟩)
    | j + 2, h => absurd h (by show ¬ (j + 2 ≤ 1); omega)) (c_is_word Z)
theorem k_is_word (Z : FX K mg) : PySem.W.keepIn K (.ref ((fun K => He.ga K "is_word") K)) = true := Z.keep 15 (d := d_is_word) rfl
noncomputable def b_need_word : DS := ifS (notT (truM (callM m_is_word (consA (vM 0) (consA (vM 1) (consA (vM 2) (nilA))))))) (raiseS "InvalidWord" "value" (consA (vM 1) (nilA))) (skipS)
noncomputable def m_need_word : DF := bodyM 3 [.int 160] 3 b_need_word
theorem c_need_word (Z : FX K mg) {f : Addr} : BodyD PP w K mg base ["letters", "value", "most"] "need_word" (defScope s_need_word) f 2 (defBody s_need_word) b_need_word := by
  intro cdv A outer s H E hr
  have nd : (["letters", "value", "most"] : List Str).Nodup := by decide +kernel
  have tk : Takes (cxOf (L2.CX PP w) PP w K mg base ["letters", "value", "most"] "need_word" (defScope s_need_word) f cdv A outer s H E) (fun c d _ H' => E c d H') := takes_of rfl rfl rfl rfl
  have hp := passes_of (X := cxOf (L2.CX PP w) PP w K mg base ["letters", "value", "most"] "need_word" (defScope s_need_word) f cdv A outer s H E) rfl
  have hu := hr.rm.units
  have hu1 : _ + 1 < cLine := Nat.lt_of_le_of_lt (Nat.add_le_add_left (by decide : 1 ≤ 64) _) hu
  exact (s_one (s_if (t_not (t_truth (e_call tk (f_is_word Z) (hr.mono (Nat.le_of_ble_eq_true rfl) : Rm 1 _) rfl (z34 Z) (k_is_word Z) (a_cons (ev 0) (a_cons (ev 1) (a_cons (ev 2) a_nil)))))) (s_one (raise_row1 (x_InvalidWord Z) fun fd h => s_raise1 rfl tk ⟨((z5 Z)).1, ((z5 Z)).2.1, ((z5 Z)).2.2⟩ h.1 ((hr.mono (Nat.le_of_ble_eq_true rfl) : Rm 2 _)).rm h.2 rfl (z35 Z) (a_cons (ev 1) a_nil))) s_nil))
theorem f_need_word (Z : FX K mg) : FnD PP w K mg base 3 ((fun K => He.ga K "need_word") K) m_need_word := by
  obtain ⟨fd, F⟩ := Z.df 16 (d := d_need_word) rfl rfl
  exact fn_ok (ps := ["letters", "value", "most"]) (dd := [.int 160]) F ⟨rfl, rfl, rfl, by decide +kernel, rfl, by decide +kernel, by decide +kernel⟩ (fun _ => .cons (.int 160) (.nil)) (fun j hj => match j, hj with
    | 0, _ => F.binds1 2 0 (fun h => nomatch h) rfl (fun _ _ _ _ _ _ _ us its h1 h2 => match us, h1, its, h2 with | [_, _], _, [_], _ => ⟨_, rfl, rfl⟩)
    | 1, _ => F.binds1 3 1 (fun h => nomatch h) rfl (fun _ _ _ _ _ _ _ us its h1 h2 => match us, h1, its, h2 with | [_, _, _], _, [_], _ => ⟨_, rfl, rfl⟩)
    | j + 2, h => absurd h (by show ¬ (j + 2 ≤ 1); omega)) (c_need_word Z)
theorem k_need_word (Z : FX K mg) : PySem.W.keepIn K (.ref ((fun K => He.ga K "need_word") K)) = true := Z.keep 16 (d := d_need_word) rfl
noncomputable def b_Order_after : DS := seqS (exprS (callM m_need_word (consA (attrM [("Order", .fld)] "own_letters" (vM 0)) (consA (vM 1) (nilA))))) (retS (methM [("Order", m_Order_follower)] "follower" (vM 0) (consA (vM 1) (nilA))))
noncomputable def m_Order_after : DF := bodyM 2 [] 2 b_Order_after
theorem c_Order_after (Z : FX K mg) {f : Addr} : BodyD PP w K mg base ["self", "word"] "Order.after" (defScope s_Order_after) f 4 (defBody s_Order_after) b_Order_after := by
  intro cdv A outer s H E hr
  have nd : (["self", "word"] : List Str).Nodup := by decide +kernel
  have tk : Takes (cxOf (L2.CX PP w) PP w K mg base ["self", "word"] "Order.after" (defScope s_Order_after) f cdv A outer s H E) (fun c d _ H' => E c d H') := takes_of rfl rfl rfl rfl
  have hp := passes_of (X := cxOf (L2.CX PP w) PP w K mg base ["self", "word"] "Order.after" (defScope s_Order_after) f cdv A outer s H E) rfl
  have hu := hr.rm.units
  have hu1 : _ + 1 < cLine := Nat.lt_of_le_of_lt (Nat.add_le_add_left (by decide : 1 ≤ 64) _) hu
  exact (s_cons (s_expr (e_call tk (f_need_word Z) (hr.mono (Nat.le_of_ble_eq_true rfl) : Rm 3 _) rfl (z36 Z) (k_need_word Z) (a_cons (e_attr (.fld (z24 Z) (z25 Z) .nil) (ev 0)) (a_cons (ev 1) a_nil))))
    (s_one (s_ret (e_meth tk (.cons ⟨(z24 Z), _, 4, (z37 Z), f_Order_follower_at_Order Z, (hr.mono (Nat.le_of_ble_eq_true rfl) : Rm 4 _)⟩ .nil) (ev 0) (a_cons (ev 1) a_nil)))))
theorem f_Order_after (Z : FX K mg) : FnD PP w K mg base 5 ((fun K => He.ma K (He.ga K "Order") "after") K) m_Order_after := by
  obtain ⟨fd, F0⟩ := Z.df 17 (d := d_Order_after) rfl rfl
  have F : FunD K "after" "Order.after" (defArgs s_Order_after) (defBody s_Order_after) (defScope s_Order_after) [] [] ((fun K => He.ma K (He.ga K "Order") "after") K) fd := cast (by kernel_rfl) F0
  exact fn_ok0 (x := "after") (qual := "Order.after") (params := defArgs s_Order_after) (body := defBody s_Order_after) (scope := defScope s_Order_after) (kws := []) (N := ["self", "word"]) (ps := ["self", "word"]) (k := 4) (b := b_Order_after) F ⟨by kernel_rfl, by kernel_rfl, by kernel_rfl, by decide +kernel, by kernel_rfl, by decide +kernel, by decide +kernel⟩ (fun _ _ _ _ _ _ us hl => match us, hl with | [_, _], _ => by kernel_rfl) (c_Order_after Z)
theorem f_Order_after_at_Order (Z : FX K mg) : FnD PP w K mg base 5 (He.ma K (He.ga K "Order") "after") m_Order_after := f_Order_after Z
noncomputable def b_Order_key : DS := retS (argM tupD (consA (methM [("Order", m_Order_cost_of)] "cost_of" (vM 0) (consA (vM 1) (nilA))) (consA (vM 1) (nilA))))
noncomputable def m_Order_key : DF := bodyM 2 [] 2 b_Order_key
theorem c_Order_key (Z : FX K mg) {f : Addr} : BodyD PP w K mg base ["self", "word"] "Order.key" (defScope s_Order_key) f 1 (defBody s_Order_key) b_Order_key := by
  intro cdv A outer s H E hr
  have nd : (["self", "word"] : List Str).Nodup := by decide +kernel
  have tk : Takes (cxOf (L2.CX PP w) PP w K mg base ["self", "word"] "Order.key" (defScope s_Order_key) f cdv A outer s H E) (fun c d _ H' => E c d H') := takes_of rfl rfl rfl rfl
  have hp := passes_of (X := cxOf (L2.CX PP w) PP w K mg base ["self", "word"] "Order.key" (defScope s_Order_key) f cdv A outer s H E) rfl
  have hu := hr.rm.units
  have hu1 : _ + 1 < cLine := Nat.lt_of_le_of_lt (Nat.add_le_add_left (by decide : 1 ≤ 64) _) hu
  exact (s_one (s_ret (e_tup (a_cons (e_meth tk (.cons ⟨(z24 Z), _, 1, (z31 Z), f_Order_cost_of_at_Order Z, (hr.mono (Nat.le_of_ble_eq_true rfl) : Rm 1 _)⟩ .nil) (ev 0) (a_cons (ev 1) a_nil)) (a_cons (ev 1) a_nil)))))
theorem f_Order_key (Z : FX K mg) : FnD PP w K mg base 2 ((fun K => He.ma K (He.ga K "Order") "key") K) m_Order_key := by
  obtain ⟨fd, F0⟩ := Z.df 18 (d := d_Order_key) rfl rfl
  have F : FunD K "key" "Order.key" (defArgs s_Order_key) (defBody s_Order_key) (defScope s_Order_key) [] [] ((fun K => He.ma K (He.ga K "Order") "key") K) fd := cast (by kernel_rfl) F0
  exact fn_ok0 (x := "key") (qual := "Order.key") (params := defArgs s_Order_key) (body := defBody s_Order_key) (scope := defScope s_Order_key) (kws := []) (N := ["self", "word"]) (ps := ["self", "word"]) (k := 1) (b := b_Order_key) F ⟨by kernel_rfl, by kernel_rfl, by kernel_rfl, by decide +kernel, by kernel_rfl, by decide +kernel, by decide +kernel⟩ (fun _ _ _ _ _ _ us hl => match us, hl with | [_, _], _ => by kernel_rfl) (c_Order_key Z)
theorem f_Order_key_at_Order (Z : FX K mg) : FnD PP w K mg base 2 (He.ma K (He.ga K "Order") "key") m_Order_key := f_Order_key Z
noncomputable def b_Order_below : DS := retS ((binM ltKD (methM [("Order", m_Order_key)] "key" (vM 0) (consA (vM 1) (nilA))) (methM [("Order", m_Order_key)] "key" (vM 0) (consA (vM 2) (nilA)))))
noncomputable def m_Order_below : DF := bodyM 3 [] 3 b_Order_below
theorem c_Order_below (Z : FX K mg) {f : Addr} : BodyD PP w K mg base ["self", "one", "other"] "Order.below" (defScope s_Order_below) f 2 (defBody s_Order_below) b_Order_below := by
  intro cdv A outer s H E hr
  have nd : (["self", "one", "other"] : List Str).Nodup := by decide +kernel
  have tk : Takes (cxOf (L2.CX PP w) PP w K mg base ["self", "one", "other"] "Order.below" (defScope s_Order_below) f cdv A outer s H E) (fun c d _ H' => E c d H') := takes_of rfl rfl rfl rfl
  have hp := passes_of (X := cxOf (L2.CX PP w) PP w K mg base ["self", "one", "other"] "Order.below" (defScope s_Order_below) f cdv A outer s H E) rfl
  have hu := hr.rm.units
  have hu1 : _ + 1 < cLine := Nat.lt_of_le_of_lt (Nat.add_le_add_left (by decide : 1 ≤ 64) _) hu
  exact (s_one (s_ret (e_ltK hu (e_meth tk (.cons ⟨(z24 Z), _, 2, (z38 Z), f_Order_key_at_Order Z, (hr.mono (Nat.le_of_ble_eq_true rfl) : Rm 2 _)⟩ .nil) (ev 0) (a_cons (ev 1) a_nil)) (e_meth tk (.cons ⟨(z24 Z), _, 2, (z38 Z), f_Order_key_at_Order Z, (hr.mono (Nat.le_of_ble_eq_true rfl) : Rm 2 _)⟩ .nil) (ev 0) (a_cons (ev 2) a_nil)))))
theorem f_Order_below (Z : FX K mg) : FnD PP w K mg base 3 ((fun K => He.ma K (He.ga K "Order") "below") K) m_Order_below := by
  obtain ⟨fd, F0⟩ := Z.df 19 (d := d_Order_below) rfl rfl
  have F : FunD K "below" "Order.below" (defArgs s_Order_below) (defBody s_Order_below) (defScope s_Order_below) [] [] ((fun K => He.ma K (He.ga K "Order") "below") K) fd := cast (by kernel_rfl) F0
  exact fn_ok0 (x := "below") (qual := "Order.below") (params := defArgs s_Order_below) (body := defBody s_Order_below) (scope := defScope s_Order_below) (kws := []) (N := ["self", "one", "other"]) (ps := ["self", "one", "other"]) (k := 2) (b := b_Order_below) F ⟨by kernel_rfl, by kernel_rfl, by kernel_rfl, by decide +kernel, by kernel_rfl, by decide +kernel, by decide +kernel⟩ (fun _ _ _ _ _ _ us hl => match us, hl with | [_, _, _], _ => by kernel_rfl) (c_Order_below Z)
theorem f_Order_below_at_Order (Z : FX K mg) : FnD PP w K mg base 3 (He.ma K (He.ga K "Order") "below") m_Order_below := f_Order_below Z
noncomputable def b_Order_is_before : DS := seqS (exprS (callM m_need_word (consA (attrM [("Order", .fld)] "own_letters" (vM 0)) (consA (vM 1) (nilA))))) (seqS (exprS (callM m_need_word (consA (attrM [("Order", .fld)] "own_letters" (vM 0)) (consA (vM 2) (nilA))))) (retS (methM [("Order", m_Order_below)] "below" (vM 0) (consA (vM 1) (consA (vM 2) (nilA))))))
noncomputable def m_Order_is_before : DF := bodyM 3 [] 3 b_Order_is_before
theorem c_Order_is_before (Z : FX K mg) {f : Addr} : BodyD PP w K mg base ["self", "word", "other"] "Order.is_before" (defScope s_Order_is_before) f 3 (defBody s_Order_is_before) b_Order_is_before := by
  intro cdv A outer s H E hr
  have nd : (["self", "word", "other"] : List Str).Nodup := by decide +kernel
  have tk : Takes (cxOf (L2.CX PP w) PP w K mg base ["self", "word", "other"] "Order.is_before" (defScope s_Order_is_before) f cdv A outer s H E) (fun c d _ H' => E c d H') := takes_of rfl rfl rfl rfl
  have hp := passes_of (X := cxOf (L2.CX PP w) PP w K mg base ["self", "word", "other"] "Order.is_before" (defScope s_Order_is_before) f cdv A outer s H E) rfl
  have hu := hr.rm.units
  have hu1 : _ + 1 < cLine := Nat.lt_of_le_of_lt (Nat.add_le_add_left (by decide : 1 ≤ 64) _) hu
  exact (s_cons (s_expr (e_call tk (f_need_word Z) (hr.mono (Nat.le_of_ble_eq_true rfl) : Rm 3 _) rfl (z36 Z) (k_need_word Z) (a_cons (e_attr (.fld (z24 Z) (z25 Z) .nil) (ev 0)) (a_cons (ev 1) a_nil))))
    (s_cons (s_expr (e_call tk (f_need_word Z) (hr.mono (Nat.le_of_ble_eq_true rfl) : Rm 3 _) rfl (z36 Z) (k_need_word Z) (a_cons (e_attr (.fld (z24 Z) (z25 Z) .nil) (ev 0)) (a_cons (ev 2) a_nil))))
    (s_one (s_ret (e_meth tk (.cons ⟨(z24 Z), _, 3, (z39 Z), f_Order_below_at_Order Z, (hr.mono (Nat.le_of_ble_eq_true rfl) : Rm 3 _)⟩ .nil) (ev 0) (a_cons (ev 1) (a_cons (ev 2) a_nil)))))))
theorem f_Order_is_before (Z : FX K mg) : FnD PP w K mg base 4 ((fun K => He.ma K (He.ga K "Order") "is_before") K) m_Order_is_before := by
  obtain ⟨fd, F0⟩ := Z.df 20 (d := d_Order_is_before) rfl rfl
  have F : FunD K "is_before" "Order.is_before" (defArgs s_Order_is_before) (defBody s_Order_is_before) (defScope s_Order_is_before) [] [] ((fun K => He.ma K (He.ga K "Order") "is_before") K) fd := cast (by kernel_rfl) F0
  exact fn_ok0 (x := "is_before") (qual := "Order.is_before") (params := defArgs s_Order_is_before) (body := defBody s_Order_is_before) (scope := defScope s_Order_is_before) (kws := []) (N := ["self", "word", "other"]) (ps := ["self", "word", "other"]) (k := 3) (b := b_Order_is_before) F ⟨by kernel_rfl, by kernel_rfl, by kernel_rfl, by decide +kernel, by kernel_rfl, by decide +kernel, by decide +kernel⟩ (fun _ _ _ _ _ _ us hl => match us, hl with | [_, _, _], _ => by kernel_rfl) (c_Order_is_before Z)
theorem f_Order_is_before_at_Order (Z : FX K mg) : FnD PP w K mg base 4 (He.ma K (He.ga K "Order") "is_before") m_Order_is_before := f_Order_is_before Z
noncomputable def b_Order_latest : DS := seqS (setS 1 (argM max1D (consA (listValsM false (attrM [("Order", .fld)] "own_costs" (vM 0))) (nilA)))) (retS (binM idxD (lcM false (seqI (attrM [("Order", .fld)] "own_letters" (vM 0))) (nameG 2) (blM (binM eqD (binM idxD (attrM [("Order", .fld)] "own_costs" (vM 0)) (vM 2)) (vM 1))) (vM 2) [2]) (unM negD (cM (.int 1)))))
noncomputable def m_Order_latest : DF := bodyM 1 [] 3 b_Order_latest
theorem c_Order_latest (Z : FX K mg) {f : Addr} : BodyD PP w K mg base ["self", "greatest", "letter"] "Order.latest" (defScope s_Order_latest) f 0 (defBody s_Order_latest) b_Order_latest := by
  intro cdv A outer s H E hr
  have nd : (["self", "greatest", "letter"] : List Str).Nodup := by decide +kernel
  have tk : Takes (cxOf (L2.CX PP w) PP w K mg base ["self", "greatest", "letter"] "Order.latest" (defScope s_Order_latest) f cdv A outer s H E) (fun c d _ H' => E c d H') := takes_of rfl rfl rfl rfl
  have hp := passes_of (X := cxOf (L2.CX PP w) PP w K mg base ["self", "greatest", "letter"] "Order.latest" (defScope s_Order_latest) f cdv A outer s H E) rfl
  have hu := hr.rm.units
  have hu1 : _ + 1 < cLine := Nat.lt_of_le_of_lt (Nat.add_le_add_left (by decide : 1 ≤ 64) _) hu
  exact (s_cons (s_set nd rfl (by first | exact .inl rfl | exact .inr rfl) (e_callB (cr_max rfl) v_max1 rfl (z41 Z) (by decide +kernel) (a_cons (e_listVals false rfl rfl (z40 Z) (e_attr (.fld (z24 Z) (z26 Z) .nil) (ev 0))) a_nil)))
    (s_one (s_ret (e_idx hu1 (e_lc false rfl nd (i_seq (e_attr (.fld (z24 Z) (z25 Z) .nil) (ev 0))) (own := ([("letter", 2)] : List (Str × Nat))) (show BlkOk ["self", "greatest", "letter"] (defScope s_Order_latest) _ _ from ⟨rfl, by decide +kernel, by decide +kernel, by decide +kernel, by decide +kernel⟩) (fun _ _ _ _ _ => (gw_name nd rfl (by first | exact .inl rfl | exact .inr rfl) (by decide))) (fun _ _ _ _ _ => (ts_one (t_eq hu (e_idx hu1 (e_attr (.fld (z24 Z) (z26 Z) .nil) (ev 0)) (ev 2)) (ev 1)))) (fun _ _ _ _ _ => (ev 2))) (e_neg e_int)))))
theorem f_Order_latest (Z : FX K mg) : FnD PP w K mg base 1 ((propG "Order" "latest") K) m_Order_latest := by
  obtain ⟨fd, F0⟩ := Z.df 21 (d := d_Order_latest) rfl rfl
  have F : FunD K "latest" "Order.latest" (defArgs s_Order_latest) (defBody s_Order_latest) (defScope s_Order_latest) [] [] ((propG "Order" "latest") K) fd := cast (by kernel_rfl) F0
  exact fn_ok0 (x := "latest") (qual := "Order.latest") (params := defArgs s_Order_latest) (body := defBody s_Order_latest) (scope := defScope s_Order_latest) (kws := []) (N := ["self", "greatest", "letter"]) (ps := ["self"]) (k := 0) (b := b_Order_latest) F ⟨by kernel_rfl, by kernel_rfl, by kernel_rfl, by decide +kernel, by kernel_rfl, by decide +kernel, by decide +kernel⟩ (fun _ _ _ _ _ _ us hl => match us, hl with | [_], _ => by kernel_rfl) (c_Order_latest Z)
theorem f_Order_latest_at_Order (Z : FX K mg) : FnD PP w K mg base 1 (propG "Order" "latest" K) m_Order_latest := f_Order_latest Z
noncomputable def b_Order_place_of : DS := seqS (setS 2 (methM [("Order", m_Order_cost_of)] "cost_of" (vM 0) (consA (vM 1) (nilA)))) (seqS (setS 3 (methM [("Order", m_Order_counts_to)] "counts_to" (vM 0) (consA (vM 2) (nilA)))) (seqS (setS 4 (argM (sumD) (consA (sliM false (vM 3) (pureM none) (optM (vM 2))) (nilA)))) (seqS (forS (seqI (vM 1)) (nameG 5) (seqS (forS (seqI (attrM [("Order", .fld)] "own_letters" (vM 0))) (nameG 6) (ifS (andT (blM (binM ltI (vM 6) (vM 5))) (truM (methM [("Order", m_Order_is_possible)] "is_possible" (vM 0) (consA (vM 6) (consA (vM 2) (consA (vM 3) (nilA))))))) (augS 4 addI (binM idxD (vM 3) (binM subD (vM 2) (binM idxD (attrM [("Order", .fld)] "own_costs" (vM 0)) (vM 6))))) (skipS))) (augS 2 subD (binM idxD (attrM [("Order", .fld)] "own_costs" (vM 0)) (vM 5))))) (retS (vM 4)))))
noncomputable def m_Order_place_of : DF := bodyM 2 [] 7 b_Order_place_of
theorem c_Order_place_of (Z : FX K mg) {f : Addr} : BodyD PP w K mg base ["self", "word", "left", "counts", "found", "here", "letter"] "Order.place_of" (defScope s_Order_place_of) f 2 (defBody s_Order_place_of) b_Order_place_of := by
  intro cdv A outer s H E hr
  have nd : (["self", "word", "left", "counts", "found", "here", "letter"] : List Str).Nodup := by decide +kernel
  have tk : Takes (cxOf (L2.CX PP w) PP w K mg base ["self", "word", "left", "counts", "found", "here", "letter"] "Order.place_of" (defScope s_Order_place_of) f cdv A outer s H E) (fun c d _ H' => E c d H') := takes_of rfl rfl rfl rfl
  have hp := passes_of (X := cxOf (L2.CX PP w) PP w K mg base ["self", "word", "left", "counts", "found", "here", "letter"] "Order.place_of" (defScope s_Order_place_of) f cdv A outer s H E) rfl
  have hu := hr.rm.units
  have hu1 : _ + 1 < cLine := Nat.lt_of_le_of_lt (Nat.add_le_add_left (by decide : 1 ≤ 64) _) hu
  exact (s_cons (s_set nd rfl (by first | exact .inl rfl | exact .inr rfl) (e_meth tk (.cons ⟨(z24 Z), _, 1, (z31 Z), f_Order_cost_of_at_Order Z, (hr.mono (Nat.le_of_ble_eq_true rfl) : Rm 1 _)⟩ .nil) (ev 0) (a_cons (ev 1) a_nil)))
    (s_cons (s_set nd rfl (by first | exact .inl rfl | exact .inr rfl) (e_meth tk (.cons ⟨(z24 Z), _, 2, (z32 Z), f_Order_counts_to_at_Order Z, (hr.mono (Nat.le_of_ble_eq_true rfl) : Rm 2 _)⟩ .nil) (ev 0) (a_cons (ev 2) a_nil)))
    (s_cons (s_set nd rfl (by first | exact .inl rfl | exact .inr rfl) (e_callB (cr_sum rfl) v_sum rfl (z27 Z) (by decide +kernel) (a_cons (e_sli false (ev 3) o_none (o_some (ev 2))) a_nil)))
    (s_cons (s_for hp rfl (i_seq (ev 1)) (g_name nd rfl (by first | exact .inl rfl | exact .inr rfl)) (s_cons (s_for hp rfl (i_seq (e_attr (.fld (z24 Z) (z25 Z) .nil) (ev 0))) (g_name nd rfl (by first | exact .inl rfl | exact .inr rfl)) (s_one (s_if (PW.pt (w_and (t_lt (ev 6) (ev 5)) (w_and1 (t_truth (e_meth tk (.cons ⟨(z24 Z), _, 1, (z29 Z), f_Order_is_possible_at_Order Z, (hr.mono (Nat.le_of_ble_eq_true rfl) : Rm 1 _)⟩ .nil) (ev 0) (a_cons (ev 6) (a_cons (ev 2) (a_cons (ev 3) a_nil)))))))) (s_one (s_augAdd nd rfl (by first | exact .inl rfl | exact .inr rfl) (e_idx hu1 (ev 3) (e_sub (ev 2) (e_idx hu1 (e_attr (.fld (z24 Z) (z26 Z) .nil) (ev 0)) (ev 6)))))) s_nil)))
    (s_one (s_augSub nd rfl (by first | exact .inl rfl | exact .inr rfl) (e_idx hu1 (e_attr (.fld (z24 Z) (z26 Z) .nil) (ev 0)) (ev 5))))))
    (s_one (s_ret (ev 4)))))))
theorem f_Order_place_of (Z : FX K mg) : FnD PP w K mg base 3 ((fun K => He.ma K (He.ga K "Order") "place_of") K) m_Order_place_of := by
  obtain ⟨fd, F0⟩ := Z.df 22 (d := d_Order_place_of) rfl rfl
  have F : FunD K "place_of" "Order.place_of" (defArgs s_Order_place_of) (defBody s_Order_place_of) (defScope s_Order_place_of) [] [] ((fun K => He.ma K (He.ga K "Order") "place_of") K) fd := cast (by kernel_rfl) F0
  exact fn_ok0 (x := "place_of") (qual := "Order.place_of") (params := defArgs s_Order_place_of) (body := defBody s_Order_place_of) (scope := defScope s_Order_place_of) (kws := []) (N := ["self", "word", "left", "counts", "found", "here", "letter"]) (ps := ["self", "word"]) (k := 2) (b := b_Order_place_of) F ⟨by kernel_rfl, by kernel_rfl, by kernel_rfl, by decide +kernel, by kernel_rfl, by decide +kernel, by decide +kernel⟩ (fun _ _ _ _ _ _ us hl => match us, hl with | [_, _], _ => by kernel_rfl) (c_Order_place_of Z)
theorem f_Order_place_of_at_Order (Z : FX K mg) : FnD PP w K mg base 3 (He.ma K (He.ga K "Order") "place_of") m_Order_place_of := f_Order_place_of Z
noncomputable def b_Order_number_of : DS := seqS (exprS (callM m_need_word (consA (attrM [("Order", .fld)] "own_letters" (vM 0)) (consA (vM 1) (nilA))))) (retS (methM [("Order", m_Order_place_of)] "place_of" (vM 0) (consA (vM 1) (nilA))))
noncomputable def m_Order_number_of : DF := bodyM 2 [] 2 b_Order_number_of
theorem c_Order_number_of (Z : FX K mg) {f : Addr} : BodyD PP w K mg base ["self", "word"] "Order.number_of" (defScope s_Order_number_of) f 3 (defBody s_Order_number_of) b_Order_number_of := by
  intro cdv A outer s H E hr
  have nd : (["self", "word"] : List Str).Nodup := by decide +kernel
  have tk : Takes (cxOf (L2.CX PP w) PP w K mg base ["self", "word"] "Order.number_of" (defScope s_Order_number_of) f cdv A outer s H E) (fun c d _ H' => E c d H') := takes_of rfl rfl rfl rfl
  have hp := passes_of (X := cxOf (L2.CX PP w) PP w K mg base ["self", "word"] "Order.number_of" (defScope s_Order_number_of) f cdv A outer s H E) rfl
  have hu := hr.rm.units
  have hu1 : _ + 1 < cLine := Nat.lt_of_le_of_lt (Nat.add_le_add_left (by decide : 1 ≤ 64) _) hu
  exact (s_cons (s_expr (e_call tk (f_need_word Z) (hr.mono (Nat.le_of_ble_eq_true rfl) : Rm 3 _) rfl (z36 Z) (k_need_word Z) (a_cons (e_attr (.fld (z24 Z) (z25 Z) .nil) (ev 0)) (a_cons (ev 1) a_nil))))
    (s_one (s_ret (e_meth tk (.cons ⟨(z24 Z), _, 3, (z42 Z), f_Order_place_of_at_Order Z, (hr.mono (Nat.le_of_ble_eq_true rfl) : Rm 3 _)⟩ .nil) (ev 0) (a_cons (ev 1) a_nil)))))
theorem f_Order_number_of (Z : FX K mg) : FnD PP w K mg base 4 ((fun K => He.ma K (He.ga K "Order") "number_of") K) m_Order_number_of := by
  obtain ⟨fd, F0⟩ := Z.df 23 (d := d_Order_number_of) rfl rfl
  have F : FunD K "number_of" "Order.number_of" (defArgs s_Order_number_of) (defBody s_Order_number_of) (defScope s_Order_number_of) [] [] ((fun K => He.ma K (He.ga K "Order") "number_of") K) fd := cast (by kernel_rfl) F0
  exact fn_ok0 (x := "number_of") (qual := "Order.number_of") (params := defArgs s_Order_number_of) (body := defBody s_Order_number_of) (scope := defScope s_Order_number_of) (kws := []) (N := ["self", "word"]) (ps := ["self", "word"]) (k := 3) (b := b_Order_number_of) F ⟨by kernel_rfl, by kernel_rfl, by kernel_rfl, by decide +kernel, by kernel_rfl, by decide +kernel, by decide +kernel⟩ (fun _ _ _ _ _ _ us hl => match us, hl with | [_, _], _ => by kernel_rfl) (c_Order_number_of Z)
theorem f_Order_number_of_at_Order (Z : FX K mg) : FnD PP w K mg base 4 (He.ma K (He.ga K "Order") "number_of") m_Order_number_of := f_Order_number_of Z
noncomputable def b_Order_of_costs : DS := seqS (ifS (orT (notT (truM (argM (isiD it0) (consA (vM 1) (consA (cM (.ty "dict")) (nilA)))))) (notT (truM (argM (allD) (consA (lcM false (seqI (vM 1)) (nameG 3) (yesM) (callM m_is_letter (consA (vM 3) (nilA))) [3]) (nilA)))))) (raiseS "InvalidLetters" "value" (consA (vM 1) (nilA))) (skipS)) (seqS (setS 2 (bmD isStrD joinD (cM (.str "")) (consA (argM sortedD (consA (vM 1) (nilA))) (nilA)))) (seqS (ifS (notT (truM (callM m_are_letters (consA (vM 2) (nilA))))) (raiseS "InvalidLetters" "value" (consA (vM 1) (nilA))) (skipS)) (retS (makeLM false "Order" m_Order___init__ (vM 0) (kwA (consA (vM 2) (nilA)) (sprK (vM 1)))))))
noncomputable def m_Order_of_costs : DF := bodyM 2 [] 4 b_Order_of_costs
theorem c_Order_of_costs (Z : FX K mg) {f : Addr} : BodyD PP w K mg base ["cls", "costs", "letters", "letter"] "Order.of_costs" (defScope s_Order_of_costs) f 4 (defBody s_Order_of_costs) b_Order_of_costs := by
  intro cdv A outer s H E hr
  have nd : (["cls", "costs", "letters", "letter"] : List Str).Nodup := by decide +kernel
  have tk : Takes (cxOf (L2.CX PP w) PP w K mg base ["cls", "costs", "letters", "letter"] "Order.of_costs" (defScope s_Order_of_costs) f cdv A outer s H E) (fun c d _ H' => E c d H') := takes_of rfl rfl rfl rfl
  have hp := passes_of (X := cxOf (L2.CX PP w) PP w K mg base ["cls", "costs", "letters", "letter"] "Order.of_costs" (defScope s_Order_of_costs) f cdv A outer s H E) rfl
  have hu := hr.rm.units
  have hu1 : _ + 1 < cLine := Nat.lt_of_le_of_lt (Nat.add_le_add_left (by decide : 1 ≤ 64) _) hu
  exact (s_cons (s_if (PW.pt (w_or (t_not (t_truth (e_callB call_isi (v_isi (z_isi Z)) rfl (z8 Z) (by decide +kernel) (a_cons (ev 1) (a_cons (e_ty (n := "dict") rfl (z43 Z) (by decide +kernel)) a_nil))))) (w_or1 (t_not (t_truth (e_callB (cr_all rfl) v_all rfl (z12 Z) (by decide +kernel) (a_cons (e_lc false rfl nd (i_seq (ev 1)) (own := ([("letter", 3)] : List (Str × Nat))) (show BlkOk ["cls", "costs", "letters", "letter"] (defScope s_Order_of_costs) _ _ from ⟨rfl, by decide +kernel, by decide +kernel, by decide +kernel, by decide +kernel⟩) (fun _ _ _ _ _ => (gw_name nd rfl (by first | exact .inl rfl | exact .inr rfl) (by decide))) (fun _ _ _ _ _ => ts_nil) (fun _ _ _ _ _ => (e_call takes_blk (f_is_letter Z) (hr.mono (Nat.le_of_ble_eq_true rfl) : Rm 1 _) rfl (z20 Z) (k_is_letter Z) (a_cons (ev 3) a_nil)))) a_nil))))))) (s_one (raise_row1 (x_InvalidLetters Z) fun fd h => s_raise1 rfl tk ⟨((z3 Z)).1, ((z3 Z)).2.1, ((z3 Z)).2.2⟩ h.1 ((hr.mono (Nat.le_of_ble_eq_true rfl) : Rm 2 _)).rm h.2 rfl (z18 Z) (a_cons (ev 1) a_nil))) s_nil)
    (s_cons (s_set nd rfl (by first | exact .inl rfl | exact .inr rfl) (e_bm PySem.F.plainAttrs_str PySem.F.slot_str_join PySem.F.type_str_join mt_join ty_str v_join e_str (a_cons (e_callB (cr_sortedAll rfl) v_sorted rfl (z19 Z) (by decide +kernel) (a_cons (ev 1) a_nil)) a_nil)))
    (s_cons (s_if (t_not (t_truth (e_call tk (f_are_letters Z) (hr.mono (Nat.le_of_ble_eq_true rfl) : Rm 1 _) rfl (z17 Z) (k_are_letters Z) (a_cons (ev 2) a_nil)))) (s_one (raise_row1 (x_InvalidLetters Z) fun fd h => s_raise1 rfl tk ⟨((z3 Z)).1, ((z3 Z)).2.1, ((z3 Z)).2.2⟩ h.1 ((hr.mono (Nat.le_of_ble_eq_true rfl) : Rm 2 _)).rm h.2 rfl (z18 Z) (a_cons (ev 1) a_nil))) s_nil)
    (s_one (s_ret (e_makeLK false tk (z44 Z) (f_Order___init___at_Order Z) (hr.mono (Nat.le_of_ble_eq_true rfl) : Rm 4 _) (ev 0) (a_cons (ev 2) a_nil) (ev 1)))))))
theorem f_Order_of_costs (Z : FX K mg) : FnD PP w K mg base 5 ((fun K => He5.wf K (He.ga K "Order") "classmethod" "of_costs") K) m_Order_of_costs := by
  obtain ⟨fd, F0⟩ := Z.df 24 (d := d_Order_of_costs) rfl rfl
  have F : FunD K "of_costs" "Order.of_costs" (defArgs s_Order_of_costs) (defBody s_Order_of_costs) (defScope s_Order_of_costs) [] [] ((fun K => He5.wf K (He.ga K "Order") "classmethod" "of_costs") K) fd := cast (by kernel_rfl) F0
  exact fn_ok0 (x := "of_costs") (qual := "Order.of_costs") (params := defArgs s_Order_of_costs) (body := defBody s_Order_of_costs) (scope := defScope s_Order_of_costs) (kws := []) (N := ["cls", "costs", "letters", "letter"]) (ps := ["cls", "costs"]) (k := 4) (b := b_Order_of_costs) F ⟨by kernel_rfl, by kernel_rfl, by kernel_rfl, by decide +kernel, by kernel_rfl, by decide +kernel, by decide +kernel⟩ (fun _ _ _ _ _ _ us hl => match us, hl with | [_, _], _ => by kernel_rfl) (c_Order_of_costs Z)
noncomputable def b_Order_sorted_words : DS := seqS (forS (seqI (vM 1)) (nameG 2) (exprS (callM m_need_word (consA (attrM [("Order", .fld)] "own_letters" (vM 0)) (consA (vM 2) (nilA)))))) (retS (sortKM [("Order", m_Order_key)] "key" (argM (listKD false) (consA (dcM (seqI (vM 1)) (nameG 2) (yesM) (vM 2) (cM (.bl true)) [2]) (nilA))) (vM 0)))
noncomputable def m_Order_sorted_words : DF := bodyV 1 3 b_Order_sorted_words
theorem c_Order_sorted_words (Z : FX K mg) {f : Addr} : BodyD PP w K mg base ["self", "words", "word"] "Order.sorted_words" (defScope s_Order_sorted_words) f 4 (defBody s_Order_sorted_words) b_Order_sorted_words := by
  intro cdv A outer s H E hr
  have nd : (["self", "words", "word"] : List Str).Nodup := by decide +kernel
  have tk : Takes (cxOf (L2.CX PP w) PP w K mg base ["self", "words", "word"] "Order.sorted_words" (defScope s_Order_sorted_words) f cdv A outer s H E) (fun c d _ H' => E c d H') := takes_of rfl rfl rfl rfl
  have hp := passes_of (X := cxOf (L2.CX PP w) PP w K mg base ["self", "words", "word"] "Order.sorted_words" (defScope s_Order_sorted_words) f cdv A outer s H E) rfl
  have hu := hr.rm.units
  have hu1 : _ + 1 < cLine := Nat.lt_of_le_of_lt (Nat.add_le_add_left (by decide : 1 ≤ 64) _) hu
  exact (s_cons (s_for hp rfl (i_seq (ev 1)) (g_name nd rfl (by first | exact .inl rfl | exact .inr rfl)) (s_one (s_expr (e_call tk (f_need_word Z) (hr.mono (Nat.le_of_ble_eq_true rfl) : Rm 3 _) rfl (z36 Z) (k_need_word Z) (a_cons (e_attr (.fld (z24 Z) (z25 Z) .nil) (ev 0)) (a_cons (ev 2) a_nil))))))
    (s_one (s_ret (e_sortedK tk (.cons ⟨(z24 Z), _, 2, (z45 Z), f_Order_key_at_Order Z, (hr.mono (Nat.le_of_ble_eq_true rfl) : Rm 4 _)⟩ .nil) rfl (z19 Z) (a_cons (e_callTy (call_listK rfl) v_listK rfl (z40 Z) (by decide +kernel) (a_cons (e_dc rfl nd (i_seq (ev 1)) (own := ([("word", 2)] : List (Str × Nat))) (show BlkOk ["self", "words", "word"] (defScope s_Order_sorted_words) _ _ from ⟨rfl, by decide +kernel, by decide +kernel, by decide +kernel, by decide +kernel⟩) (fun _ _ _ _ _ => (gw_name nd rfl (by first | exact .inl rfl | exact .inr rfl) (by decide))) (fun _ _ _ _ _ => ts_nil) (fun _ _ _ _ _ => (ev 2)) (fun _ _ _ _ _ => e_bl)) a_nil)) a_nil) (ev 0)))))
theorem f_Order_sorted_words (Z : FX K mg) : FnD PP w K mg base 5 ((fun K => He.ma K (He.ga K "Order") "sorted_words") K) m_Order_sorted_words := by
  obtain ⟨fd, F⟩ := Z.df 25 (d := d_Order_sorted_words) rfl rfl
  exact fn_okV (ps := ["self"]) (pv := "words") F ⟨rfl, rfl, rfl, by decide +kernel, rfl, by decide +kernel, by decide +kernel⟩ (fun b1 b2 b3 b4 b5 b6 => StX.bind_star1 (B := fun l => bindArgs (PySem.W.fnOf _ _ _ _ _ .none b1 b2 b3 b4 b5 b6) ⟨l, []⟩) (fun a0 => rfl) (fun a0 r rs => rfl)) (c_Order_sorted_words Z)
theorem f_Order_sorted_words_at_Order (Z : FX K mg) : FnD PP w K mg base 5 (He.ma K (He.ga K "Order") "sorted_words") m_Order_sorted_words := f_Order_sorted_words Z
noncomputable def b__law_draw : DS := seqS (ifS (blM (binM gtI (binM idxD (vM 0) (cM (.str "left"))) (cM (.int 0)))) (seqS (setS 6 (binM modD (argM (intD) (consA (binM idxD (vM 0) (cM (.str "left"))) (nilA))) (vM 1))) (seqS (subS (vM 0) (cM (.str "left")) (binM divD (binM idxD (vM 0) (cM (.str "left"))) (vM 1))) (retS (vM 6)))) (skipS)) (seqS (setS 2 (binM idxD (vM 0) (cM (.str "begun")))) (seqS (subS (vM 0) (cM (.str "begun")) (binM addD (vM 2) (cM (.int 1)))) (seqS (setS 3 (binM addD (binM mulD (cM (.int 53)) (vM 2)) (cM (.int 17)))) (seqS (ifS (blM (binM neD (binM idxD (vM 0) (cM (.str "cells"))) (argM (lstD false) (nilA)))) (setS 3 (binM idxD (binM idxD (vM 0) (cM (.str "cells"))) (binM modD (argM (intD) (consA (vM 2) (nilA))) (argM (lenD) (consA (binM idxD (vM 0) (cM (.str "cells"))) (nilA)))))) (skipS)) (seqS (ifS (andT (blM (binM ltI (vM 2) (argM (lenD) (consA (binM idxD (vM 0) (cM (.str "cells"))) (nilA))))) (blM (binM geI (argM (absD) (consA (vM 3) (nilA))) (binM powD (cM (.int 10)) (cM (.int 18)))))) (seqS (subS (vM 0) (cM (.str "left")) (binM divD (binM subD (argM (absD) (consA (vM 3) (nilA))) (binM powD (cM (.int 10)) (cM (.int 18)))) (vM 1))) (retS (binM modD (argM (intD) (consA (binM subD (argM (absD) (consA (vM 3) (nilA))) (binM powD (cM (.int 10)) (cM (.int 18)))) (nilA))) (vM 1)))) (skipS)) (seqS (setS 4 (binM mulD (binM modD (argM (intD) (consA (vM 3) (nilA))) (cM (.int 4294967197))) (cM (.int 48673)))) (seqS (setS 5 (binM modD (argM (intD) (consA (binM addD (binM addD (vM 4) (binM mulD (vM 2) (binM addD (binM mulD (cM (.int 40009)) (vM 2)) (cM (.int 1511))))) (cM (.int 331))) (nilA))) (cM (.int 4294967189)))) (seqS (setS 5 (binM modD (argM (intD) (consA (binM addD (binM addD (binM addD (binM mulD (vM 5) (vM 5)) (binM mulD (cM (.int 75629)) (vM 5))) (binM mulD (cM (.int 19)) (vM 2))) (cM (.int 7))) (nilA))) (cM (.int 4294967161)))) (retS (binM modD (argM (intD) (consA (binM divD (binM modD (argM (intD) (consA (binM mulD (vM 5) (binM addD (vM 5) (cM (.int 52361)))) (nilA))) (cM (.int 4294967143))) (cM (.int 64))) (nilA))) (vM 1)))))))))))
noncomputable def m__law_draw : DF := bodyM 2 [] 7 b__law_draw
theorem c__law_draw (Z : FX K mg) {f : Addr} : BodyD PP w K mg base ["_law_pen_here", "_law_many", "_law_place", "_law_cell", "_law_mixed", "_law_drawn", "_law_digit"] "_law_draw" (defScope s__law_draw) f 0 (defBody s__law_draw) b__law_draw := by
  intro cdv A outer s H E hr
  have nd : (["_law_pen_here", "_law_many", "_law_place", "_law_cell", "_law_mixed", "_law_drawn", "_law_digit"] : List Str).Nodup := by decide +kernel
  have tk : Takes (cxOf (L2.CX PP w) PP w K mg base ["_law_pen_here", "_law_many", "_law_place", "_law_cell", "_law_mixed", "_law_drawn", "_law_digit"] "_law_draw" (defScope s__law_draw) f cdv A outer s H E) (fun c d _ H' => E c d H') := takes_of rfl rfl rfl rfl
  have hp := passes_of (X := cxOf (L2.CX PP w) PP w K mg base ["_law_pen_here", "_law_many", "_law_place", "_law_cell", "_law_mixed", "_law_drawn", "_law_digit"] "_law_draw" (defScope s__law_draw) f cdv A outer s H E) rfl
  have hu := hr.rm.units
  have hu1 : _ + 1 < cLine := Nat.lt_of_le_of_lt (Nat.add_le_add_left (by decide : 1 ≤ 64) _) hu
  exact (s_cons (s_if (t_gt (e_idx hu1 (ev 0) e_str) e_int) (s_cons (s_set nd rfl (by first | exact .inl rfl | exact .inr rfl) (e_mod (e_callTy call_int1 v_int rfl (z14 Z) (by decide +kernel) (a_cons (e_idx hu1 (ev 0) e_str) a_nil)) (ev 1)))
    (s_cons (s_sub hu1 (ev 0) e_str (e_div (e_idx hu1 (ev 0) e_str) (ev 1)))
    (s_one (s_ret (ev 6))))) s_nil)
    (s_cons (s_set nd rfl (by first | exact .inl rfl | exact .inr rfl) (e_idx hu1 (ev 0) e_str))
    (s_cons (s_sub hu1 (ev 0) e_str (e_add (ev 2) e_int))
    (s_cons (s_set nd rfl (by first | exact .inl rfl | exact .inr rfl) (e_add (e_mul e_int (ev 2)) e_int))
    (s_cons (s_if (t_ne hu (e_idx hu1 (ev 0) e_str) (e_lst false a_nil)) (s_one (s_set nd rfl (by first | exact .inl rfl | exact .inr rfl) (e_idx hu1 (e_idx hu1 (ev 0) e_str) (e_mod (e_callTy call_int1 v_int rfl (z14 Z) (by decide +kernel) (a_cons (ev 2) a_nil)) (e_callB call_len v_len rfl (z9 Z) (by decide +kernel) (a_cons (e_idx hu1 (ev 0) e_str) a_nil)))))) s_nil)
    (s_cons (s_if (PW.pt (w_and (t_lt (ev 2) (e_callB call_len v_len rfl (z9 Z) (by decide +kernel) (a_cons (e_idx hu1 (ev 0) e_str) a_nil))) (w_and1 (t_ge (e_callB call_abs v_abs rfl (z46 Z) (by decide +kernel) (a_cons (ev 3) a_nil)) (e_pow e_int e_int))))) (s_cons (s_sub hu1 (ev 0) e_str (e_div (e_sub (e_callB call_abs v_abs rfl (z46 Z) (by decide +kernel) (a_cons (ev 3) a_nil)) (e_pow e_int e_int)) (ev 1)))
    (s_one (s_ret (e_mod (e_callTy call_int1 v_int rfl (z14 Z) (by decide +kernel) (a_cons (e_sub (e_callB call_abs v_abs rfl (z46 Z) (by decide +kernel) (a_cons (ev 3) a_nil)) (e_pow e_int e_int)) a_nil)) (ev 1))))) s_nil)
    (s_cons (s_set nd rfl (by first | exact .inl rfl | exact .inr rfl) (e_mul (e_mod (e_callTy call_int1 v_int rfl (z14 Z) (by decide +kernel) (a_cons (ev 3) a_nil)) e_int) e_int))
    (s_cons (s_set nd rfl (by first | exact .inl rfl | exact .inr rfl) (e_mod (e_callTy call_int1 v_int rfl (z14 Z) (by decide +kernel) (a_cons (e_add (e_add (ev 4) (e_mul (ev 2) (e_add (e_mul e_int (ev 2)) e_int))) e_int) a_nil)) e_int))
    (s_cons (s_set nd rfl (by first | exact .inl rfl | exact .inr rfl) (e_mod (e_callTy call_int1 v_int rfl (z14 Z) (by decide +kernel) (a_cons (e_add (e_add (e_add (e_mul (ev 5) (ev 5)) (e_mul e_int (ev 5))) (e_mul e_int (ev 2))) e_int) a_nil)) e_int))
    (s_one (s_ret (e_mod (e_callTy call_int1 v_int rfl (z14 Z) (by decide +kernel) (a_cons (e_div (e_mod (e_callTy call_int1 v_int rfl (z14 Z) (by decide +kernel) (a_cons (e_mul (ev 5) (e_add (ev 5) e_int)) a_nil)) e_int) e_int) a_nil)) (ev 1)))))))))))))
theorem f__law_draw (Z : FX K mg) : FnD PP w K mg base 1 ((fun K => He.ga K "_law_draw") K) m__law_draw := by
  obtain ⟨fd, F0⟩ := Z.df 26 (d := d__law_draw) rfl rfl
  have F : FunD K "_law_draw" "_law_draw" (defArgs s__law_draw) (defBody s__law_draw) (defScope s__law_draw) [] [] ((fun K => He.ga K "_law_draw") K) fd := cast (by kernel_rfl) F0
  exact fn_ok0 (x := "_law_draw") (qual := "_law_draw") (params := defArgs s__law_draw) (body := defBody s__law_draw) (scope := defScope s__law_draw) (kws := []) (N := ["_law_pen_here", "_law_many", "_law_place", "_law_cell", "_law_mixed", "_law_drawn", "_law_digit"]) (ps := ["_law_pen_here", "_law_many"]) (k := 0) (b := b__law_draw) F ⟨by kernel_rfl, by kernel_rfl, by kernel_rfl, by decide +kernel, by kernel_rfl, by decide +kernel, by decide +kernel⟩ (fun _ _ _ _ _ _ us hl => match us, hl with | [_, _], _ => by kernel_rfl) (c__law_draw Z)
theorem k__law_draw (Z : FX K mg) : PySem.W.keepIn K (.ref ((fun K => He.ga K "_law_draw") K)) = true := Z.keep 26 (d := d__law_draw) rfl
noncomputable def b__law_pick : DS := retS (binM idxD (vM 1) (callM m__law_draw (consA (vM 0) (consA (argM (lenD) (consA (vM 1) (nilA))) (nilA)))))
noncomputable def m__law_pick : DF := bodyM 2 [] 2 b__law_pick
theorem c__law_pick (Z : FX K mg) {f : Addr} : BodyD PP w K mg base ["_law_pen_here", "_law_options"] "_law_pick" (defScope s__law_pick) f 1 (defBody s__law_pick) b__law_pick := by
  intro cdv A outer s H E hr
  have nd : (["_law_pen_here", "_law_options"] : List Str).Nodup := by decide +kernel
  have tk : Takes (cxOf (L2.CX PP w) PP w K mg base ["_law_pen_here", "_law_options"] "_law_pick" (defScope s__law_pick) f cdv A outer s H E) (fun c d _ H' => E c d H') := takes_of rfl rfl rfl rfl
  have hp := passes_of (X := cxOf (L2.CX PP w) PP w K mg base ["_law_pen_here", "_law_options"] "_law_pick" (defScope s__law_pick) f cdv A outer s H E) rfl
  have hu := hr.rm.units
  have hu1 : _ + 1 < cLine := Nat.lt_of_le_of_lt (Nat.add_le_add_left (by decide : 1 ≤ 64) _) hu
  exact (s_one (s_ret (e_idx hu1 (ev 1) (e_call tk (f__law_draw Z) (hr.mono (Nat.le_of_ble_eq_true rfl) : Rm 1 _) rfl (z47 Z) (k__law_draw Z) (a_cons (ev 0) (a_cons (e_callB call_len v_len rfl (z9 Z) (by decide +kernel) (a_cons (ev 1) a_nil)) a_nil))))))
theorem f__law_pick (Z : FX K mg) : FnD PP w K mg base 2 ((fun K => He.ga K "_law_pick") K) m__law_pick := by
  obtain ⟨fd, F0⟩ := Z.df 27 (d := d__law_pick) rfl rfl
  have F : FunD K "_law_pick" "_law_pick" (defArgs s__law_pick) (defBody s__law_pick) (defScope s__law_pick) [] [] ((fun K => He.ga K "_law_pick") K) fd := cast (by kernel_rfl) F0
  exact fn_ok0 (x := "_law_pick") (qual := "_law_pick") (params := defArgs s__law_pick) (body := defBody s__law_pick) (scope := defScope s__law_pick) (kws := []) (N := ["_law_pen_here", "_law_options"]) (ps := ["_law_pen_here", "_law_options"]) (k := 1) (b := b__law_pick) F ⟨by kernel_rfl, by kernel_rfl, by kernel_rfl, by decide +kernel, by kernel_rfl, by decide +kernel, by decide +kernel⟩ (fun _ _ _ _ _ _ us hl => match us, hl with | [_, _], _ => by kernel_rfl) (c__law_pick Z)
theorem k__law_pick (Z : FX K mg) : PySem.W.keepIn K (.ref ((fun K => He.ga K "_law_pick") K)) = true := Z.keep 27 (d := d__law_pick) rfl
noncomputable def b__law_costs : DS := retS (argM (dictPD false) (consA (lcM false (seqI (vM 1)) (nameG 2) (yesM) (argM tupD (consA (vM 2) (consA (callM m__law_pick (consA (vM 0) (consA (argM (lstD false) (consA (cM (.int 1)) (consA (cM (.int 1)) (consA (cM (.int 1)) (consA (cM (.int 2)) (consA (cM (.int 2)) (consA (cM (.int 3)) (consA (cM (.int 9)) (nilA))))))))) (nilA)))) (nilA)))) [2]) (nilA)))
noncomputable def m__law_costs : DF := bodyM 2 [] 3 b__law_costs
theorem c__law_costs (Z : FX K mg) {f : Addr} : BodyD PP w K mg base ["_law_pen_here", "_law_letters_here", "_law_letter"] "_law_costs" (defScope s__law_costs) f 2 (defBody s__law_costs) b__law_costs := by
  intro cdv A outer s H E hr
  have nd : (["_law_pen_here", "_law_letters_here", "_law_letter"] : List Str).Nodup := by decide +kernel
  have tk : Takes (cxOf (L2.CX PP w) PP w K mg base ["_law_pen_here", "_law_letters_here", "_law_letter"] "_law_costs" (defScope s__law_costs) f cdv A outer s H E) (fun c d _ H' => E c d H') := takes_of rfl rfl rfl rfl
  have hp := passes_of (X := cxOf (L2.CX PP w) PP w K mg base ["_law_pen_here", "_law_letters_here", "_law_letter"] "_law_costs" (defScope s__law_costs) f cdv A outer s H E) rfl
  have hu := hr.rm.units
  have hu1 : _ + 1 < cLine := Nat.lt_of_le_of_lt (Nat.add_le_add_left (by decide : 1 ≤ 64) _) hu
  exact (s_one (s_ret (e_dict false rfl rfl (z43 Z) (a_cons (e_lc false rfl nd (i_seq (ev 1)) (own := ([("_law_letter", 2)] : List (Str × Nat))) (show BlkOk ["_law_pen_here", "_law_letters_here", "_law_letter"] (defScope s__law_costs) _ _ from ⟨rfl, by decide +kernel, by decide +kernel, by decide +kernel, by decide +kernel⟩) (fun _ _ _ _ _ => (gw_name nd rfl (by first | exact .inl rfl | exact .inr rfl) (by decide))) (fun _ _ _ _ _ => ts_nil) (fun _ _ _ _ _ => (e_tup (a_cons (ev 2) (a_cons (e_call takes_blk (f__law_pick Z) (hr.mono (Nat.le_of_ble_eq_true rfl) : Rm 2 _) rfl (z48 Z) (k__law_pick Z) (a_cons (ev 0) (a_cons (e_lst false (a_cons e_int (a_cons e_int (a_cons e_int (a_cons e_int (a_cons e_int (a_cons e_int (a_cons e_int a_nil)))))))) a_nil))) a_nil))))) a_nil))))
theorem f__law_costs (Z : FX K mg) : FnD PP w K mg base 3 ((fun K => He.ga K "_law_costs") K) m__law_costs := by
  obtain ⟨fd, F0⟩ := Z.df 28 (d := d__law_costs) rfl rfl
  have F : FunD K "_law_costs" "_law_costs" (defArgs s__law_costs) (defBody s__law_costs) (defScope s__law_costs) [] [] ((fun K => He.ga K "_law_costs") K) fd := cast (by kernel_rfl) F0
  exact fn_ok0 (x := "_law_costs") (qual := "_law_costs") (params := defArgs s__law_costs) (body := defBody s__law_costs) (scope := defScope s__law_costs) (kws := []) (N := ["_law_pen_here", "_law_letters_here", "_law_letter"]) (ps := ["_law_pen_here", "_law_letters_here"]) (k := 2) (b := b__law_costs) F ⟨by kernel_rfl, by kernel_rfl, by kernel_rfl, by decide +kernel, by kernel_rfl, by decide +kernel, by decide +kernel⟩ (fun _ _ _ _ _ _ us hl => match us, hl with | [_, _], _ => by kernel_rfl) (c__law_costs Z)
theorem k__law_costs (Z : FX K mg) : PySem.W.keepIn K (.ref ((fun K => He.ga K "_law_costs") K)) = true := Z.keep 28 (d := d__law_costs) rfl
noncomputable def b__law_letter_more : DS := seqS (setS 2 (lcM false (seqI (cM (.str "abcdefghijklmnopqrstuvwxyz"))) (nameG 4) (blM (binM (inD true) (vM 4) (vM 1))) (vM 4) [4])) (seqS (setS 3 (argM (dictPD true) (consA (vM 1) (nilA)))) (seqS (ifS (blM (binM ltI (argM lenX (consA (vM 1) (nilA))) (cM (.int 4)))) (subS (vM 3) (callM m__law_pick (consA (vM 0) (consA (vM 2) (nilA)))) (callM m__law_pick (consA (vM 0) (consA (argM (lstD false) (consA (cM (.int 1)) (consA (cM (.int 2)) (consA (cM (.int 3)) (nilA))))) (nilA))))) (skipS)) (retS (argM (dictPD false) (consA (lcM false (seqI (argM sortedD (consA (vM 3) (nilA)))) (nameG 4) (yesM) (argM tupD (consA (vM 4) (consA (binM idxD (vM 3) (vM 4)) (nilA)))) [4]) (nilA))))))
noncomputable def m__law_letter_more : DF := bodyM 2 [] 5 b__law_letter_more
theorem c__law_letter_more (Z : FX K mg) {f : Addr} : BodyD PP w K mg base ["_law_pen_here", "_law_costs_here", "_law_fresh", "_law_found", "_law_letter"] "_law_letter_more" (defScope s__law_letter_more) f 2 (defBody s__law_letter_more) b__law_letter_more := by
  intro cdv A outer s H E hr
  have nd : (["_law_pen_here", "_law_costs_here", "_law_fresh", "_law_found", "_law_letter"] : List Str).Nodup := by decide +kernel
  have tk : Takes (cxOf (L2.CX PP w) PP w K mg base ["_law_pen_here", "_law_costs_here", "_law_fresh", "_law_found", "_law_letter"] "_law_letter_more" (defScope s__law_letter_more) f cdv A outer s H E) (fun c d _ H' => E c d H') := takes_of rfl rfl rfl rfl
  have hp := passes_of (X := cxOf (L2.CX PP w) PP w K mg base ["_law_pen_here", "_law_costs_here", "_law_fresh", "_law_found", "_law_letter"] "_law_letter_more" (defScope s__law_letter_more) f cdv A outer s H E) rfl
  have hu := hr.rm.units
  have hu1 : _ + 1 < cLine := Nat.lt_of_le_of_lt (Nat.add_le_add_left (by decide : 1 ≤ 64) _) hu
  exact (s_cons (s_setLc false rfl nd rfl rfl rfl (i_seq e_str) (own := ([("_law_letter", 4)] : List (Str × Nat))) (show BlkOk ["_law_pen_here", "_law_costs_here", "_law_fresh", "_law_found", "_law_letter"] (defScope s__law_letter_more) _ _ from ⟨rfl, by decide +kernel, by decide +kernel, by decide +kernel, by decide +kernel⟩) (fun _ _ _ _ _ => (gw_name nd rfl (by first | exact .inl rfl | exact .inr rfl) (by decide))) (fun _ _ _ _ _ => (ts_one (t_notIn hu1 (ev 4) (ev 1)))) (fun _ _ _ _ _ => (ev 4)))
    (s_cons (s_set nd rfl (by first | exact .inl rfl | exact .inr rfl) (e_dict true rfl rfl (z43 Z) (a_cons (ev 1) a_nil)))
    (s_cons (s_if (t_lt (e_callB call_lenX v_lenX rfl (z9 Z) (by decide +kernel) (a_cons (ev 1) a_nil)) e_int) (s_one (s_sub hu1 (ev 3) (e_call tk (f__law_pick Z) (hr.mono (Nat.le_of_ble_eq_true rfl) : Rm 2 _) rfl (z48 Z) (k__law_pick Z) (a_cons (ev 0) (a_cons (ev 2) a_nil))) (e_call tk (f__law_pick Z) (hr.mono (Nat.le_of_ble_eq_true rfl) : Rm 2 _) rfl (z48 Z) (k__law_pick Z) (a_cons (ev 0) (a_cons (e_lst false (a_cons e_int (a_cons e_int (a_cons e_int a_nil)))) a_nil))))) s_nil)
    (s_one (s_ret (e_dict false rfl rfl (z43 Z) (a_cons (e_lc false rfl nd (i_seq (e_callB (cr_sortedAll rfl) v_sorted rfl (z19 Z) (by decide +kernel) (a_cons (ev 3) a_nil))) (own := ([("_law_letter", 4)] : List (Str × Nat))) (show BlkOk ["_law_pen_here", "_law_costs_here", "_law_fresh", "_law_found", "_law_letter"] (defScope s__law_letter_more) _ _ from ⟨rfl, by decide +kernel, by decide +kernel, by decide +kernel, by decide +kernel⟩) (fun _ _ _ _ _ => (gw_name nd rfl (by first | exact .inl rfl | exact .inr rfl) (by decide))) (fun _ _ _ _ _ => ts_nil) (fun _ _ _ _ _ => (e_tup (a_cons (ev 4) (a_cons (e_idx hu1 (ev 3) (ev 4)) a_nil))))) a_nil)))))))
theorem f__law_letter_more (Z : FX K mg) : FnD PP w K mg base 3 ((fun K => He.ga K "_law_letter_more") K) m__law_letter_more := by
  obtain ⟨fd, F0⟩ := Z.df 29 (d := d__law_letter_more) rfl rfl
  have F : FunD K "_law_letter_more" "_law_letter_more" (defArgs s__law_letter_more) (defBody s__law_letter_more) (defScope s__law_letter_more) [] [] ((fun K => He.ga K "_law_letter_more") K) fd := cast (by kernel_rfl) F0
  exact fn_ok0 (x := "_law_letter_more") (qual := "_law_letter_more") (params := defArgs s__law_letter_more) (body := defBody s__law_letter_more) (scope := defScope s__law_letter_more) (kws := []) (N := ["_law_pen_here", "_law_costs_here", "_law_fresh", "_law_found", "_law_letter"]) (ps := ["_law_pen_here", "_law_costs_here"]) (k := 2) (b := b__law_letter_more) F ⟨by kernel_rfl, by kernel_rfl, by kernel_rfl, by decide +kernel, by kernel_rfl, by decide +kernel, by decide +kernel⟩ (fun _ _ _ _ _ _ us hl => match us, hl with | [_, _], _ => by kernel_rfl) (c__law_letter_more Z)
theorem k__law_letter_more (Z : FX K mg) : PySem.W.keepIn K (.ref ((fun K => He.ga K "_law_letter_more") K)) = true := Z.keep 29 (d := d__law_letter_more) rfl
noncomputable def b__law_shuffled : DS := seqS (par2S 2 3 (consA (argM (listD true) (consA (vM 1) (nilA))) (consA (argM (lstD true) (nilA)) (nilA)))) (seqS (whileS (blM (binM neD (vM 2) (argM (lstD false) (nilA)))) (exprS (bmD isLstD appD (vM 3) (consA (bmD isLstD popD (vM 2) (consA (callM m__law_draw (consA (vM 0) (consA (argM (lenD) (consA (vM 2) (nilA))) (nilA)))) (nilA))) (nilA))))) (retS (vM 3)))
noncomputable def m__law_shuffled : DF := bodyM 2 [] 4 b__law_shuffled
theorem c__law_shuffled (Z : FX K mg) {f : Addr} : BodyD PP w K mg base ["_law_pen_here", "_law_items", "_law_rest", "_law_found"] "_law_shuffled" (defScope s__law_shuffled) f 1 (defBody s__law_shuffled) b__law_shuffled := by
  intro cdv A outer s H E hr
  have nd : (["_law_pen_here", "_law_items", "_law_rest", "_law_found"] : List Str).Nodup := by decide +kernel
  have tk : Takes (cxOf (L2.CX PP w) PP w K mg base ["_law_pen_here", "_law_items", "_law_rest", "_law_found"] "_law_shuffled" (defScope s__law_shuffled) f cdv A outer s H E) (fun c d _ H' => E c d H') := takes_of rfl rfl rfl rfl
  have hp := passes_of (X := cxOf (L2.CX PP w) PP w K mg base ["_law_pen_here", "_law_items", "_law_rest", "_law_found"] "_law_shuffled" (defScope s__law_shuffled) f cdv A outer s H E) rfl
  have hu := hr.rm.units
  have hu1 : _ + 1 < cLine := Nat.lt_of_le_of_lt (Nat.add_le_add_left (by decide : 1 ≤ 64) _) hu
  exact (s_cons (s_par2 rfl nd rfl rfl (by decide) rfl rfl (a_cons (e_callTy call_list_of v_list rfl (z40 Z) (by decide +kernel) (a_cons (ev 1) a_nil)) (a_cons (e_lst true a_nil) a_nil)))
    (s_cons (s_while hp (t_ne hu (ev 2) (e_lst false a_nil)) (s_one (s_expr (e_bm PySem.F.plainAttrs_list PySem.F.slot_list_append PySem.F.type_list_append mt_append ty_lst v_app (ev 3) (a_cons (e_bm PySem.F.plainAttrs_list PySem.F.slot_list_pop PySem.F.type_list_pop mt_popAt ty_lst v_pop (ev 2) (a_cons (e_call tk (f__law_draw Z) (hr.mono (Nat.le_of_ble_eq_true rfl) : Rm 1 _) rfl (z47 Z) (k__law_draw Z) (a_cons (ev 0) (a_cons (e_callB call_len v_len rfl (z9 Z) (by decide +kernel) (a_cons (ev 2) a_nil)) a_nil))) a_nil)) a_nil)))))
    (s_one (s_ret (ev 3)))))
theorem f__law_shuffled (Z : FX K mg) : FnD PP w K mg base 2 ((fun K => He.ga K "_law_shuffled") K) m__law_shuffled := by
  obtain ⟨fd, F0⟩ := Z.df 30 (d := d__law_shuffled) rfl rfl
  have F : FunD K "_law_shuffled" "_law_shuffled" (defArgs s__law_shuffled) (defBody s__law_shuffled) (defScope s__law_shuffled) [] [] ((fun K => He.ga K "_law_shuffled") K) fd := cast (by kernel_rfl) F0
  exact fn_ok0 (x := "_law_shuffled") (qual := "_law_shuffled") (params := defArgs s__law_shuffled) (body := defBody s__law_shuffled) (scope := defScope s__law_shuffled) (kws := []) (N := ["_law_pen_here", "_law_items", "_law_rest", "_law_found"]) (ps := ["_law_pen_here", "_law_items"]) (k := 1) (b := b__law_shuffled) F ⟨by kernel_rfl, by kernel_rfl, by kernel_rfl, by decide +kernel, by kernel_rfl, by decide +kernel, by decide +kernel⟩ (fun _ _ _ _ _ _ us hl => match us, hl with | [_, _], _ => by kernel_rfl) (c__law_shuffled Z)
theorem k__law_shuffled (Z : FX K mg) : PySem.W.keepIn K (.ref ((fun K => He.ga K "_law_shuffled") K)) = true := Z.keep 30 (d := d__law_shuffled) rfl
noncomputable def b__law_letters : DS := seqS (setS 2 (argM sortedD (consA (sliM false (callM m__law_shuffled (consA (vM 0) (consA (listRgM false (cM (.int 26))) (nilA)))) (pureM none) (optM (binM addD (cM (.int 1)) (callM m__law_draw (consA (vM 0) (consA (vM 1) (nilA))))))) (nilA)))) (retS (bmD isStrD joinD (cM (.str "")) (consA (lcM false (seqI (vM 2)) (nameG 3) (yesM) (binM idxD (cM (.str "abcdefghijklmnopqrstuvwxyz")) (vM 3)) [3]) (nilA))))
noncomputable def m__law_letters : DF := bodyM 2 [] 4 b__law_letters
theorem c__law_letters (Z : FX K mg) {f : Addr} : BodyD PP w K mg base ["_law_pen_here", "_law_most", "_law_places", "_law_place"] "_law_letters" (defScope s__law_letters) f 2 (defBody s__law_letters) b__law_letters := by
  intro cdv A outer s H E hr
  have nd : (["_law_pen_here", "_law_most", "_law_places", "_law_place"] : List Str).Nodup := by decide +kernel
  have tk : Takes (cxOf (L2.CX PP w) PP w K mg base ["_law_pen_here", "_law_most", "_law_places", "_law_place"] "_law_letters" (defScope s__law_letters) f cdv A outer s H E) (fun c d _ H' => E c d H') := takes_of rfl rfl rfl rfl
  have hp := passes_of (X := cxOf (L2.CX PP w) PP w K mg base ["_law_pen_here", "_law_most", "_law_places", "_law_place"] "_law_letters" (defScope s__law_letters) f cdv A outer s H E) rfl
  have hu := hr.rm.units
  have hu1 : _ + 1 < cLine := Nat.lt_of_le_of_lt (Nat.add_le_add_left (by decide : 1 ≤ 64) _) hu
  exact (s_cons (s_set nd rfl (by first | exact .inl rfl | exact .inr rfl) (e_callB (cr_sortedAll rfl) v_sorted rfl (z19 Z) (by decide +kernel) (a_cons (e_sli false (e_call tk (f__law_shuffled Z) (hr.mono (Nat.le_of_ble_eq_true rfl) : Rm 2 _) rfl (z49 Z) (k__law_shuffled Z) (a_cons (ev 0) (a_cons (e_listRg false rfl rfl (z40 Z) rfl (z13 Z) e_int) a_nil))) o_none (o_some (e_add e_int (e_call tk (f__law_draw Z) (hr.mono (Nat.le_of_ble_eq_true rfl) : Rm 1 _) rfl (z47 Z) (k__law_draw Z) (a_cons (ev 0) (a_cons (ev 1) a_nil)))))) a_nil)))
    (s_one (s_ret (e_bm PySem.F.plainAttrs_str PySem.F.slot_str_join PySem.F.type_str_join mt_join ty_str v_join e_str (a_cons (e_lc false rfl nd (i_seq (ev 2)) (own := ([("_law_place", 3)] : List (Str × Nat))) (show BlkOk ["_law_pen_here", "_law_most", "_law_places", "_law_place"] (defScope s__law_letters) _ _ from ⟨rfl, by decide +kernel, by decide +kernel, by decide +kernel, by decide +kernel⟩) (fun _ _ _ _ _ => (gw_name nd rfl (by first | exact .inl rfl | exact .inr rfl) (by decide))) (fun _ _ _ _ _ => ts_nil) (fun _ _ _ _ _ => (e_idx hu1 e_str (ev 3)))) a_nil)))))
theorem f__law_letters (Z : FX K mg) : FnD PP w K mg base 3 ((fun K => He.ga K "_law_letters") K) m__law_letters := by
  obtain ⟨fd, F0⟩ := Z.df 31 (d := d__law_letters) rfl rfl
  have F : FunD K "_law_letters" "_law_letters" (defArgs s__law_letters) (defBody s__law_letters) (defScope s__law_letters) [] [] ((fun K => He.ga K "_law_letters") K) fd := cast (by kernel_rfl) F0
  exact fn_ok0 (x := "_law_letters") (qual := "_law_letters") (params := defArgs s__law_letters) (body := defBody s__law_letters) (scope := defScope s__law_letters) (kws := []) (N := ["_law_pen_here", "_law_most", "_law_places", "_law_place"]) (ps := ["_law_pen_here", "_law_most"]) (k := 2) (b := b__law_letters) F ⟨by kernel_rfl, by kernel_rfl, by kernel_rfl, by decide +kernel, by kernel_rfl, by decide +kernel, by decide +kernel⟩ (fun _ _ _ _ _ _ us hl => match us, hl with | [_, _], _ => by kernel_rfl) (c__law_letters Z)
theorem k__law_letters (Z : FX K mg) : PySem.W.keepIn K (.ref ((fun K => He.ga K "_law_letters") K)) = true := Z.keep 31 (d := d__law_letters) rfl
noncomputable def b__law_made_order : DS := retS (callM m_Order_of_costs (consA (cM (.glo "Order")) (consA (argM (dictPD false) (consA (lcM false (seqI (callM m__law_shuffled (consA (vM 0) (consA (argM (listKD false) (consA (vM 1) (nilA))) (nilA))))) (nameG 2) (yesM) (argM tupD (consA (vM 2) (consA (binM idxD (vM 1) (vM 2)) (nilA)))) [2]) (nilA))) (nilA))))
noncomputable def m__law_made_order : DF := bodyM 2 [] 3 b__law_made_order
theorem c__law_made_order (Z : FX K mg) {f : Addr} : BodyD PP w K mg base ["_law_pen_here", "_law_costs_here", "_law_letter"] "_law_made_order" (defScope s__law_made_order) f 5 (defBody s__law_made_order) b__law_made_order := by
  intro cdv A outer s H E hr
  have nd : (["_law_pen_here", "_law_costs_here", "_law_letter"] : List Str).Nodup := by decide +kernel
  have tk : Takes (cxOf (L2.CX PP w) PP w K mg base ["_law_pen_here", "_law_costs_here", "_law_letter"] "_law_made_order" (defScope s__law_made_order) f cdv A outer s H E) (fun c d _ H' => E c d H') := takes_of rfl rfl rfl rfl
  have hp := passes_of (X := cxOf (L2.CX PP w) PP w K mg base ["_law_pen_here", "_law_costs_here", "_law_letter"] "_law_made_order" (defScope s__law_made_order) f cdv A outer s H E) rfl
  have hu := hr.rm.units
  have hu1 : _ + 1 < cLine := Nat.lt_of_le_of_lt (Nat.add_le_add_left (by decide : 1 ≤ 64) _) hu
  exact (s_one (s_ret (e_cmeth tk (z50 Z) (z51 Z) (f_Order_of_costs Z) (hr.mono (Nat.le_of_ble_eq_true rfl) : Rm 5 _) rfl (z52 Z) (a_cons (e_dict false rfl rfl (z43 Z) (a_cons (e_lc false rfl nd (i_seq (e_call tk (f__law_shuffled Z) (hr.mono (Nat.le_of_ble_eq_true rfl) : Rm 2 _) rfl (z49 Z) (k__law_shuffled Z) (a_cons (ev 0) (a_cons (e_callTy (call_listK rfl) v_listK rfl (z40 Z) (by decide +kernel) (a_cons (ev 1) a_nil)) a_nil)))) (own := ([("_law_letter", 2)] : List (Str × Nat))) (show BlkOk ["_law_pen_here", "_law_costs_here", "_law_letter"] (defScope s__law_made_order) _ _ from ⟨rfl, by decide +kernel, by decide +kernel, by decide +kernel, by decide +kernel⟩) (fun _ _ _ _ _ => (gw_name nd rfl (by first | exact .inl rfl | exact .inr rfl) (by decide))) (fun _ _ _ _ _ => ts_nil) (fun _ _ _ _ _ => (e_tup (a_cons (ev 2) (a_cons (e_idx hu1 (ev 1) (ev 2)) a_nil))))) a_nil)) a_nil))))
theorem f__law_made_order (Z : FX K mg) : FnD PP w K mg base 6 ((fun K => He.ga K "_law_made_order") K) m__law_made_order := by
  obtain ⟨fd, F0⟩ := Z.df 32 (d := d__law_made_order) rfl rfl
  have F : FunD K "_law_made_order" "_law_made_order" (defArgs s__law_made_order) (defBody s__law_made_order) (defScope s__law_made_order) [] [] ((fun K => He.ga K "_law_made_order") K) fd := cast (by kernel_rfl) F0
  exact fn_ok0 (x := "_law_made_order") (qual := "_law_made_order") (params := defArgs s__law_made_order) (body := defBody s__law_made_order) (scope := defScope s__law_made_order) (kws := []) (N := ["_law_pen_here", "_law_costs_here", "_law_letter"]) (ps := ["_law_pen_here", "_law_costs_here"]) (k := 5) (b := b__law_made_order) F ⟨by kernel_rfl, by kernel_rfl, by kernel_rfl, by decide +kernel, by kernel_rfl, by decide +kernel, by decide +kernel⟩ (fun _ _ _ _ _ _ us hl => match us, hl with | [_, _], _ => by kernel_rfl) (c__law_made_order Z)
theorem k__law_made_order (Z : FX K mg) : PySem.W.keepIn K (.ref ((fun K => He.ga K "_law_made_order") K)) = true := Z.keep 32 (d := d__law_made_order) rfl
noncomputable def b__law_other_letters : DS := seqS (setS 2 (argM sortedD (consA (sliM false (callM m__law_shuffled (consA (vM 0) (consA (listRgM false (cM (.int 26))) (nilA)))) (pureM none) (optM (argM lenX (consA (vM 1) (nilA))))) (nilA)))) (retS (argM (dictZD false) (consA (argM (listKD false) (consA (vM 1) (nilA))) (consA (lcM false (seqI (vM 2)) (nameG 3) (yesM) (binM idxD (cM (.str "abcdefghijklmnopqrstuvwxyz")) (vM 3)) [3]) (nilA)))))
noncomputable def m__law_other_letters : DF := bodyM 2 [] 4 b__law_other_letters
theorem c__law_other_letters (Z : FX K mg) {f : Addr} : BodyD PP w K mg base ["_law_pen_here", "_law_costs_here", "_law_places", "_law_place"] "_law_other_letters" (defScope s__law_other_letters) f 2 (defBody s__law_other_letters) b__law_other_letters := by
  intro cdv A outer s H E hr
  have nd : (["_law_pen_here", "_law_costs_here", "_law_places", "_law_place"] : List Str).Nodup := by decide +kernel
  have tk : Takes (cxOf (L2.CX PP w) PP w K mg base ["_law_pen_here", "_law_costs_here", "_law_places", "_law_place"] "_law_other_letters" (defScope s__law_other_letters) f cdv A outer s H E) (fun c d _ H' => E c d H') := takes_of rfl rfl rfl rfl
  have hp := passes_of (X := cxOf (L2.CX PP w) PP w K mg base ["_law_pen_here", "_law_costs_here", "_law_places", "_law_place"] "_law_other_letters" (defScope s__law_other_letters) f cdv A outer s H E) rfl
  have hu := hr.rm.units
  have hu1 : _ + 1 < cLine := Nat.lt_of_le_of_lt (Nat.add_le_add_left (by decide : 1 ≤ 64) _) hu
  exact (s_cons (s_set nd rfl (by first | exact .inl rfl | exact .inr rfl) (e_callB (cr_sortedAll rfl) v_sorted rfl (z19 Z) (by decide +kernel) (a_cons (e_sli false (e_call tk (f__law_shuffled Z) (hr.mono (Nat.le_of_ble_eq_true rfl) : Rm 2 _) rfl (z49 Z) (k__law_shuffled Z) (a_cons (ev 0) (a_cons (e_listRg false rfl rfl (z40 Z) rfl (z13 Z) e_int) a_nil))) o_none (o_some (e_callB call_lenX v_lenX rfl (z9 Z) (by decide +kernel) (a_cons (ev 1) a_nil)))) a_nil)))
    (s_one (s_ret (e_dictZ false rfl rfl (z43 Z) rfl (z53 Z) (a_cons (e_callTy (call_listK rfl) v_listK rfl (z40 Z) (by decide +kernel) (a_cons (ev 1) a_nil)) (a_cons (e_lc false rfl nd (i_seq (ev 2)) (own := ([("_law_place", 3)] : List (Str × Nat))) (show BlkOk ["_law_pen_here", "_law_costs_here", "_law_places", "_law_place"] (defScope s__law_other_letters) _ _ from ⟨rfl, by decide +kernel, by decide +kernel, by decide +kernel, by decide +kernel⟩) (fun _ _ _ _ _ => (gw_name nd rfl (by first | exact .inl rfl | exact .inr rfl) (by decide))) (fun _ _ _ _ _ => ts_nil) (fun _ _ _ _ _ => (e_idx hu1 e_str (ev 3)))) a_nil))))))
theorem f__law_other_letters (Z : FX K mg) : FnD PP w K mg base 3 ((fun K => He.ga K "_law_other_letters") K) m__law_other_letters := by
  obtain ⟨fd, F0⟩ := Z.df 33 (d := d__law_other_letters) rfl rfl
  have F : FunD K "_law_other_letters" "_law_other_letters" (defArgs s__law_other_letters) (defBody s__law_other_letters) (defScope s__law_other_letters) [] [] ((fun K => He.ga K "_law_other_letters") K) fd := cast (by kernel_rfl) F0
  exact fn_ok0 (x := "_law_other_letters") (qual := "_law_other_letters") (params := defArgs s__law_other_letters) (body := defBody s__law_other_letters) (scope := defScope s__law_other_letters) (kws := []) (N := ["_law_pen_here", "_law_costs_here", "_law_places", "_law_place"]) (ps := ["_law_pen_here", "_law_costs_here"]) (k := 2) (b := b__law_other_letters) F ⟨by kernel_rfl, by kernel_rfl, by kernel_rfl, by decide +kernel, by kernel_rfl, by decide +kernel, by decide +kernel⟩ (fun _ _ _ _ _ _ us hl => match us, hl with | [_, _], _ => by kernel_rfl) (c__law_other_letters Z)
theorem k__law_other_letters (Z : FX K mg) : PySem.W.keepIn K (.ref ((fun K => He.ga K "_law_other_letters") K)) = true := Z.keep 33 (d := d__law_other_letters) rfl
noncomputable def b__law_pen : DS := retS (dispM [(cM (.str "cells"), argM (listD false) (consA (sliM false (vM 0) (pureM none) (optM (cM (.int 63)))) (nilA))), (cM (.str "begun"), cM (.int 0)), (cM (.str "left"), cM (.int 0))])
noncomputable def m__law_pen : DF := bodyM 1 [] 1 b__law_pen
theorem c__law_pen (Z : FX K mg) {f : Addr} : BodyD PP w K mg base ["_law_script"] "_law_pen" (defScope s__law_pen) f 0 (defBody s__law_pen) b__law_pen := by
  intro cdv A outer s H E hr
  have nd : (["_law_script"] : List Str).Nodup := by decide +kernel
  have tk : Takes (cxOf (L2.CX PP w) PP w K mg base ["_law_script"] "_law_pen" (defScope s__law_pen) f cdv A outer s H E) (fun c d _ H' => E c d H') := takes_of rfl rfl rfl rfl
  have hp := passes_of (X := cxOf (L2.CX PP w) PP w K mg base ["_law_script"] "_law_pen" (defScope s__law_pen) f cdv A outer s H E) rfl
  have hu := hr.rm.units
  have hu1 : _ + 1 < cLine := Nat.lt_of_le_of_lt (Nat.add_le_add_left (by decide : 1 ≤ 64) _) hu
  exact (s_one (s_ret (e_disp (pp_cons e_str (e_callTy call_list_of v_list rfl (z40 Z) (by decide +kernel) (a_cons (e_sli false (ev 0) o_none (o_some e_int)) a_nil)) (pp_cons e_str e_int (pp_cons e_str e_int pp_nil))))))
theorem f__law_pen (Z : FX K mg) : FnD PP w K mg base 1 ((fun K => He.ga K "_law_pen") K) m__law_pen := by
  obtain ⟨fd, F0⟩ := Z.df 34 (d := d__law_pen) rfl rfl
  have F : FunD K "_law_pen" "_law_pen" (defArgs s__law_pen) (defBody s__law_pen) (defScope s__law_pen) [] [] ((fun K => He.ga K "_law_pen") K) fd := cast (by kernel_rfl) F0
  exact fn_ok0 (x := "_law_pen") (qual := "_law_pen") (params := defArgs s__law_pen) (body := defBody s__law_pen) (scope := defScope s__law_pen) (kws := []) (N := ["_law_script"]) (ps := ["_law_script"]) (k := 0) (b := b__law_pen) F ⟨by kernel_rfl, by kernel_rfl, by kernel_rfl, by decide +kernel, by kernel_rfl, by decide +kernel, by decide +kernel⟩ (fun _ _ _ _ _ _ us hl => match us, hl with | [_], _ => by kernel_rfl) (c__law_pen Z)
theorem k__law_pen (Z : FX K mg) : PySem.W.keepIn K (.ref ((fun K => He.ga K "_law_pen") K)) = true := Z.keep 34 (d := d__law_pen) rfl
noncomputable def b__law_turned : DS := retS (bmD isStrD joinD (cM (.str "")) (consA (lcM false (seqI (vM 0)) (nameG 2) (yesM) (binM idxD (vM 1) (vM 2)) [2]) (nilA)))
noncomputable def m__law_turned : DF := bodyM 2 [] 3 b__law_turned
theorem c__law_turned (Z : FX K mg) {f : Addr} : BodyD PP w K mg base ["_law_word_here", "_law_turn", "_law_letter"] "_law_turned" (defScope s__law_turned) f 0 (defBody s__law_turned) b__law_turned := by
  intro cdv A outer s H E hr
  have nd : (["_law_word_here", "_law_turn", "_law_letter"] : List Str).Nodup := by decide +kernel
  have tk : Takes (cxOf (L2.CX PP w) PP w K mg base ["_law_word_here", "_law_turn", "_law_letter"] "_law_turned" (defScope s__law_turned) f cdv A outer s H E) (fun c d _ H' => E c d H') := takes_of rfl rfl rfl rfl
  have hp := passes_of (X := cxOf (L2.CX PP w) PP w K mg base ["_law_word_here", "_law_turn", "_law_letter"] "_law_turned" (defScope s__law_turned) f cdv A outer s H E) rfl
  have hu := hr.rm.units
  have hu1 : _ + 1 < cLine := Nat.lt_of_le_of_lt (Nat.add_le_add_left (by decide : 1 ≤ 64) _) hu
  exact (s_one (s_ret (e_bm PySem.F.plainAttrs_str PySem.F.slot_str_join PySem.F.type_str_join mt_join ty_str v_join e_str (a_cons (e_lc false rfl nd (i_seq (ev 0)) (own := ([("_law_letter", 2)] : List (Str × Nat))) (show BlkOk ["_law_word_here", "_law_turn", "_law_letter"] (defScope s__law_turned) _ _ from ⟨rfl, by decide +kernel, by decide +kernel, by decide +kernel, by decide +kernel⟩) (fun _ _ _ _ _ => (gw_name nd rfl (by first | exact .inl rfl | exact .inr rfl) (by decide))) (fun _ _ _ _ _ => ts_nil) (fun _ _ _ _ _ => (e_idx hu1 (ev 1) (ev 2)))) a_nil))))
theorem f__law_turned (Z : FX K mg) : FnD PP w K mg base 1 ((fun K => He.ga K "_law_turned") K) m__law_turned := by
  obtain ⟨fd, F0⟩ := Z.df 35 (d := d__law_turned) rfl rfl
  have F : FunD K "_law_turned" "_law_turned" (defArgs s__law_turned) (defBody s__law_turned) (defScope s__law_turned) [] [] ((fun K => He.ga K "_law_turned") K) fd := cast (by kernel_rfl) F0
  exact fn_ok0 (x := "_law_turned") (qual := "_law_turned") (params := defArgs s__law_turned) (body := defBody s__law_turned) (scope := defScope s__law_turned) (kws := []) (N := ["_law_word_here", "_law_turn", "_law_letter"]) (ps := ["_law_word_here", "_law_turn"]) (k := 0) (b := b__law_turned) F ⟨by kernel_rfl, by kernel_rfl, by kernel_rfl, by decide +kernel, by kernel_rfl, by decide +kernel, by decide +kernel⟩ (fun _ _ _ _ _ _ us hl => match us, hl with | [_, _], _ => by kernel_rfl) (c__law_turned Z)
theorem k__law_turned (Z : FX K mg) : PySem.W.keepIn K (.ref ((fun K => He.ga K "_law_turned") K)) = true := Z.keep 35 (d := d__law_turned) rfl
noncomputable def b__law_word : DS := retS (bmD isStrD joinD (cM (.str "")) (consA (lcM false (argI rangeD1 (consA (callM m__law_draw (consA (vM 0) (consA (binM addD (vM 2) (cM (.int 1))) (nilA)))) (nilA))) (nameG 3) (yesM) (callM m__law_pick (consA (vM 0) (consA (vM 1) (nilA)))) [3]) (nilA)))
noncomputable def m__law_word : DF := bodyM 3 [] 4 b__law_word
theorem c__law_word (Z : FX K mg) {f : Addr} : BodyD PP w K mg base ["_law_pen_here", "_law_letters_here", "_law_most", "_law_k"] "_law_word" (defScope s__law_word) f 2 (defBody s__law_word) b__law_word := by
  intro cdv A outer s H E hr
  have nd : (["_law_pen_here", "_law_letters_here", "_law_most", "_law_k"] : List Str).Nodup := by decide +kernel
  have tk : Takes (cxOf (L2.CX PP w) PP w K mg base ["_law_pen_here", "_law_letters_here", "_law_most", "_law_k"] "_law_word" (defScope s__law_word) f cdv A outer s H E) (fun c d _ H' => E c d H') := takes_of rfl rfl rfl rfl
  have hp := passes_of (X := cxOf (L2.CX PP w) PP w K mg base ["_law_pen_here", "_law_letters_here", "_law_most", "_law_k"] "_law_word" (defScope s__law_word) f cdv A outer s H E) rfl
  have hu := hr.rm.units
  have hu1 : _ + 1 < cLine := Nat.lt_of_le_of_lt (Nat.add_le_add_left (by decide : 1 ≤ 64) _) hu
  exact (s_one (s_ret (e_bm PySem.F.plainAttrs_str PySem.F.slot_str_join PySem.F.type_str_join mt_join ty_str v_join e_str (a_cons (e_lc false rfl nd (i_range1 rfl (z13 Z) (a_cons (e_call tk (f__law_draw Z) (hr.mono (Nat.le_of_ble_eq_true rfl) : Rm 1 _) rfl (z47 Z) (k__law_draw Z) (a_cons (ev 0) (a_cons (e_add (ev 2) e_int) a_nil))) a_nil)) (own := ([("_law_k", 3)] : List (Str × Nat))) (show BlkOk ["_law_pen_here", "_law_letters_here", "_law_most", "_law_k"] (defScope s__law_word) _ _ from ⟨rfl, by decide +kernel, by decide +kernel, by decide +kernel, by decide +kernel⟩) (fun _ _ _ _ _ => (gw_name nd rfl (by first | exact .inl rfl | exact .inr rfl) (by decide))) (fun _ _ _ _ _ => ts_nil) (fun _ _ _ _ _ => (e_call takes_blk (f__law_pick Z) (hr.mono (Nat.le_of_ble_eq_true rfl) : Rm 2 _) rfl (z48 Z) (k__law_pick Z) (a_cons (ev 0) (a_cons (ev 1) a_nil))))) a_nil))))
theorem f__law_word (Z : FX K mg) : FnD PP w K mg base 3 ((fun K => He.ga K "_law_word") K) m__law_word := by
  obtain ⟨fd, F0⟩ := Z.df 36 (d := d__law_word) rfl rfl
  have F : FunD K "_law_word" "_law_word" (defArgs s__law_word) (defBody s__law_word) (defScope s__law_word) [] [] ((fun K => He.ga K "_law_word") K) fd := cast (by kernel_rfl) F0
  exact fn_ok0 (x := "_law_word") (qual := "_law_word") (params := defArgs s__law_word) (body := defBody s__law_word) (scope := defScope s__law_word) (kws := []) (N := ["_law_pen_here", "_law_letters_here", "_law_most", "_law_k"]) (ps := ["_law_pen_here", "_law_letters_here", "_law_most"]) (k := 2) (b := b__law_word) F ⟨by kernel_rfl, by kernel_rfl, by kernel_rfl, by decide +kernel, by kernel_rfl, by decide +kernel, by decide +kernel⟩ (fun _ _ _ _ _ _ us hl => match us, hl with | [_, _, _], _ => by kernel_rfl) (c__law_word Z)
theorem k__law_word (Z : FX K mg) : PySem.W.keepIn K (.ref ((fun K => He.ga K "_law_word") K)) = true := Z.keep 36 (d := d__law_word) rfl
noncomputable def b_law : DS := seqS (setS 1 (callM m__law_pen (consA (vM 0) (nilA)))) (seqS (forS (argI rangeD1 (consA (cM (.int 6)) (nilA))) (nameG 2) (seqS (setS 3 (callM m__law_costs (consA (vM 1) (consA (callM m__law_letters (consA (vM 1) (consA (cM (.int 4)) (nilA)))) (nilA))))) (seqS (setS 4 (ifM (blM (binM ltI (argM max1D (consA (listValsM false (vM 3)) (nilA))) (cM (.int 4)))) (callM m__law_pick (consA (vM 1) (consA (argM (lstD false) (consA (cM (.int 2)) (consA (cM (.int 3)) (nilA)))) (nilA)))) (cM (.int 1)))) (seqS (setS 5 (callM m__law_other_letters (consA (vM 1) (consA (vM 3) (nilA))))) (seqS (setS 6 (callM m__law_made_order (consA (vM 1) (consA (vM 3) (nilA))))) (seqS (setS 7 (callM m__law_made_order (consA (vM 1) (consA (argM (dictPD false) (consA (lcM false (seqI (vM 3)) (nameG 15) (yesM) (argM tupD (consA (binM idxD (vM 5) (vM 15)) (consA (binM mulD (binM idxD (vM 3) (vM 15)) (vM 4)) (nilA)))) [15]) (nilA))) (nilA))))) (seqS (setS 8 (callM m__law_made_order (consA (vM 1) (consA (callM m__law_letter_more (consA (vM 1) (consA (vM 3) (nilA)))) (nilA))))) (seqS (setS 9 (bmD isStrD joinD (cM (.str "")) (consA (argM (listKD false) (consA (vM 3) (nilA))) (nilA)))) (seqS (setS 10 (lcM false (argI rangeD1 (consA (cM (.int 4)) (nilA))) (nameG 14) (yesM) (callM m__law_word (consA (vM 1) (consA (vM 9) (consA (callM m__law_pick (consA (vM 1) (consA (argM (lstD false) (consA (cM (.int 4)) (consA (cM (.int 12)) (consA (cM (.int 30)) (nilA))))) (nilA)))) (nilA))))) [14])) (seqS (forS (seqI (vM 10)) (nameG 11) (seqS (ifS (blM (binM neD (methM [("Order", m_Order_number_of)] "number_of" (vM 6) (consA (vM 11) (nilA))) (methM [("Order", m_Order_number_of)] "number_of" (vM 7) (consA (callM m__law_turned (consA (vM 11) (consA (vM 5) (nilA)))) (nilA))))) (retS (cM (.bl false))) (skipS)) (seqS (ifS (blM (binM neD (callM m__law_turned (consA (methM [("Order", m_Order_after)] "after" (vM 6) (consA (vM 11) (nilA))) (consA (vM 5) (nilA)))) (methM [("Order", m_Order_after)] "after" (vM 7) (consA (callM m__law_turned (consA (vM 11) (consA (vM 5) (nilA)))) (nilA))))) (retS (cM (.bl false))) (skipS)) (seqS (ifS (blM (binM ltI (methM [("Order", m_Order_number_of)] "number_of" (vM 8) (consA (vM 11) (nilA))) (methM [("Order", m_Order_number_of)] "number_of" (vM 6) (consA (vM 11) (nilA))))) (retS (cM (.bl false))) (skipS)) (forS (seqI (vM 10)) (nameG 13) (ifS (blM (binM neD (methM [("Order", m_Order_is_before)] "is_before" (vM 8) (consA (vM 11) (consA (vM 13) (nilA)))) (methM [("Order", m_Order_is_before)] "is_before" (vM 6) (consA (vM 11) (consA (vM 13) (nilA)))))) (retS (cM (.bl false))) (skipS))))))) (seqS (setS 12 (methM [("Order", m_Order_sorted_words)] "sorted_words" (vM 6) (consA (binM idxD (vM 10) (cM (.int 0))) (consA (binM idxD (vM 10) (cM (.int 1))) (consA (binM idxD (vM 10) (cM (.int 2))) (consA (binM idxD (vM 10) (cM (.int 3))) (nilA))))))) (seqS (ifS (blM (binM neD (vM 12) (methM [("Order", m_Order_sorted_words)] "sorted_words" (vM 8) (consA (binM idxD (vM 10) (cM (.int 3))) (consA (binM idxD (vM 10) (cM (.int 2))) (consA (binM idxD (vM 10) (cM (.int 1))) (consA (binM idxD (vM 10) (cM (.int 0))) (nilA)))))))) (retS (cM (.bl false))) (skipS)) (ifS (blM (binM neD (attrM [("Order", .prop (noxF m_Order_latest))] "latest" (vM 6)) (binM idxD (lcM false (seqI (vM 9)) (nameG 15) (blM (binM eqD (binM idxD (vM 5) (vM 15)) (attrM [("Order", .prop (noxF m_Order_latest))] "latest" (vM 7)))) (vM 15) [15]) (cM (.int 0))))) (retS (cM (.bl false))) (skipS)))))))))))))) (retS (cM (.bl true))))
noncomputable def m_law : DF := bodyM 1 [] 16 b_law
theorem c_law (Z : FX K mg) {f : Addr} : BodyD PP w K mg base ["_law_script", "_law_pen_here", "_law_turn", "_law_costs_here", "_law_times", "_law_turned_here", "_law_order", "_law_other", "_law_wide", "_law_letters_here", "_law_words", "_law_word_here", "_law_told", "_law_one", "_law_k", "_law_letter"] "law" (defScope s_law) f 6 (defBody s_law) b_law := by
  intro cdv A outer s H E hr
  have nd : (["_law_script", "_law_pen_here", "_law_turn", "_law_costs_here", "_law_times", "_law_turned_here", "_law_order", "_law_other", "_law_wide", "_law_letters_here", "_law_words", "_law_word_here", "_law_told", "_law_one", "_law_k", "_law_letter"] : List Str).Nodup := by decide +kernel
  have tk : Takes (cxOf (L2.CX PP w) PP w K mg base ["_law_script", "_law_pen_here", "_law_turn", "_law_costs_here", "_law_times", "_law_turned_here", "_law_order", "_law_other", "_law_wide", "_law_letters_here", "_law_words", "_law_word_here", "_law_told", "_law_one", "_law_k", "_law_letter"] "law" (defScope s_law) f cdv A outer s H E) (fun c d _ H' => E c d H') := takes_of rfl rfl rfl rfl
  have hp := passes_of (X := cxOf (L2.CX PP w) PP w K mg base ["_law_script", "_law_pen_here", "_law_turn", "_law_costs_here", "_law_times", "_law_turned_here", "_law_order", "_law_other", "_law_wide", "_law_letters_here", "_law_words", "_law_word_here", "_law_told", "_law_one", "_law_k", "_law_letter"] "law" (defScope s_law) f cdv A outer s H E) rfl
  have hu := hr.rm.units
  have hu1 : _ + 1 < cLine := Nat.lt_of_le_of_lt (Nat.add_le_add_left (by decide : 1 ≤ 64) _) hu
  exact (s_cons (s_set nd rfl (by first | exact .inl rfl | exact .inr rfl) (e_call tk (f__law_pen Z) (hr.mono (Nat.le_of_ble_eq_true rfl) : Rm 1 _) rfl (z54 Z) (k__law_pen Z) (a_cons (ev 0) a_nil)))
    (s_cons (s_for hp rfl (i_range1 rfl (z13 Z) (a_cons e_int a_nil)) (g_name nd rfl (by first | exact .inl rfl | exact .inr rfl)) (s_cons (s_set nd rfl (by first | exact .inl rfl | exact .inr rfl) (e_call tk (f__law_costs Z) (hr.mono (Nat.le_of_ble_eq_true rfl) : Rm 3 _) rfl (z56 Z) (k__law_costs Z) (a_cons (ev 1) (a_cons (e_call tk (f__law_letters Z) (hr.mono (Nat.le_of_ble_eq_true rfl) : Rm 3 _) rfl (z55 Z) (k__law_letters Z) (a_cons (ev 1) (a_cons e_int a_nil))) a_nil))))
    (s_cons (s_set nd rfl (by first | exact .inl rfl | exact .inr rfl) (e_if (t_lt (e_callB (cr_max rfl) v_max1 rfl (z41 Z) (by decide +kernel) (a_cons (e_listVals false rfl rfl (z40 Z) (ev 3)) a_nil)) e_int) (e_call tk (f__law_pick Z) (hr.mono (Nat.le_of_ble_eq_true rfl) : Rm 2 _) rfl (z48 Z) (k__law_pick Z) (a_cons (ev 1) (a_cons (e_lst false (a_cons e_int (a_cons e_int a_nil))) a_nil))) e_int))
    (s_cons (s_set nd rfl (by first | exact .inl rfl | exact .inr rfl) (e_call tk (f__law_other_letters Z) (hr.mono (Nat.le_of_ble_eq_true rfl) : Rm 3 _) rfl (z57 Z) (k__law_other_letters Z) (a_cons (ev 1) (a_cons (ev 3) a_nil))))
    (s_cons (s_set nd rfl (by first | exact .inl rfl | exact .inr rfl) (e_call tk (f__law_made_order Z) (hr.mono (Nat.le_of_ble_eq_true rfl) : Rm 6 _) rfl (z58 Z) (k__law_made_order Z) (a_cons (ev 1) (a_cons (ev 3) a_nil))))
    (s_cons (s_set nd rfl (by first | exact .inl rfl | exact .inr rfl) (e_call tk (f__law_made_order Z) (hr.mono (Nat.le_of_ble_eq_true rfl) : Rm 6 _) rfl (z58 Z) (k__law_made_order Z) (a_cons (ev 1) (a_cons (e_dict false rfl rfl (z43 Z) (a_cons (e_lc false rfl nd (i_seq (ev 3)) (own := ([("_law_letter", 15)] : List (Str × Nat))) (show BlkOk ["_law_script", "_law_pen_here", "_law_turn", "_law_costs_here", "_law_times", "_law_turned_here", "_law_order", "_law_other", "_law_wide", "_law_letters_here", "_law_words", "_law_word_here", "_law_told", "_law_one", "_law_k", "_law_letter"] (defScope s_law) _ _ from ⟨rfl, by decide +kernel, by decide +kernel, by decide +kernel, by decide +kernel⟩) (fun _ _ _ _ _ => (gw_name nd rfl (by first | exact .inl rfl | exact .inr rfl) (by decide))) (fun _ _ _ _ _ => ts_nil) (fun _ _ _ _ _ => (e_tup (a_cons (e_idx hu1 (ev 5) (ev 15)) (a_cons (e_mul (e_idx hu1 (ev 3) (ev 15)) (ev 4)) a_nil))))) a_nil)) a_nil))))
    (s_cons (s_set nd rfl (by first | exact .inl rfl | exact .inr rfl) (e_call tk (f__law_made_order Z) (hr.mono (Nat.le_of_ble_eq_true rfl) : Rm 6 _) rfl (z58 Z) (k__law_made_order Z) (a_cons (ev 1) (a_cons (e_call tk (f__law_letter_more Z) (hr.mono (Nat.le_of_ble_eq_true rfl) : Rm 3 _) rfl (z59 Z) (k__law_letter_more Z) (a_cons (ev 1) (a_cons (ev 3) a_nil))) a_nil))))
    (s_cons (s_set nd rfl (by first | exact .inl rfl | exact .inr rfl) (e_bm PySem.F.plainAttrs_str PySem.F.slot_str_join PySem.F.type_str_join mt_join ty_str v_join e_str (a_cons (e_callTy (call_listK rfl) v_listK rfl (z40 Z) (by decide +kernel) (a_cons (ev 3) a_nil)) a_nil)))
    (s_cons (s_setLc false rfl nd rfl rfl rfl (i_range1 rfl (z13 Z) (a_cons e_int a_nil)) (own := ([("_law_k", 14)] : List (Str × Nat))) (show BlkOk ["_law_script", "_law_pen_here", "_law_turn", "_law_costs_here", "_law_times", "_law_turned_here", "_law_order", "_law_other", "_law_wide", "_law_letters_here", "_law_words", "_law_word_here", "_law_told", "_law_one", "_law_k", "_law_letter"] (defScope s_law) _ _ from ⟨rfl, by decide +kernel, by decide +kernel, by decide +kernel, by decide +kernel⟩) (fun _ _ _ _ _ => (gw_name nd rfl (by first | exact .inl rfl | exact .inr rfl) (by decide))) (fun _ _ _ _ _ => ts_nil) (fun _ _ _ _ _ => (e_call takes_blk (f__law_word Z) (hr.mono (Nat.le_of_ble_eq_true rfl) : Rm 3 _) rfl (z60 Z) (k__law_word Z) (a_cons (ev 1) (a_cons (ev 9) (a_cons (e_call takes_blk (f__law_pick Z) (hr.mono (Nat.le_of_ble_eq_true rfl) : Rm 2 _) rfl (z48 Z) (k__law_pick Z) (a_cons (ev 1) (a_cons (e_lst false (a_cons e_int (a_cons e_int (a_cons e_int a_nil)))) a_nil))) a_nil))))))
    (s_cons (s_for hp rfl (i_seq (ev 10)) (g_name nd rfl (by first | exact .inl rfl | exact .inr rfl)) (s_cons (s_if (t_ne hu (e_meth tk (.cons ⟨(z24 Z), _, 4, (z61 Z), f_Order_number_of_at_Order Z, (hr.mono (Nat.le_of_ble_eq_true rfl) : Rm 4 _)⟩ .nil) (ev 6) (a_cons (ev 11) a_nil)) (e_meth tk (.cons ⟨(z24 Z), _, 4, (z61 Z), f_Order_number_of_at_Order Z, (hr.mono (Nat.le_of_ble_eq_true rfl) : Rm 4 _)⟩ .nil) (ev 7) (a_cons (e_call tk (f__law_turned Z) (hr.mono (Nat.le_of_ble_eq_true rfl) : Rm 1 _) rfl (z62 Z) (k__law_turned Z) (a_cons (ev 11) (a_cons (ev 5) a_nil))) a_nil))) (s_one (s_ret e_bl)) s_nil)
    (s_cons (s_if (t_ne hu (e_call tk (f__law_turned Z) (hr.mono (Nat.le_of_ble_eq_true rfl) : Rm 1 _) rfl (z62 Z) (k__law_turned Z) (a_cons (e_meth tk (.cons ⟨(z24 Z), _, 5, (z63 Z), f_Order_after_at_Order Z, (hr.mono (Nat.le_of_ble_eq_true rfl) : Rm 5 _)⟩ .nil) (ev 6) (a_cons (ev 11) a_nil)) (a_cons (ev 5) a_nil))) (e_meth tk (.cons ⟨(z24 Z), _, 5, (z63 Z), f_Order_after_at_Order Z, (hr.mono (Nat.le_of_ble_eq_true rfl) : Rm 5 _)⟩ .nil) (ev 7) (a_cons (e_call tk (f__law_turned Z) (hr.mono (Nat.le_of_ble_eq_true rfl) : Rm 1 _) rfl (z62 Z) (k__law_turned Z) (a_cons (ev 11) (a_cons (ev 5) a_nil))) a_nil))) (s_one (s_ret e_bl)) s_nil)
    (s_cons (s_if (t_lt (e_meth tk (.cons ⟨(z24 Z), _, 4, (z61 Z), f_Order_number_of_at_Order Z, (hr.mono (Nat.le_of_ble_eq_true rfl) : Rm 4 _)⟩ .nil) (ev 8) (a_cons (ev 11) a_nil)) (e_meth tk (.cons ⟨(z24 Z), _, 4, (z61 Z), f_Order_number_of_at_Order Z, (hr.mono (Nat.le_of_ble_eq_true rfl) : Rm 4 _)⟩ .nil) (ev 6) (a_cons (ev 11) a_nil))) (s_one (s_ret e_bl)) s_nil)
    (s_one (s_for hp rfl (i_seq (ev 10)) (g_name nd rfl (by first | exact .inl rfl | exact .inr rfl)) (s_one (s_if (t_ne hu (e_meth tk (.cons ⟨(z24 Z), _, 4, (z64 Z), f_Order_is_before_at_Order Z, (hr.mono (Nat.le_of_ble_eq_true rfl) : Rm 4 _)⟩ .nil) (ev 8) (a_cons (ev 11) (a_cons (ev 13) a_nil))) (e_meth tk (.cons ⟨(z24 Z), _, 4, (z64 Z), f_Order_is_before_at_Order Z, (hr.mono (Nat.le_of_ble_eq_true rfl) : Rm 4 _)⟩ .nil) (ev 6) (a_cons (ev 11) (a_cons (ev 13) a_nil)))) (s_one (s_ret e_bl)) s_nil))))))))
    (s_cons (s_set nd rfl (by first | exact .inl rfl | exact .inr rfl) (e_meth tk (.cons ⟨(z24 Z), _, 5, (z65 Z), f_Order_sorted_words_at_Order Z, (hr.mono (Nat.le_of_ble_eq_true rfl) : Rm 5 _)⟩ .nil) (ev 6) (a_cons (e_idx hu1 (ev 10) e_int) (a_cons (e_idx hu1 (ev 10) e_int) (a_cons (e_idx hu1 (ev 10) e_int) (a_cons (e_idx hu1 (ev 10) e_int) a_nil))))))
    (s_cons (s_if (t_ne hu (ev 12) (e_meth tk (.cons ⟨(z24 Z), _, 5, (z65 Z), f_Order_sorted_words_at_Order Z, (hr.mono (Nat.le_of_ble_eq_true rfl) : Rm 5 _)⟩ .nil) (ev 8) (a_cons (e_idx hu1 (ev 10) e_int) (a_cons (e_idx hu1 (ev 10) e_int) (a_cons (e_idx hu1 (ev 10) e_int) (a_cons (e_idx hu1 (ev 10) e_int) a_nil)))))) (s_one (s_ret e_bl)) s_nil)
    (s_one (s_if (t_ne hu (e_attr (.prop ⟨(z24 Z), _, _, 1, (z66 Z), FnD.nox (f_Order_latest_at_Order Z), (hr.mono (Nat.le_of_ble_eq_true rfl) : Rm 2 _)⟩ noxF_ne .nil) (ev 6)) (e_idx hu1 (e_lc false rfl nd (i_seq (ev 9)) (own := ([("_law_letter", 15)] : List (Str × Nat))) (show BlkOk ["_law_script", "_law_pen_here", "_law_turn", "_law_costs_here", "_law_times", "_law_turned_here", "_law_order", "_law_other", "_law_wide", "_law_letters_here", "_law_words", "_law_word_here", "_law_told", "_law_one", "_law_k", "_law_letter"] (defScope s_law) _ _ from ⟨rfl, by decide +kernel, by decide +kernel, by decide +kernel, by decide +kernel⟩) (fun _ _ _ _ _ => (gw_name nd rfl (by first | exact .inl rfl | exact .inr rfl) (by decide))) (fun _ _ _ _ _ => (ts_one (t_eq hu (e_idx hu1 (ev 5) (ev 15)) (e_attr (.prop ⟨(z24 Z), _, _, 1, (z66 Z), FnD.nox (f_Order_latest_at_Order Z), (hr.mono (Nat.le_of_ble_eq_true rfl) : Rm 2 _)⟩ noxF_ne .nil) (ev 7))))) (fun _ _ _ _ _ => (ev 15))) e_int)) (s_one (s_ret e_bl)) s_nil))))))))))))))
    (s_one (s_ret e_bl))))
theorem f_law (Z : FX K mg) : FnD PP w K mg base 7 ((fun K => He.ga K "law") K) m_law := by
  obtain ⟨fd, F0⟩ := Z.df 37 (d := d_law) rfl rfl
  have F : FunD K "law" "law" (defArgs s_law) (defBody s_law) (defScope s_law) [] [] ((fun K => He.ga K "law") K) fd := cast (by kernel_rfl) F0
  exact fn_ok0 (x := "law") (qual := "law") (params := defArgs s_law) (body := defBody s_law) (scope := defScope s_law) (kws := []) (N := ["_law_script", "_law_pen_here", "_law_turn", "_law_costs_here", "_law_times", "_law_turned_here", "_law_order", "_law_other", "_law_wide", "_law_letters_here", "_law_words", "_law_word_here", "_law_told", "_law_one", "_law_k", "_law_letter"]) (ps := ["_law_script"]) (k := 6) (b := b_law) F ⟨by kernel_rfl, by kernel_rfl, by kernel_rfl, by decide +kernel, by kernel_rfl, by decide +kernel, by decide +kernel⟩ (fun _ _ _ _ _ _ us hl => match us, hl with | [_], _ => by kernel_rfl) (c_law Z)
end
end G
set_option Elab.async false
set_option linter.all false
set_option maxRecDepth 100000
set_option maxHeartbeats 4000000
namespace G
open Mp Pl
open PySem (Str sizeLine)
local macro_rules | `(tactic| wtm_at "e") => `(tactic| first
  | with_reducible refine w_set ?_
  | with_reducible refine w_bin ?_
  | ((with_reducible refine w_v (d := ?dv) ?hv ?_); (case hv => exact rfl))
  | with_reducible refine w_c ?_
  | with_reducible refine w_cons ?_
  | with_reducible refine w_nil ?_
  | with_reducible refine w_arg ?_
  | with_reducible refine w_call ?_
  | with_reducible refine w_if ?_
  | with_reducible refine w_ret ?_
  | with_reducible refine w_skip ?_
  | with_reducible refine w_bl ?_
  | with_reducible refine w_tru ?_
  | with_reducible refine w_attr ?_
  | with_reducible refine w_meth ?_
  | with_reducible refine w_chain ?_
  | with_reducible refine w_and ?_
  | with_reducible refine w_or ?_
  | with_reducible refine w_not ?_
  | with_reducible refine w_notT ?_
  | with_reducible refine w_andT ?_
  | with_reducible refine w_orT ?_
  | with_reducible refine w_ifM ?_
  | with_reducible refine w_expr ?_
  | with_reducible refine w_un ?_
  | with_reducible refine w_par2 ?_
  | with_reducible refine w_par3 ?_
  | with_reducible refine w_asg ?_
  | with_reducible refine w_aug ?_
  | with_reducible refine w_sub ?_
  | with_reducible refine w_fld ?_
  | with_reducible refine w_raise ?_
  | with_reducible refine w_raise0 ?_
  | with_reducible refine w_try ?_
  | with_reducible refine w_make ?_
  | with_reducible refine w_tryAs ?_
  | with_reducible refine w_exn ?_
  | ((with_reducible refine o_isx (b := ?bv) ?h1 ?_); (case h1 => exact rfl))
  | with_reducible refine w_superS ?_
  | with_reducible refine w_super ?_
  | with_reducible refine w_star ?_
  | with_reducible refine w_for0 ?_
  | with_reducible refine w_lc0 ?_
  | with_reducible refine w_lc20 ?_
  | with_reducible refine w_seqJ ?_
  | with_reducible refine w_starC ?_
  | with_reducible refine w_spr ?_
  | with_reducible refine w_kwA ?_
  | with_reducible refine w_kwM ?_
  | with_reducible refine w_sprK ?_
  | with_reducible refine w_get ?_
  | with_reducible refine w_makeL ?_
  | with_reducible refine w_tryN ?_
  | ((with_reducible refine o_own0 ?hv ?_); (case hv => exact rfl))
  | ((with_reducible refine o_eqO0 ?hv ?_); (case hv => exact rfl))
  | with_reducible refine w_seqI ?_
  | with_reducible refine w_argI ?_
  | with_reducible refine w_opt ?_
  | with_reducible refine w_sli ?_
  | with_reducible refine w_pure ?_
  | with_reducible refine w_disp ?_
  | with_reducible refine w_pairs1 ?_
  | with_reducible refine w_pairs0 ?_
  | with_reducible refine w_retN ?_
  | with_reducible refine w_cnt ?_
  | with_reducible refine w_brk ?_
  | with_reducible refine o_addI ?_
  | with_reducible refine o_addI' ?_
  | with_reducible refine o_sub ?_
  | with_reducible refine o_lt ?_
  | with_reducible refine o_le ?_
  | with_reducible refine o_gt ?_
  | with_reducible refine o_ge ?_
  | with_reducible refine o_eqI ?_
  | with_reducible refine o_neI ?_
  | with_reducible refine o_eqS ?_
  | with_reducible refine o_neS ?_
  | with_reducible refine o_int ?_
  | with_reducible refine o_intB ?_
  | with_reducible refine o_neg ?_
  | with_reducible refine o_abs ?_
  | with_reducible refine o_newL ?_
  | with_reducible refine o_max2 ?_
  | with_reducible refine o_min2 ?_
  | with_reducible refine o_lenL ?_
  | with_reducible refine o_lenT ?_
  | ((with_reducible refine o_tup ?hv ?_); (case hv => first | exact Nat.le_of_ble_eq_true rfl | assumption))
  | ((with_reducible refine o_lst ?hv ?_); (case hv => first | exact Nat.le_of_ble_eq_true rfl | assumption))
  | ((with_reducible refine o_isi (t := ?tv) (b := ?bv) ?h1 ?h2 ?_); (case h1 => exact rfl); (case h2 => exact rfl))
  | ((with_reducible refine o_fld (C := ?cv) (fs := ?fv) (d := ?dv) ?h1 ?h2 ?h3 ?_); (case h1 => exact rfl); (case h2 => exact rfl); (case h3 => exact rfl))
  | ((with_reducible refine Exists.intro ?kv (And.intro ?ha ?_)); (case ha => exact rfl)))
local macro_rules | `(tactic| wtm_at "body") => `(tactic| (refine w_body rfl rfl ?_; dsimp only [List.length_cons, List.length_nil, List.drop, List.append_nil, List.map_cons, List.map_nil, List.map, List.cons_append, List.nil_append, Nat.reduceAdd, Nat.reduceSub, List.replicate]))
local macro_rules | `(tactic| wtm_at "meth") => `(tactic| refine ⟨_, _, _, rfl, rfl, rfl, ?_⟩)
local macro_rules | `(tactic| wtm_at "w") => `(tactic| first | with_reducible refine w_seq ?_ | wtm_at "e")
local macro_rules | `(tactic| wtm_at "s") => `(tactic| ((repeat wtm_at "e"); (with_reducible refine w_seq ?_)))
local macro_rules | `(tactic| wtm_at "f") => `(tactic| ((repeat wtm_at "e"); (with_reducible show FP _ _)))
/-! checks -/
/-! digits -/
end G
set_option Elab.async false
set_option linter.all false
set_option maxRecDepth 100000
set_option maxHeartbeats 4000000
namespace G
open Mp Pl
open PySem (Str sizeLine)
local macro_rules | `(tactic| wtm_at "e") => `(tactic| first
  | with_reducible refine w_set ?_
  | with_reducible refine w_bin ?_
  | ((with_reducible refine w_v (d := ?dv) ?hv ?_); (case hv => exact rfl))
  | with_reducible refine w_c ?_
  | with_reducible refine w_cons ?_
  | with_reducible refine w_nil ?_
  | with_reducible refine w_arg ?_
  | with_reducible refine w_call ?_
  | with_reducible refine w_if ?_
  | with_reducible refine w_ret ?_
  | with_reducible refine w_skip ?_
  | with_reducible refine w_bl ?_
  | with_reducible refine w_tru ?_
  | with_reducible refine w_attr ?_
  | with_reducible refine w_meth ?_
  | with_reducible refine w_chain ?_
  | with_reducible refine w_and ?_
  | with_reducible refine w_or ?_
  | with_reducible refine w_not ?_
  | with_reducible refine w_notT ?_
  | with_reducible refine w_andT ?_
  | with_reducible refine w_orT ?_
  | with_reducible refine w_ifM ?_
  | with_reducible refine w_expr ?_
  | with_reducible refine w_un ?_
  | with_reducible refine w_par2 ?_
  | with_reducible refine w_par3 ?_
  | with_reducible refine w_asg ?_
  | with_reducible refine w_aug ?_
  | with_reducible refine w_sub ?_
  | with_reducible refine w_fld ?_
  | with_reducible refine w_raise ?_
  | with_reducible refine w_raise0 ?_
  | with_reducible refine w_try ?_
  | with_reducible refine w_make ?_
  | with_reducible refine w_tryAs ?_
  | with_reducible refine w_exn ?_
  | ((with_reducible refine o_isx (b := ?bv) ?h1 ?_); (case h1 => exact rfl))
  | with_reducible refine w_superS ?_
  | with_reducible refine w_super ?_
  | with_reducible refine w_star ?_
  | with_reducible refine w_for0 ?_
  | with_reducible refine w_lc0 ?_
  | with_reducible refine w_lc20 ?_
  | with_reducible refine w_seqJ ?_
  | with_reducible refine w_starC ?_
  | with_reducible refine w_spr ?_
  | with_reducible refine w_kwA ?_
  | with_reducible refine w_kwM ?_
  | with_reducible refine w_sprK ?_
  | with_reducible refine w_get ?_
  | with_reducible refine w_makeL ?_
  | with_reducible refine w_tryN ?_
  | ((with_reducible refine o_own0 ?hv ?_); (case hv => exact rfl))
  | ((with_reducible refine o_eqO0 ?hv ?_); (case hv => exact rfl))
  | with_reducible refine w_seqI ?_
  | with_reducible refine w_argI ?_
  | with_reducible refine w_opt ?_
  | with_reducible refine w_sli ?_
  | with_reducible refine w_pure ?_
  | with_reducible refine w_disp ?_
  | with_reducible refine w_pairs1 ?_
  | with_reducible refine w_pairs0 ?_
  | with_reducible refine w_retN ?_
  | with_reducible refine w_cnt ?_
  | with_reducible refine w_brk ?_
  | with_reducible refine o_addI ?_
  | with_reducible refine o_addI' ?_
  | with_reducible refine o_sub ?_
  | with_reducible refine o_lt ?_
  | with_reducible refine o_le ?_
  | with_reducible refine o_gt ?_
  | with_reducible refine o_ge ?_
  | with_reducible refine o_eqI ?_
  | with_reducible refine o_neI ?_
  | with_reducible refine o_eqS ?_
  | with_reducible refine o_neS ?_
  | with_reducible refine o_int ?_
  | with_reducible refine o_intB ?_
  | with_reducible refine o_neg ?_
  | with_reducible refine o_abs ?_
  | with_reducible refine o_newL ?_
  | with_reducible refine o_max2 ?_
  | with_reducible refine o_min2 ?_
  | with_reducible refine o_lenL ?_
  | with_reducible refine o_lenT ?_
  | ((with_reducible refine o_tup ?hv ?_); (case hv => first | exact Nat.le_of_ble_eq_true rfl | assumption))
  | ((with_reducible refine o_lst ?hv ?_); (case hv => first | exact Nat.le_of_ble_eq_true rfl | assumption))
  | ((with_reducible refine o_isi (t := ?tv) (b := ?bv) ?h1 ?h2 ?_); (case h1 => exact rfl); (case h2 => exact rfl))
  | ((with_reducible refine o_fld (C := ?cv) (fs := ?fv) (d := ?dv) ?h1 ?h2 ?h3 ?_); (case h1 => exact rfl); (case h2 => exact rfl); (case h3 => exact rfl))
  | ((with_reducible refine Exists.intro ?kv (And.intro ?ha ?_)); (case ha => exact rfl)))
local macro_rules | `(tactic| wtm_at "body") => `(tactic| (refine w_body rfl rfl ?_; dsimp only [List.length_cons, List.length_nil, List.drop, List.append_nil, List.map_cons, List.map_nil, List.map, List.cons_append, List.nil_append, Nat.reduceAdd, Nat.reduceSub, List.replicate]))
local macro_rules | `(tactic| wtm_at "meth") => `(tactic| refine ⟨_, _, _, rfl, rfl, rfl, ?_⟩)
local macro_rules | `(tactic| wtm_at "w") => `(tactic| first | with_reducible refine w_seq ?_ | wtm_at "e")
local macro_rules | `(tactic| wtm_at "s") => `(tactic| ((repeat wtm_at "e"); (with_reducible refine w_seq ?_)))
local macro_rules | `(tactic| wtm_at "f") => `(tactic| ((repeat wtm_at "e"); (with_reducible show FP _ _)))
/-! the pen -/
theorem q_draw {n : Nat} {many b : Int} {s : Sto} {Q : D → Sto → Prop} {E : XT} (p : Pen s n b) (hb : b ≤ 1000000000) (h0 : 0 < many) (h1 : many < 18446744073709551616) (h : ∀ k s', 0 ≤ k → k < many → Pen s' n (b + 1) → Fr n s s' → s'.length = s.length → Q (.int k) s') : RP Q E (m__law_draw [.cel n, .int many] s) := by
  obtain ⟨cells, g, l, hs, hc, hg, hgb, hl⟩ := p
  have hm : ∀ x : Int, 0 ≤ x % many ∧ x % many < many := fun x => ⟨Int.emod_nonneg _ (by omega), Int.emod_lt_of_pos _ (by omega)⟩
  wtm_at "body"
  unfold b__law_draw
  repeat wtm_at "w"
  refine pen_left hs ?_
  repeat wtm_at "w"
  refine ⟨fun hk => ?_, fun hk => ?_⟩
  · have hk := of_decide_eq_true hk
    repeat wtm_at "w"
    refine pen_left hs ?_
    repeat wtm_at "w"
    refine o_mod h0 ?_
    repeat wtm_at "w"
    refine pen_left hs ?_
    repeat wtm_at "w"
    refine o_div64 h0 h1 ?_
    repeat wtm_at "w"
    refine ⟨_, pen_putL hs, ?_⟩
    repeat wtm_at "w"
    exact h _ _ (hm l).1 (hm l).2 ⟨cells, g, _, pen_at hs, hc, hg, by omega, Int.ediv_nonneg hl (by omega)⟩ Fr.set (List.length_set ..)
  · have hk := of_decide_eq_false hk
    wtm_at "s"
    repeat wtm_at "e"
    refine pen_begun hs ?_
    wtm_at "s"
    repeat wtm_at "e"
    refine ⟨_, pen_putB hs, ?_⟩
    have hs1 : (s.set n (some (penC cells (g + 1) l)))[n]? = some (some (penC cells (g + 1) l)) := pen_at hs
    have fr1 : Fr n s (s.set n (some (penC cells (g + 1) l))) := Fr.set
    have ln1 : (s.set n (some (penC cells (g + 1) l))).length = s.length := List.length_set ..
    generalize s.set n (some (penC cells (g + 1) l)) = s1 at hs1 fr1 ln1 ⊢
    wtm_at "s"
    repeat wtm_at "e"
    refine o_mul64 (by omega) (by omega) ?_
    repeat wtm_at "e"
    wtm_at "f"
    with_reducible refine w_mid (fun r' s' => s' = s1 ∧ ∃ cell : Int, r' = [some (.cel n), some (.int many), some (.int g), some (.int cell), none, none, none]) ?_ ?_
    · repeat wtm_at "e"
      refine pen_cells hs1 ?_
      repeat wtm_at "e"
      refine o_neNil ?_
      repeat wtm_at "e"
      refine ⟨fun hk => ?_, fun hk => ?_⟩
      · have hc0 : 0 < cells.length := by
          cases cells with
          | nil => cases hk
          | cons a c => simp
        repeat wtm_at "e"
        refine pen_cells hs1 ?_
        repeat wtm_at "e"
        refine pen_cells hs1 ?_
        repeat wtm_at "e"
        rw [List.length_map]
        refine o_mod (by omega) ?_
        have hk0 : 0 ≤ g % (cells.length : Int) := Int.emod_nonneg _ (by omega)
        have hk1 : g % (cells.length : Int) < cells.length := Int.emod_lt_of_pos _ (by omega)
        have hlt : (g % (cells.length : Int)).toNat < cells.length := by omega
        refine o_idxL (k := (g % (cells.length : Int)).toNat) (d := .int (cells[(g % (cells.length : Int)).toNat])) (by omega) (by rw [List.getElem?_map, List.getElem?_eq_getElem hlt]; rfl) ?_
        exact ⟨rfl, _, rfl⟩
      · repeat wtm_at "e"
        exact ⟨rfl, _, rfl⟩
    · rintro r' s' ⟨rfl, cell, rfl⟩
      have pen1 : Pen s' n (b + 1) := ⟨cells, g + 1, l, hs1, hc, by omega, by omega, hl⟩
      wtm_at "f"
      with_reducible refine w_mid (fun r2 s2 => s2 = s' ∧ r2 = [some (.cel n), some (.int many), some (.int g), some (.int cell), none, none, none]) ?_ ?_
      · repeat wtm_at "e"
        refine pen_cells hs1 ?_
        repeat wtm_at "e"
        refine ⟨fun hk => ?_, fun hk => ?_⟩
        · repeat wtm_at "e"
          refine o_pow (by decide) (by decide) (by decide) ?_
          repeat wtm_at "e"
          refine ⟨fun hk2 => ?_, fun hk2 => ?_⟩
          · have hk2 := of_decide_eq_true hk2
            repeat wtm_at "w"
            refine o_pow (by decide) (by decide) (by decide) ?_
            repeat wtm_at "w"
            refine o_div64 h0 h1 ?_
            repeat wtm_at "w"
            refine ⟨_, pen_putL hs1, ?_⟩
            repeat wtm_at "w"
            refine o_pow (by decide) (by decide) (by decide) ?_
            repeat wtm_at "w"
            refine o_mod h0 ?_
            refine h _ _ (hm _).1 (hm _).2 ⟨cells, g + 1, _, pen_at hs1, hc, by omega, by omega, Int.ediv_nonneg ?_ (by omega)⟩ (fr1.trans Fr.set) (by rw [List.length_set]; exact ln1)
            exact Int.sub_nonneg_of_le hk2
          · repeat wtm_at "e"
            exact ⟨rfl, rfl⟩
        · repeat wtm_at "e"
          refine ⟨fun z => (by cases z), fun _ => ?_⟩
          repeat wtm_at "e"
          exact ⟨rfl, rfl⟩
      · rintro r2 s2 ⟨rfl, rfl⟩
        have b1 : 0 ≤ cell % 4294967197 ∧ cell % 4294967197 < 4294967197 := ⟨Int.emod_nonneg _ (by decide), Int.emod_lt_of_pos _ (by decide)⟩
        repeat wtm_at "w"
        refine o_mod (by decide) ?_
        repeat wtm_at "w"
        refine o_mul64 (by omega) (by decide) ?_
        repeat wtm_at "w"
        refine o_mul64 (by decide) (by omega) ?_
        repeat wtm_at "w"
        refine o_mul64 (by omega) (by omega) ?_
        repeat wtm_at "w"
        refine o_mod (by decide) ?_
        generalize hx : (cell % 4294967197 * 48673 + g * (40009 * g + 1511) + 331) % 4294967189 = x
        have b2 : 0 ≤ x ∧ x < 4294967189 := by
          subst hx
          exact ⟨Int.emod_nonneg _ (by decide), Int.emod_lt_of_pos _ (by decide)⟩
        repeat wtm_at "w"
        refine o_mul64 (by omega) (by omega) ?_
        repeat wtm_at "w"
        refine o_mul64 (by decide) (by omega) ?_
        repeat wtm_at "w"
        refine o_mul64 (by decide) (by omega) ?_
        repeat wtm_at "w"
        refine o_mod (by decide) ?_
        generalize hy : (x * x + 75629 * x + 19 * g + 7) % 4294967161 = y
        have b3 : 0 ≤ y ∧ y < 4294967161 := by
          subst hy
          exact ⟨Int.emod_nonneg _ (by decide), Int.emod_lt_of_pos _ (by decide)⟩
        repeat wtm_at "w"
        refine o_mul64 (by omega) (by omega) ?_
        repeat wtm_at "w"
        refine o_mod (by decide) ?_
        repeat wtm_at "w"
        refine o_div64 (by decide) (by decide) ?_
        repeat wtm_at "w"
        refine o_mod h0 ?_
        exact h _ _ (hm _).1 (hm _).2 pen1 fr1 ln1
/-- a pick of a written list -/
theorem q_pick {n : Nat} {b : Int} {l : List D} {s : Sto} {Q : D → Sto → Prop} {E : XT} (p : Pen s n b) (hb : b ≤ 1000000000) (h0 : 0 < l.length) (h1 : l.length < 1000000) (h : ∀ d s', d ∈ l → Pen s' n (b + 1) → Fr n s s' → s'.length = s.length → Q d s') : RP Q E (m__law_pick [.cel n, .lst l] s) := by
  wtm_at "body"
  unfold b__law_pick
  repeat wtm_at "w"
  refine q_draw p hb (by omega) (by omega) fun k s' hk hk1 p' f' e' => ?_
  have hlt : k.toNat < l.length := by omega
  refine o_idxL (k := k.toNat) (d := l[k.toNat]) (by omega) (List.getElem?_eq_getElem hlt) ?_
  exact h _ _ (List.getElem_mem hlt) p' f' e'
theorem q_pen {ns : List Int} {s : Sto} {Q : D → Sto → Prop} {E : XT} (h : ∀ c s', Pen s' s.length 0 → s' = s ++ [some c] → Q (.cel s.length) s') : RP Q E (m__law_pen [.rol (ns.map .int)] s) := by
  wtm_at "body"
  unfold b__law_pen
  repeat wtm_at "w"
  refine w_ok ?_
  repeat wtm_at "w"
  refine o_list rfl ?_
  repeat wtm_at "w"
  refine ⟨by show 3 ≤ 15; decide, ?_⟩
  refine h _ _ ⟨ns.take 63, 0, 0, ?_, by rw [List.length_take]; omega, by decide, by decide, by decide⟩ rfl
  rw [List.getElem?_append_right (Nat.le_refl _), Nat.sub_self]
  show some (some (Ct.dct [(.inr "cells", .lst (cutD (ns.map .int) none (some 63))), (.inr "begun", .int 0), (.inr "left", .int 0)])) = _
  rw [cut_take (by decide), ← List.map_take]
  rfl
end G
set_option Elab.async false
set_option linter.all false
set_option maxRecDepth 100000
set_option maxHeartbeats 4000000
namespace G
open Mp Pl
open PySem (Str sizeLine)
local macro_rules | `(tactic| wtm_at "e") => `(tactic| first
  | with_reducible refine w_set ?_
  | with_reducible refine w_bin ?_
  | ((with_reducible refine w_v (d := ?dv) ?hv ?_); (case hv => exact rfl))
  | with_reducible refine w_c ?_
  | with_reducible refine w_cons ?_
  | with_reducible refine w_nil ?_
  | with_reducible refine w_arg ?_
  | with_reducible refine w_call ?_
  | with_reducible refine w_if ?_
  | with_reducible refine w_ret ?_
  | with_reducible refine w_skip ?_
  | with_reducible refine w_bl ?_
  | with_reducible refine w_tru ?_
  | with_reducible refine w_attr ?_
  | with_reducible refine w_meth ?_
  | with_reducible refine w_chain ?_
  | with_reducible refine w_and ?_
  | with_reducible refine w_or ?_
  | with_reducible refine w_not ?_
  | with_reducible refine w_notT ?_
  | with_reducible refine w_andT ?_
  | with_reducible refine w_orT ?_
  | with_reducible refine w_ifM ?_
  | with_reducible refine w_expr ?_
  | with_reducible refine w_un ?_
  | with_reducible refine w_par2 ?_
  | with_reducible refine w_par3 ?_
  | with_reducible refine w_asg ?_
  | with_reducible refine w_aug ?_
  | with_reducible refine w_sub ?_
  | with_reducible refine w_fld ?_
  | with_reducible refine w_raise ?_
  | with_reducible refine w_raise0 ?_
  | with_reducible refine w_try ?_
  | with_reducible refine w_make ?_
  | with_reducible refine w_tryAs ?_
  | with_reducible refine w_exn ?_
  | ((with_reducible refine o_isx (b := ?bv) ?h1 ?_); (case h1 => exact rfl))
  | with_reducible refine w_superS ?_
  | with_reducible refine w_super ?_
  | with_reducible refine w_star ?_
  | with_reducible refine w_for0 ?_
  | with_reducible refine w_lc0 ?_
  | with_reducible refine w_lc20 ?_
  | with_reducible refine w_seqJ ?_
  | with_reducible refine w_starC ?_
  | with_reducible refine w_spr ?_
  | with_reducible refine w_kwA ?_
  | with_reducible refine w_kwM ?_
  | with_reducible refine w_sprK ?_
  | with_reducible refine w_get ?_
  | with_reducible refine w_makeL ?_
  | with_reducible refine w_tryN ?_
  | ((with_reducible refine o_own0 ?hv ?_); (case hv => exact rfl))
  | ((with_reducible refine o_eqO0 ?hv ?_); (case hv => exact rfl))
  | with_reducible refine w_seqI ?_
  | with_reducible refine w_argI ?_
  | with_reducible refine w_opt ?_
  | with_reducible refine w_sli ?_
  | with_reducible refine w_pure ?_
  | with_reducible refine w_disp ?_
  | with_reducible refine w_pairs1 ?_
  | with_reducible refine w_pairs0 ?_
  | with_reducible refine w_retN ?_
  | with_reducible refine w_cnt ?_
  | with_reducible refine w_brk ?_
  | with_reducible refine o_addI ?_
  | with_reducible refine o_addI' ?_
  | with_reducible refine o_sub ?_
  | with_reducible refine o_lt ?_
  | with_reducible refine o_le ?_
  | with_reducible refine o_gt ?_
  | with_reducible refine o_ge ?_
  | with_reducible refine o_eqI ?_
  | with_reducible refine o_neI ?_
  | with_reducible refine o_eqS ?_
  | with_reducible refine o_neS ?_
  | with_reducible refine o_int ?_
  | with_reducible refine o_intB ?_
  | with_reducible refine o_neg ?_
  | with_reducible refine o_abs ?_
  | with_reducible refine o_newL ?_
  | with_reducible refine o_max2 ?_
  | with_reducible refine o_min2 ?_
  | with_reducible refine o_lenL ?_
  | with_reducible refine o_lenT ?_
  | ((with_reducible refine o_tup ?hv ?_); (case hv => first | exact Nat.le_of_ble_eq_true rfl | assumption))
  | ((with_reducible refine o_lst ?hv ?_); (case hv => first | exact Nat.le_of_ble_eq_true rfl | assumption))
  | ((with_reducible refine o_isi (t := ?tv) (b := ?bv) ?h1 ?h2 ?_); (case h1 => exact rfl); (case h2 => exact rfl))
  | ((with_reducible refine o_fld (C := ?cv) (fs := ?fv) (d := ?dv) ?h1 ?h2 ?h3 ?_); (case h1 => exact rfl); (case h2 => exact rfl); (case h3 => exact rfl))
  | ((with_reducible refine Exists.intro ?kv (And.intro ?ha ?_)); (case ha => exact rfl)))
local macro_rules | `(tactic| wtm_at "body") => `(tactic| (refine w_body rfl rfl ?_; dsimp only [List.length_cons, List.length_nil, List.drop, List.append_nil, List.map_cons, List.map_nil, List.map, List.cons_append, List.nil_append, Nat.reduceAdd, Nat.reduceSub, List.replicate]))
local macro_rules | `(tactic| wtm_at "meth") => `(tactic| refine ⟨_, _, _, rfl, rfl, rfl, ?_⟩)
local macro_rules | `(tactic| wtm_at "w") => `(tactic| first | with_reducible refine w_seq ?_ | wtm_at "e")
local macro_rules | `(tactic| wtm_at "s") => `(tactic| ((repeat wtm_at "e"); (with_reducible refine w_seq ?_)))
local macro_rules | `(tactic| wtm_at "f") => `(tactic| ((repeat wtm_at "e"); (with_reducible show FP _ _)))
/-! the law's numbers -/
structure PF (n : Nat) (s s' : Sto) (b : Int) : Prop where
  pen : Pen s' n b
  fr : Fr n s s'
  len : s'.length = s.length
theorem PF.of {n : Nat} {s : Sto} {b : Int} (h : Pen s n b) : PF n s s b := ⟨h, Fr.refl, rfl⟩
theorem PF.go {n : Nat} {s s' s'' : Sto} {b c d : Int} (h : PF n s s' b) (p : Pen s'' n c) (f : Fr n s' s'') (l : s''.length = s'.length) (hd : c ≤ d) : PF n s s'' d := ⟨p.mono hd, h.fr.trans f, l.trans h.len⟩
theorem PF.go' {n : Nat} {s s' s'' : Sto} {b c d : Int} (h : PF n s s' b) (p : PF n s' s'' c) (hd : c ≤ d) : PF n s s'' d := ⟨p.pen.mono hd, h.fr.trans p.fr, p.len.trans h.len⟩
theorem PF.mono {n : Nat} {s s' : Sto} {b c : Int} (h : PF n s s' b) (hb : b ≤ c) : PF n s s' c := ⟨h.pen.mono hb, h.fr, h.len⟩
end G
set_option Elab.async false
set_option linter.all false
set_option maxRecDepth 100000
set_option maxHeartbeats 4000000
namespace G
open Mp Pl
open PySem (Str sizeLine)
local macro_rules | `(tactic| wtm_at "e") => `(tactic| first
  | with_reducible refine w_set ?_
  | with_reducible refine w_bin ?_
  | ((with_reducible refine w_v (d := ?dv) ?hv ?_); (case hv => exact rfl))
  | with_reducible refine w_c ?_
  | with_reducible refine w_cons ?_
  | with_reducible refine w_nil ?_
  | with_reducible refine w_arg ?_
  | with_reducible refine w_call ?_
  | with_reducible refine w_if ?_
  | with_reducible refine w_ret ?_
  | with_reducible refine w_skip ?_
  | with_reducible refine w_bl ?_
  | with_reducible refine w_tru ?_
  | with_reducible refine w_attr ?_
  | with_reducible refine w_meth ?_
  | with_reducible refine w_chain ?_
  | with_reducible refine w_and ?_
  | with_reducible refine w_or ?_
  | with_reducible refine w_not ?_
  | with_reducible refine w_notT ?_
  | with_reducible refine w_andT ?_
  | with_reducible refine w_orT ?_
  | with_reducible refine w_ifM ?_
  | with_reducible refine w_expr ?_
  | with_reducible refine w_un ?_
  | with_reducible refine w_par2 ?_
  | with_reducible refine w_par3 ?_
  | with_reducible refine w_asg ?_
  | with_reducible refine w_aug ?_
  | with_reducible refine w_sub ?_
  | with_reducible refine w_fld ?_
  | with_reducible refine w_raise ?_
  | with_reducible refine w_raise0 ?_
  | with_reducible refine w_try ?_
  | with_reducible refine w_make ?_
  | with_reducible refine w_tryAs ?_
  | with_reducible refine w_exn ?_
  | ((with_reducible refine o_isx (b := ?bv) ?h1 ?_); (case h1 => exact rfl))
  | with_reducible refine w_superS ?_
  | with_reducible refine w_super ?_
  | with_reducible refine w_star ?_
  | with_reducible refine w_for0 ?_
  | with_reducible refine w_lc0 ?_
  | with_reducible refine w_lc20 ?_
  | with_reducible refine w_seqJ ?_
  | with_reducible refine w_starC ?_
  | with_reducible refine w_spr ?_
  | with_reducible refine w_kwA ?_
  | with_reducible refine w_kwM ?_
  | with_reducible refine w_sprK ?_
  | with_reducible refine w_get ?_
  | with_reducible refine w_makeL ?_
  | with_reducible refine w_tryN ?_
  | ((with_reducible refine o_own0 ?hv ?_); (case hv => exact rfl))
  | ((with_reducible refine o_eqO0 ?hv ?_); (case hv => exact rfl))
  | with_reducible refine w_seqI ?_
  | with_reducible refine w_argI ?_
  | with_reducible refine w_opt ?_
  | with_reducible refine w_sli ?_
  | with_reducible refine w_pure ?_
  | with_reducible refine w_disp ?_
  | with_reducible refine w_pairs1 ?_
  | with_reducible refine w_pairs0 ?_
  | with_reducible refine w_retN ?_
  | with_reducible refine w_cnt ?_
  | with_reducible refine w_brk ?_
  | with_reducible refine o_addI ?_
  | with_reducible refine o_addI' ?_
  | with_reducible refine o_sub ?_
  | with_reducible refine o_lt ?_
  | with_reducible refine o_le ?_
  | with_reducible refine o_gt ?_
  | with_reducible refine o_ge ?_
  | with_reducible refine o_eqI ?_
  | with_reducible refine o_neI ?_
  | with_reducible refine o_eqS ?_
  | with_reducible refine o_neS ?_
  | with_reducible refine o_int ?_
  | with_reducible refine o_intB ?_
  | with_reducible refine o_neg ?_
  | with_reducible refine o_abs ?_
  | with_reducible refine o_newL ?_
  | with_reducible refine o_max2 ?_
  | with_reducible refine o_min2 ?_
  | with_reducible refine o_lenL ?_
  | with_reducible refine o_lenT ?_
  | ((with_reducible refine o_tup ?hv ?_); (case hv => first | exact Nat.le_of_ble_eq_true rfl | assumption))
  | ((with_reducible refine o_lst ?hv ?_); (case hv => first | exact Nat.le_of_ble_eq_true rfl | assumption))
  | ((with_reducible refine o_isi (t := ?tv) (b := ?bv) ?h1 ?h2 ?_); (case h1 => exact rfl); (case h2 => exact rfl))
  | ((with_reducible refine o_fld (C := ?cv) (fs := ?fv) (d := ?dv) ?h1 ?h2 ?h3 ?_); (case h1 => exact rfl); (case h2 => exact rfl); (case h3 => exact rfl))
  | ((with_reducible refine Exists.intro ?kv (And.intro ?ha ?_)); (case ha => exact rfl)))
local macro_rules | `(tactic| wtm_at "body") => `(tactic| (refine w_body rfl rfl ?_; dsimp only [List.length_cons, List.length_nil, List.drop, List.append_nil, List.map_cons, List.map_nil, List.map, List.cons_append, List.nil_append, Nat.reduceAdd, Nat.reduceSub, List.replicate]))
local macro_rules | `(tactic| wtm_at "meth") => `(tactic| refine ⟨_, _, _, rfl, rfl, rfl, ?_⟩)
local macro_rules | `(tactic| wtm_at "w") => `(tactic| first | with_reducible refine w_seq ?_ | wtm_at "e")
local macro_rules | `(tactic| wtm_at "s") => `(tactic| ((repeat wtm_at "e"); (with_reducible refine w_seq ?_)))
local macro_rules | `(tactic| wtm_at "f") => `(tactic| ((repeat wtm_at "e"); (with_reducible show FP _ _)))
/-! letters and words drawn -/
theorem perm_erase {T : Type} : ∀ (l : List T) (k : Nat) (x : T), l[k]? = some x → (x :: l.eraseIdx k).Perm l
  | [], k, x, h => by simp at h
  | a :: l, 0, x, h => by
    simp at h
    subst h
    exact .refl _
  | a :: l, k + 1, x, h => by
    have h' : l[k]? = some x := by simpa using h
    exact (List.Perm.swap a x _).trans ((perm_erase l k x h').cons a)
theorem pen_set {s : Sto} {n c : Nat} {b : Int} {o : Option Ct} (h : Pen s n b) (hc : c ≠ n) : Pen (s.set c o) n b := by
  obtain ⟨cells, g, l, h1, h2⟩ := h
  exact ⟨cells, g, l, by rw [List.getElem?_set_ne hc]; exact h1, h2⟩
theorem fr_setNew {s s' : Sto} {n c : Nat} {o : Option Ct} (h : Fr n s s') (hc : s.length ≤ c) : Fr n s (s'.set c o) := by
  refine ⟨by rw [List.length_set]; exact h.1, fun i hi ne => ?_⟩
  rw [List.getElem?_set_ne (by omega)]
  exact h.2 i hi ne
theorem fr_app {s s' : Sto} {n : Nat} {o : List (Option Ct)} (h : Fr n s s') : Fr n s (s' ++ o) := by
  have hl := h.1
  refine ⟨by rw [List.length_append]; omega, fun i hi ne => ?_⟩
  rw [List.getElem?_append_left (by omega)]
  exact h.2 i hi ne
/-- the pen's frame, where the store may grow -/
structure PH (n : Nat) (s s' : Sto) (b : Int) : Prop where
  pen : Pen s' n b
  fr : Fr n s s'
theorem PH.of {n : Nat} {s : Sto} {b : Int} (h : Pen s n b) : PH n s s b := ⟨h, Fr.refl⟩
theorem PH.go {n : Nat} {s s' s'' : Sto} {b c d : Int} (h : PH n s s' b) (p : PH n s' s'' c) (hd : c ≤ d) : PH n s s'' d := ⟨p.pen.mono hd, h.fr.trans p.fr⟩
theorem PH.mono {n : Nat} {s s' : Sto} {b c : Int} (h : PH n s s' b) (hb : b ≤ c) : PH n s s' c := ⟨h.pen.mono hb, h.fr⟩
theorem PH.app {n : Nat} {s s' : Sto} {b : Int} {o : Option Ct} (h : PH n s s' b) : PH n s (s' ++ [o]) b := ⟨h.pen.app o, fr_app h.fr⟩
theorem PH.set {n c : Nat} {s s' : Sto} {b : Int} {o : Option Ct} (h : PH n s s' b) (hc : s.length ≤ c) (hn : n < s.length) : PH n s (s'.set c o) b := ⟨pen_set h.pen (by omega), fr_setNew h.fr hc⟩
section
variable {n : Nat} {b : Int} {s : Sto} {Q : D → Sto → Prop} {E : XT}
theorem o_neNilC {c : Nat} {l : List Int} (hs : s[c]? = some (some (.lst (l.map .int)))) (h : Q (.bl (!l.isEmpty)) s) : RP Q E (neD (.cel c) (.lst []) s) := by
  have e : neD (.cel c) (.lst []) s = neD (.lst (l.map .int)) (.lst []) s := by
    show eqG true (.cel c) (.lst []) s = _
    unfold eqG
    dsimp only
    rw [hs]
    rfl
  rw [e]
  exact o_neNil h
theorem q_shuffled {ns : List Int} (p : Pen s n b) (hb : b + ns.length ≤ 1000000000) (hl : ns.length ≤ 1000) (h : ∀ (ms : List Int) (c : Nat) s', ms.Perm ns → s'[c]? = some (some (.lst (ms.map .int))) → s.length ≤ c → PH n s s' (b + ns.length) → Q (.cel c) s') :
    RP Q E (m__law_shuffled [.cel n, .lst (ns.map .int)] s) := by
  have hz : sizeLine = 16777216 := by decide
  have hn := p.lt
  wtm_at "body"
  unfold b__law_shuffled
  wtm_at "s"
  repeat wtm_at "e"
  refine RP.of (a := .cel s.length) (s' := s ++ [some (.lst (ns.map .int))]) rfl ?_
  repeat wtm_at "e"
  refine o_lstC (by decide) ?_
  repeat wtm_at "e"
  refine ⟨_, _, rfl, ?_⟩
  wtm_at "s"
  have el : (s ++ [some (Ct.lst (ns.map .int))]).length = s.length + 1 := by simp
  refine w_while (fun m r s' => ∃ rest found : List Int, r = [some (.cel n), some (.lst (ns.map .int)), some (.cel s.length), some (.cel (s.length + 1))] ∧ s'[s.length]? = some (some (.lst (rest.map .int))) ∧ s'[s.length + 1]? = some (some (.lst (found.map .int))) ∧ (found ++ rest).Perm ns ∧ rest.length = m ∧ PH n s s' (b + found.length)) ?_ ns.length _ _
    ⟨ns, [], by rw [el]; rfl, by rw [List.getElem?_append_left (by simp), List.getElem?_append_right (Nat.le_refl _)]; simp, by rw [List.getElem?_append_right (by rw [el]; exact Nat.le_refl _), el]; simp, .refl _, rfl, by simpa using ((PH.of p).app).app⟩
  rintro m r s' ⟨rest, found, rfl, h1, h2, hp, hm, ph⟩
  have hfl : found.length + rest.length = ns.length := by
    have := hp.length_eq
    rw [List.length_append] at this
    exact this
  repeat wtm_at "e"
  refine o_neNilC h1 ?_
  repeat wtm_at "e"
  refine ⟨fun hk => ?_, fun hk => ?_⟩
  · have h0 : 0 < rest.length := by
      cases rest with
      | nil => cases hk
      | cons a r => simp
    have t1 : isLstD s' (.cel (s.length + 1)) = true := by
      unfold isLstD lstOf lstX
      dsimp only
      rw [h2]
      rfl
    have t2 : isLstD s' (.cel s.length) = true := by
      unfold isLstD lstOf lstX
      dsimp only
      rw [h1]
      rfl
    repeat wtm_at "e"
    refine w_bm ?_
    repeat wtm_at "e"
    refine ⟨t1, ?_⟩
    repeat wtm_at "e"
    refine w_bm ?_
    repeat wtm_at "e"
    refine ⟨t2, ?_⟩
    repeat wtm_at "e"
    refine o_len (l := rest.map .int) (fun z => (by intro q; cases q)) (by show lstOf s' (.cel s.length) = _; unfold lstOf lstX; dsimp only; rw [h1]) ?_
    rw [List.length_map]
    repeat wtm_at "e"
    refine q_draw ph.pen (by omega) (by omega) (by omega) fun k s2 hk0 hk1 p2 f2 l2 => ?_
    have hlt : k.toNat < rest.length := by omega
    have g1 : s2[s.length]? = some (some (.lst (rest.map .int))) := by
      rw [f2.2 s.length (by have := (List.getElem?_eq_some_iff.mp h1).1; omega) (by omega)]
      exact h1
    have g2 : s2[s.length + 1]? = some (some (.lst (found.map .int))) := by
      rw [f2.2 (s.length + 1) (by have := (List.getElem?_eq_some_iff.mp h2).1; omega) (by omega)]
      exact h2
    repeat wtm_at "e"
    refine o_pop (k := k.toNat) (d := .int (rest[k.toNat])) g1 (by omega) (by rw [List.getElem?_map, List.getElem?_eq_getElem hlt]; rfl) (by rw [List.length_map]; omega) ?_
    repeat wtm_at "e"
    refine o_app (l := found.map .int) (by rw [List.getElem?_set_ne (by omega)]; exact g2) (by rw [List.length_map]; omega) ?_
    have ee : (rest.map D.int).eraseIdx k.toNat = (rest.eraseIdx k.toNat).map .int := by
      rw [List.eraseIdx_eq_take_drop_succ, List.eraseIdx_eq_take_drop_succ, List.map_append, List.map_take, List.map_drop]
    have c1 : s.length < s2.length := (List.getElem?_eq_some_iff.mp g1).1
    have c2 : s.length + 1 < s2.length := (List.getElem?_eq_some_iff.mp g2).1
    refine ⟨rest.length - 1, by omega, rest.eraseIdx k.toNat, found ++ [rest[k.toNat]], rfl, ?_, ?_, ?_, ?_, ?_⟩
    · rw [List.getElem?_set_ne (by omega), List.getElem?_set_self c1, ee]
    · rw [List.getElem?_set_self (by rw [List.length_set]; exact c2), List.map_append]
      rfl
    · refine List.Perm.trans ?_ hp
      rw [List.append_assoc]
      exact List.Perm.append_left found (perm_erase rest k.toNat _ (List.getElem?_eq_getElem hlt))
    · rw [List.length_eraseIdx, if_pos hlt]
    · have q : PH n s s2 (b + found.length + 1) := ph.go ⟨p2, f2⟩ (Int.le_refl _)
      rw [List.length_append]
      exact ((q.set (Nat.le_refl _) hn).set (Nat.le_succ _) hn).mono (by simp; omega)
  · have h0 : rest = [] := by
      cases rest with
      | nil => rfl
      | cons a r => cases hk
    subst h0
    repeat wtm_at "e"
    rw [List.append_nil] at hp
    exact h found (s.length + 1) s' hp h2 (Nat.le_succ _) (ph.mono (by rw [hp.length_eq]; exact Int.le_refl _))
theorem intL_map (m : Nat) : intL 0 m = ((List.range m).map fun k => ((k : Nat) : Int)).map .int := by
  unfold intL
  rw [List.map_map]
  apply List.map_congr_left
  intro k _
  show D.int (0 + (k : Nat)) = D.int (k : Nat)
  rw [Int.zero_add]
theorem sorted_lets {ms ns : List Int} {m : Nat} (hp : ms.Perm ((List.range 26).map fun k => ((k : Nat) : Int))) (h1 : 1 ≤ m) (h2 : m ≤ 4) (he : ns = (ms.take m).mergeSort leI2) : ∃ ps : List Nat, Lets ps ∧ ps.length ≤ m ∧ ns = ps.map fun k => ((k : Nat) : Int) := by
  have hlen : ms.length = 26 := by rw [hp.length_eq]; simp
  have pm : ns.Perm (ms.take m) := by rw [he]; exact List.mergeSort_perm _ _
  have hmem : ∀ z ∈ ns, ∃ k : Nat, k < 26 ∧ z = k := fun z hz => by
    have a1 := (List.take_subset _ _) (pm.mem_iff.mp hz)
    have a2 := hp.mem_iff.mp a1
    obtain ⟨k, hk, rfl⟩ := List.mem_map.mp a2
    exact ⟨k, List.mem_range.mp hk, rfl⟩
  have nd : ns.Nodup := by
    have a0 : ((List.range 26).map fun k => ((k : Nat) : Int)).Nodup := by decide
    have a1 : ms.Nodup := hp.nodup_iff.mpr a0
    have a2 : (ms.take m).Nodup := a1.sublist (List.take_sublist _ _)
    exact pm.nodup_iff.mpr a2
  have as : ns.Pairwise (· < ·) := by
    have q := List.pairwise_mergeSort (le := leI2) (fun a b c h k => by simp only [leI2, decide_eq_true_eq] at *; omega) (fun a b => by simp only [leI2, Bool.or_eq_true, decide_eq_true_eq]; omega) (ms.take m)
    rw [← he] at q
    refine List.Pairwise.imp₂ (fun a b h1 h2 => ?_) q nd
    have h1 := of_decide_eq_true h1
    omega
  have eq : ns = (ns.map Int.toNat).map fun k => ((k : Nat) : Int) := by
    rw [List.map_map]
    conv => lhs; rw [← List.map_id ns]
    apply List.map_congr_left
    intro z hz
    obtain ⟨k, _, rfl⟩ := hmem z hz
    rfl
  have nl : ns.length = m := by rw [pm.length_eq, List.length_take, hlen]; omega
  refine ⟨ns.map Int.toNat, ⟨by rw [List.length_map]; omega, by rw [List.length_map]; omega, fun i hi => ?_, ?_⟩, by rw [List.length_map]; omega, eq⟩
  · obtain ⟨z, hz, rfl⟩ := List.mem_map.mp hi
    obtain ⟨k, hk, rfl⟩ := hmem z hz
    exact hk
  · rw [List.pairwise_map]
    refine as.imp_of_mem fun {a b} ha hb hab => ?_
    obtain ⟨k, _, rfl⟩ := hmem a ha
    obtain ⟨j, _, rfl⟩ := hmem b hb
    show k < j
    omega
theorem q_letters {m : Int} (p : Pen s n b) (hb : b + 30 ≤ 1000000000) (h1 : 1 ≤ m) (h2 : m ≤ 4) (h : ∀ (ps : List Nat) s', Lets ps → PH n s s' (b + 27) → Q (.str (LS ps)) s') : RP Q E (m__law_letters [.cel n, .int m] s) := by
  have hz : sizeLine = 16777216 := by decide
  wtm_at "body"
  unfold b__law_letters
  wtm_at "s"
  repeat wtm_at "e"
  refine w_listRg (k := 26) ?_
  repeat wtm_at "e"
  refine ⟨rfl, by decide, by decide, ?_⟩
  repeat wtm_at "e"
  rw [intL_map]
  refine q_shuffled p (by simp; omega) (by simp) fun ms c s1 hp hc hcl ph => ?_
  have ph : PH n s s1 (b + 26) := ph.mono (by simp)
  repeat wtm_at "e"
  refine q_draw ph.pen (by omega) (by omega) (by omega) fun k s2 hk0 hk1 p2 f2 l2 => ?_
  have hcn : c ≠ n := by
    have := p.lt
    omega
  have g2 : s2[c]? = some (some (.lst (ms.map .int))) := by
    rw [f2.2 c (List.getElem?_eq_some_iff.mp hc).1 hcn]
    exact hc
  repeat wtm_at "e"
  have es : sliD false (.cel c) none (some (1 + k)) s2 = .ok (.lst ((ms.take (1 + k).toNat).map .int)) s2 := by
    unfold sliD
    dsimp only
    have e0 : lstOf s2 (.cel c) = some (ms.map .int) := by
      unfold lstOf lstX
      dsimp only
      rw [g2]
    rw [e0]
    dsimp only
    rw [cut_take (by omega), ← List.map_take]
    rfl
  refine RP.of es ?_
  repeat wtm_at "e"
  refine o_sortedI (ns := ms.take (1 + k).toNat) rfl rfl ?_
  obtain ⟨ps, lt, hpl, eps⟩ := sorted_lets (m := (1 + k).toNat) hp (by omega) (by omega) rfl
  rw [eps]
  repeat wtm_at "e"
  refine w_bm ?_
  repeat wtm_at "e"
  refine ⟨rfl, ?_⟩
  repeat wtm_at "e"
  rw [List.map_map]
  have h4 := lt.few
  refine w_lcX ps (fun i => .int ((i : Nat) : Int)) (fun i => .str (ch i)) rfl rfl (by omega) (fun i hi => ⟨_, rfl, ?_⟩) ?_
  · repeat wtm_at "e"
    have hi := lt.lt i hi
    rw [abc]
    exact idx_LS (k := i) (p := i) (by decide) rfl (by rw [List.getElem?_eq_getElem (by simpa using hi)]; simp) ⟨rfl, rfl⟩
  · repeat wtm_at "e"
    have e3 : (ps.map fun i => D.str (ch i)) = (ps.map ch).map .str := by rw [List.map_map]; rfl
    rw [e3]
    refine o_join (ys := ps.map ch) rfl (by rw [LS_joinlen, List.length_map]; show ps.length + ps.length * 0 ≤ 16777216; omega) ?_
    rw [LS_join]
    exact h ps s2 lt (ph.go ⟨p2, f2⟩ (by omega))
theorem q_pickS {ps : List Nat} (p : Pen s n b) (hb : b ≤ 1000000000) (h0 : 0 < ps.length) (h1 : ps.length < 1000000) (h : ∀ i s', i ∈ ps → PF n s s' (b + 1) → Q (.str (ch i)) s') : RP Q E (m__law_pick [.cel n, .str (LS ps)] s) := by
  have hz : sizeLine = 16777216 := by decide
  wtm_at "body"
  unfold b__law_pick
  repeat wtm_at "w"
  refine o_lenS (by rw [LS_len]; omega) ?_
  rw [LS_len]
  repeat wtm_at "w"
  refine q_draw p hb (by omega) (by omega) fun k s' hk hk1 p' f' e' => ?_
  have hlt : k.toNat < ps.length := by omega
  refine idx_LS (k := k.toNat) (p := ps[k.toNat]) (by omega) (by omega) (List.getElem?_eq_getElem hlt) ?_
  exact h _ _ (List.getElem_mem hlt) ⟨p', f', e'⟩
theorem q_word {ps : List Nat} {m : Int} (p : Pen s n b) (hb : b + m + 2 ≤ 1000000000) (h0 : 0 < ps.length) (h1 : ps.length < 1000000) (hm : 0 ≤ m) (hm2 : m ≤ 1000) (h : ∀ (ws : List Nat) s', (ws.length : Int) ≤ m → (∀ w ∈ ws, w ∈ ps) → PF n s s' (b + m + 1) → Q (.str (LS ws)) s') :
    RP Q E (m__law_word [.cel n, .str (LS ps), .int m] s) := by
  have hz : sizeLine = 16777216 := by decide
  wtm_at "body"
  unfold b__law_word
  repeat wtm_at "e"
  refine w_bm ?_
  repeat wtm_at "e"
  refine ⟨rfl, ?_⟩
  repeat wtm_at "e"
  refine q_draw p (by omega) (by omega) (by omega) fun k s1 hk0 hk1 p1 f1 l1 => ?_
  repeat wtm_at "e"
  refine w_range1 (by omega) (by omega) ?_
  have pf1 : PF n s s1 (b + 1) := ⟨p1, f1, l1⟩
  refine w_lc (fun i l s' => ∃ ws : List Nat, l = (ws.map ch).map .str ∧ ws.length = i ∧ i ≤ k.toNat ∧ (∀ w ∈ ws, w ∈ ps) ∧ PF n s s' (b + 1 + i)) rfl ⟨[], rfl, rfl, Nat.zero_le _, fun _ z => (by cases z), pf1.mono (by omega)⟩ ?_ ?_
  · rintro i d l s' hd ⟨ws, rfl, hwl, hik, hw, pf⟩
    obtain ⟨hi, rfl⟩ := intL_get hd
    refine ⟨_, rfl, fun _ => ?_, fun z => (by cases z)⟩
    repeat wtm_at "e"
    refine q_pickS pf.pen (by omega) h0 h1 fun j s2 hj pf2 => ?_
    refine ⟨by rw [List.length_map, List.length_map]; omega, ws ++ [j], by simp, by simp [hwl], hi, fun w hwm => ?_, pf.go' pf2 (by omega)⟩
    rcases List.mem_append.mp hwm with hwm | hwm
    · exact hw w hwm
    · simp at hwm
      rw [hwm]
      exact hj
  · rintro l s' ⟨ws, rfl, hwl, hik, hw, pf⟩
    rw [intL_len] at hwl pf
    repeat wtm_at "e"
    refine o_join (ys := ws.map ch) rfl (by rw [LS_joinlen, List.length_map]; show ws.length + ws.length * 0 ≤ 16777216; omega) ?_
    rw [LS_join]
    exact h ws s' (by omega) hw (pf.mono (by omega))
end
/-! letters, words -/
section
variable {s : Sto} {Q : D → Sto → Prop} {E : XT} {ps ws : List Nat}
theorem all_true {T : Type} (l : List T) (f : T → Bool) (h : ∀ x ∈ l, f x = true) : (l.map f).all id = true := by
  rw [List.all_eq_true]
  intro b hb
  obtain ⟨x, hx, rfl⟩ := List.mem_map.mp hb
  exact h x hx
theorem o_allX {T : Type} {l : List T} {f : T → Bool} (h : Q (.bl ((l.map f).all id)) s) : RP Q E (allD [.lst (l.map fun x => .bl (f x))] s) := o_all (l := l.map f) (by show bools _ = _; exact bools_map f l) h
theorem q_are_letters (hp : Lets ps) (h : Q (.bl true) s) : RP Q E (m_are_letters [.str (LS ps)] s) := by
  have hz : sizeLine = 16777216 := by decide
  have hlen := LS_len ps
  have h1 := hp.pos
  have h4 := hp.few
  wtm_at "body"
  unfold b_are_letters
  wtm_at "f"
  with_reducible refine w_mid (fun r s' => s' = s ∧ r = [some (.str (LS ps)), none, none]) ?_ ?_
  · repeat wtm_at "e"
    refine ⟨fun _ => ?_, fun z => by cases z⟩
    repeat wtm_at "e"
    refine o_lenS (by omega) ?_
    rw [hlen]
    repeat wtm_at "e"
    refine ⟨fun _ => ?_, fun z => ?_⟩
    · repeat wtm_at "e"
      refine ⟨fun z => ?_, fun _ => ?_⟩
      · have : decide ((ps.length : Int) ≤ 4) = true := decide_eq_true (by omega)
        rw [this] at z
        cases z
      · repeat wtm_at "e"
        exact ⟨rfl, rfl⟩
    · exact absurd z (by rw [decide_eq_true (show (1 : Int) ≤ (ps.length : Int) by omega)]; exact fun q => by cases q)
  · rintro r s' ⟨rfl, rfl⟩
    wtm_at "f"
    with_reducible refine w_mid (fun r s2 => s2 = s' ∧ r = [some (.str (LS ps)), none, none]) ?_ ?_
    · repeat wtm_at "e"
      refine w_lcX ps (fun i => .str (ch i)) (fun i => .bl true) (LS_chars ps) rfl (by omega) (fun i hi => ⟨_, rfl, ?_⟩) ?_
      · repeat wtm_at "e"
        refine o_inS ?_
        exact ⟨rfl, by rw [inStr_abc (hp.lt i hi)]⟩
      · repeat wtm_at "e"
        refine o_allX (l := ps) (f := fun _ => true) ?_
        rw [all_true _ _ fun _ _ => rfl]
        repeat wtm_at "e"
        refine ⟨fun z => (by cases z), fun _ => ?_⟩
        repeat wtm_at "e"
        exact ⟨rfl, rfl⟩
    · rintro r s2 ⟨rfl, rfl⟩
      repeat wtm_at "e"
      refine o_lenS (by omega) ?_
      rw [hlen]
      repeat wtm_at "e"
      refine w_range1 (by omega) (by omega) ?_
      have e1 : ((ps.length : Int) - 1).toNat = ps.length - 1 := by omega
      rw [e1]
      refine w_lcX (List.range (ps.length - 1)) (fun i => .int (0 + (i : Nat))) (fun i => .bl true) rfl rfl (by rw [List.length_range]; omega) (fun i hi => ⟨_, rfl, ?_⟩) ?_
      · have hi := List.mem_range.mp hi
        have a1 : i < ps.length := by omega
        have a2 : i + 1 < ps.length := by omega
        repeat wtm_at "e"
        refine idx_LS (k := i) (p := ps[i]) (by omega) (by omega) (List.getElem?_eq_getElem a1) ?_
        repeat wtm_at "e"
        refine idx_LS (k := i + 1) (p := ps[i + 1]) (by omega) (by omega) (List.getElem?_eq_getElem a2) ?_
        refine lt_ch ?_
        refine ⟨rfl, ?_⟩
        rw [decide_eq_true]
        exact List.pairwise_iff_getElem.mp hp.asc i (i + 1) a1 a2 (by omega)
      · repeat wtm_at "e"
        refine o_allX (l := List.range (ps.length - 1)) (f := fun _ => true) ?_
        rw [all_true _ _ fun _ _ => rfl]
        exact h
theorem q_is_word (hw : ∀ w ∈ ws, w ∈ ps) (hl : ws.length ≤ 160) (hz : ps.length ≤ sizeLine) (h : Q (.bl true) s) : RP Q E (m_is_word [.str (LS ps), .str (LS ws), .int 160] s) := by
  have hz : sizeLine = 16777216 := by decide
  have hlen := LS_len ws
  wtm_at "body"
  unfold b_is_word
  wtm_at "f"
  with_reducible refine w_mid (fun r s' => s' = s ∧ r = [some (.str (LS ps)), some (.str (LS ws)), some (.int 160), none]) ?_ ?_
  · repeat wtm_at "e"
    refine ⟨fun _ => ?_, fun z => by cases z⟩
    repeat wtm_at "e"
    refine o_lenS (by omega) ?_
    rw [hlen]
    repeat wtm_at "e"
    refine ⟨fun z => ?_, fun _ => ?_⟩
    · exact absurd (of_decide_eq_true z) (by omega)
    · repeat wtm_at "e"
      exact ⟨rfl, rfl⟩
  · rintro r s' ⟨rfl, rfl⟩
    repeat wtm_at "e"
    refine w_lcX ws (fun i => .str (ch i)) (fun i => .bl true) (LS_chars ws) rfl (by omega) (fun i hi => ⟨_, rfl, ?_⟩) ?_
    · repeat wtm_at "e"
      refine o_inS ?_
      exact ⟨rfl, by rw [inStr_LS, decide_eq_true (hw i hi)]⟩
    · repeat wtm_at "e"
      refine o_allX (l := ws) (f := fun _ => true) ?_
      rw [all_true _ _ fun _ _ => rfl]
      exact h
theorem q_need_word (hw : ∀ w ∈ ws, w ∈ ps) (hl : ws.length ≤ 160) (hz : ps.length ≤ sizeLine) (h : Q .non s) : RP Q E (m_need_word [.str (LS ps), .str (LS ws)] s) := by
  wtm_at "body"
  unfold b_need_word
  repeat wtm_at "e"
  refine q_is_word hw hl hz ?_
  repeat wtm_at "e"
  refine ⟨fun z => (by cases z), fun _ => ?_⟩
  repeat wtm_at "e"
  exact h
end
/-! draws one after the other, dicts by letters -/
section
variable {n : Nat} {b : Int} {s B : Sto} {Q : D → Sto → Prop} {E : XT}
/-- a comprehension of draws -/
theorem w_lcD {T : Type} (em : T → D) (P : T → Prop) (c : Int) {j m : Nat} {te : DE} {r : En} {Q : List D → Sto → Prop} (p : Pen s n b) (hm : m ≤ 1000000) (hc : 0 ≤ c)
    (hte : ∀ (i : Nat) (s1 : Sto) (R : D → Sto → Prop), i < m → Pen s1 n (b + c * i) → (∀ (x : T) s2, P x → PF n s1 s2 (b + c * i + c) → R (em x) s2) → RP R noX (te (r.set j (some (.int (0 + (i : Nat))))) s1)) (he : ∀ (xs : List T) s', xs.length = m → (∀ x ∈ xs, P x) → PF n s s' (b + c * m) → Q (xs.map em) s') :
    RP Q E (lcF ⟨intL 0 m, none⟩ (nameG j) yesM te r (intL 0 m) [] s) := by
  have hz : sizeLine = 16777216 := by decide
  refine w_lc (c := ⟨intL 0 m, none⟩) (fun i l s' => ∃ xs : List T, l = xs.map em ∧ xs.length = i ∧ i ≤ m ∧ (∀ x ∈ xs, P x) ∧ PF n s s' (b + c * i)) rfl ⟨[], rfl, rfl, Nat.zero_le _, fun _ z => (by cases z), (PF.of p).mono (by simp)⟩ ?_ ?_
  · rintro i d l s' hd ⟨xs, rfl, hl, him, hP, pf⟩
    obtain ⟨hi, rfl⟩ := intL_get hd
    refine ⟨_, rfl, fun _ => ?_, fun z => (by cases z)⟩
    refine hte i s' _ hi pf.pen fun x s2 hx pf2 => ?_
    refine ⟨by rw [List.length_map]; omega, xs ++ [x], by simp, by simp [hl], hi, fun y hy => ?_, pf.go' pf2 ?_⟩
    · rcases List.mem_append.mp hy with hy | hy
      · exact hP y hy
      · simp at hy
        rw [hy]
        exact hx
    · rw [Int.natCast_succ, Int.mul_add, Int.mul_one]
      omega
  · rintro l s' ⟨xs, rfl, hl, him, hP, pf⟩
    rw [intL_len] at hl pf
    exact he xs s' hl hP pf
theorem byL_snoc {T : Type} {ps : List Nat} {f g : Nat → T} {i : Nat} (h : ∀ j ∈ ps, f j = g j) : byL (ps ++ [i]) g = byL ps f ++ [(.inr (ch i), g i)] := by
  unfold byL
  rw [List.map_append]
  congr 1
  apply List.map_congr_left
  intro j hj
  rw [h j hj]
theorem byL_keys {T : Type} {ps : List Nat} {f : Nat → T} : (byL ps f).map (·.1) = ps.map fun i => (Sum.inr (ch i) : L2.Key) := by
  unfold byL
  rw [List.map_map]
  rfl
end
end G
set_option Elab.async false
set_option linter.all false
set_option maxRecDepth 100000
set_option maxHeartbeats 4000000
namespace G
open Mp Pl
open PySem (Str sizeLine)
local macro_rules | `(tactic| wtm_at "e") => `(tactic| first
  | with_reducible refine w_set ?_
  | with_reducible refine w_bin ?_
  | ((with_reducible refine w_v (d := ?dv) ?hv ?_); (case hv => exact rfl))
  | with_reducible refine w_c ?_
  | with_reducible refine w_cons ?_
  | with_reducible refine w_nil ?_
  | with_reducible refine w_arg ?_
  | with_reducible refine w_call ?_
  | with_reducible refine w_if ?_
  | with_reducible refine w_ret ?_
  | with_reducible refine w_skip ?_
  | with_reducible refine w_bl ?_
  | with_reducible refine w_tru ?_
  | with_reducible refine w_attr ?_
  | with_reducible refine w_meth ?_
  | with_reducible refine w_chain ?_
  | with_reducible refine w_and ?_
  | with_reducible refine w_or ?_
  | with_reducible refine w_not ?_
  | with_reducible refine w_notT ?_
  | with_reducible refine w_andT ?_
  | with_reducible refine w_orT ?_
  | with_reducible refine w_ifM ?_
  | with_reducible refine w_expr ?_
  | with_reducible refine w_un ?_
  | with_reducible refine w_par2 ?_
  | with_reducible refine w_par3 ?_
  | with_reducible refine w_asg ?_
  | with_reducible refine w_aug ?_
  | with_reducible refine w_sub ?_
  | with_reducible refine w_fld ?_
  | with_reducible refine w_raise ?_
  | with_reducible refine w_raise0 ?_
  | with_reducible refine w_try ?_
  | with_reducible refine w_make ?_
  | with_reducible refine w_tryAs ?_
  | with_reducible refine w_exn ?_
  | ((with_reducible refine o_isx (b := ?bv) ?h1 ?_); (case h1 => exact rfl))
  | with_reducible refine w_superS ?_
  | with_reducible refine w_super ?_
  | with_reducible refine w_star ?_
  | with_reducible refine w_for0 ?_
  | with_reducible refine w_lc0 ?_
  | with_reducible refine w_lc20 ?_
  | with_reducible refine w_seqJ ?_
  | with_reducible refine w_starC ?_
  | with_reducible refine w_spr ?_
  | with_reducible refine w_kwA ?_
  | with_reducible refine w_kwM ?_
  | with_reducible refine w_sprK ?_
  | with_reducible refine w_get ?_
  | with_reducible refine w_makeL ?_
  | with_reducible refine w_tryN ?_
  | ((with_reducible refine o_own0 ?hv ?_); (case hv => exact rfl))
  | ((with_reducible refine o_eqO0 ?hv ?_); (case hv => exact rfl))
  | with_reducible refine w_seqI ?_
  | with_reducible refine w_argI ?_
  | with_reducible refine w_opt ?_
  | with_reducible refine w_sli ?_
  | with_reducible refine w_pure ?_
  | with_reducible refine w_disp ?_
  | with_reducible refine w_pairs1 ?_
  | with_reducible refine w_pairs0 ?_
  | with_reducible refine w_retN ?_
  | with_reducible refine w_cnt ?_
  | with_reducible refine w_brk ?_
  | with_reducible refine o_addI ?_
  | with_reducible refine o_addI' ?_
  | with_reducible refine o_sub ?_
  | with_reducible refine o_lt ?_
  | with_reducible refine o_le ?_
  | with_reducible refine o_gt ?_
  | with_reducible refine o_ge ?_
  | with_reducible refine o_eqI ?_
  | with_reducible refine o_neI ?_
  | with_reducible refine o_eqS ?_
  | with_reducible refine o_neS ?_
  | with_reducible refine o_int ?_
  | with_reducible refine o_intB ?_
  | with_reducible refine o_neg ?_
  | with_reducible refine o_abs ?_
  | with_reducible refine o_newL ?_
  | with_reducible refine o_max2 ?_
  | with_reducible refine o_min2 ?_
  | with_reducible refine o_lenL ?_
  | with_reducible refine o_lenT ?_
  | ((with_reducible refine o_tup ?hv ?_); (case hv => first | exact Nat.le_of_ble_eq_true rfl | assumption))
  | ((with_reducible refine o_lst ?hv ?_); (case hv => first | exact Nat.le_of_ble_eq_true rfl | assumption))
  | ((with_reducible refine o_isi (t := ?tv) (b := ?bv) ?h1 ?h2 ?_); (case h1 => exact rfl); (case h2 => exact rfl))
  | ((with_reducible refine o_fld (C := ?cv) (fs := ?fv) (d := ?dv) ?h1 ?h2 ?h3 ?_); (case h1 => exact rfl); (case h2 => exact rfl); (case h3 => exact rfl))
  | ((with_reducible refine Exists.intro ?kv (And.intro ?ha ?_)); (case ha => exact rfl)))
local macro_rules | `(tactic| wtm_at "body") => `(tactic| (refine w_body rfl rfl ?_; dsimp only [List.length_cons, List.length_nil, List.drop, List.append_nil, List.map_cons, List.map_nil, List.map, List.cons_append, List.nil_append, Nat.reduceAdd, Nat.reduceSub, List.replicate]))
local macro_rules | `(tactic| wtm_at "meth") => `(tactic| refine ⟨_, _, _, rfl, rfl, rfl, ?_⟩)
local macro_rules | `(tactic| wtm_at "w") => `(tactic| first | with_reducible refine w_seq ?_ | wtm_at "e")
local macro_rules | `(tactic| wtm_at "s") => `(tactic| ((repeat wtm_at "e"); (with_reducible refine w_seq ?_)))
local macro_rules | `(tactic| wtm_at "f") => `(tactic| ((repeat wtm_at "e"); (with_reducible show FP _ _)))
/-! letters drawn and sorted; dicts of costs -/
abbrev chD (i : Nat) : D := .str (ch i)
section
open PySem (PyData)
theorem ch_ok {i : Nat} (h : i < 26) : PyData.strOk (ch i) = true := by
  have k : ((List.range 26).all fun i => PyData.strOk (ch i)) = true := by decide +kernel
  exact List.all_eq_true.mp k i (List.mem_range.mpr h)
theorem toPys_chs : ∀ l : List Nat, toPys (l.map chD) = some (l.map fun i => PyData.str (ch i))
  | [] => rfl
  | i :: l => by
    rw [List.map_cons, toPys, toPys_chs l]
    rfl
theorem lay_chs : ∀ {l : List Nat}, (∀ i ∈ l, i < 26) → PyData.canLayAll0 (l.map fun i => PyData.str (ch i)) = true
  | [], _ => rfl
  | i :: l, h => by
    rw [List.map_cons, PyData.canLayAll0, lay_chs fun j hj => h j (List.mem_cons_of_mem _ hj), PyData.canLay0, ch_ok (h i List.mem_cons_self)]
    rfl
theorem dep_chs : ∀ l : List Nat, PyData.depthAll (l.map fun i => PyData.str (ch i)) = 0
  | [] => rfl
  | i :: l => by
    rw [List.map_cons, PyData.depthAll, dep_chs l]
    rfl
theorem o_neNilL {c : Nat} {l : List Nat} {s : Sto} {Q : D → Sto → Prop} {E : XT} (hl : ∀ i ∈ l, i < 26) (hs : s[c]? = some (some (.lst (l.map chD)))) (h : Q (.bl (!l.isEmpty)) s) : RP Q E (neD (.cel c) (.lst []) s) := by
  have e : neD (.cel c) (.lst []) s = eqG0 true (.lst (l.map chD)) (.lst []) s := by
    show eqG true (.cel c) (.lst []) s = _
    unfold eqG
    dsimp only
    rw [hs]
  rw [e]
  have e1 : toPy (.lst (l.map chD)) = some (.list (l.map fun i => PyData.str (ch i))) := by
    rw [toPy, toPys_chs]
    rfl
  have e2 : toPy (.lst []) = some (.list []) := rfl
  have e0 : PySem.SeqAt.shaped (.list (l.map fun i => PyData.str (ch i))) = true := by
    unfold PySem.SeqAt.shaped
    rw [PyData.canLay0, lay_chs hl, PyData.depth, dep_chs]
    rfl
  unfold eqG0
  rw [e1, e2]
  dsimp only
  rw [if_pos (by rw [e0]; rfl)]
  have e3 : PyData.eqv (.list (l.map fun i => PyData.str (ch i))) (.list []) = l.isEmpty := by
    rw [PyData.eqv]
    cases l with
    | nil => rfl
    | cons i c => rfl
  show Q (.bl (if true = true then !PyData.eqv (.list (l.map fun i => PyData.str (ch i))) (.list []) else _)) s
  rw [e3]
  exact h
end
section
variable {n : Nat} {b : Int} {s B : Sto} {Q : D → Sto → Prop} {E : XT} {ps qs ws : List Nat}
theorem q_shuffledL {ns : List Nat} (hlt : ∀ i ∈ ns, i < 26) (p : Pen s n b) (hb : b + ns.length ≤ 1000000000) (hl : ns.length ≤ 1000) (h : ∀ (ms : List Nat) (c : Nat) s', ms.Perm ns → s'[c]? = some (some (.lst (ms.map chD))) → s.length ≤ c → PH n s s' (b + ns.length) → Q (.cel c) s') :
    RP Q E (m__law_shuffled [.cel n, .lst (ns.map chD)] s) := by
  have hz : sizeLine = 16777216 := by decide
  have hn := p.lt
  wtm_at "body"
  unfold b__law_shuffled
  wtm_at "s"
  repeat wtm_at "e"
  refine RP.of (a := .cel s.length) (s' := s ++ [some (.lst (ns.map chD))]) rfl ?_
  repeat wtm_at "e"
  refine o_lstC (by decide) ?_
  repeat wtm_at "e"
  refine ⟨_, _, rfl, ?_⟩
  wtm_at "s"
  have el : (s ++ [some (Ct.lst (ns.map chD))]).length = s.length + 1 := by simp
  refine w_while (fun m r s' => ∃ rest found : List Nat, r = [some (.cel n), some (.lst (ns.map chD)), some (.cel s.length), some (.cel (s.length + 1))] ∧ s'[s.length]? = some (some (.lst (rest.map chD))) ∧ s'[s.length + 1]? = some (some (.lst (found.map chD))) ∧ (found ++ rest).Perm ns ∧ rest.length = m ∧ PH n s s' (b + found.length)) ?_ ns.length _ _
    ⟨ns, [], by rw [el]; rfl, by rw [List.getElem?_append_left (by simp), List.getElem?_append_right (Nat.le_refl _)]; simp, by rw [List.getElem?_append_right (by rw [el]; exact Nat.le_refl _), el]; simp, .refl _, rfl, by simpa using ((PH.of p).app).app⟩
  rintro m r s' ⟨rest, found, rfl, h1, h2, hp, hm, ph⟩
  have hfl : found.length + rest.length = ns.length := by
    have := hp.length_eq
    rw [List.length_append] at this
    exact this
  repeat wtm_at "e"
  refine o_neNilL (fun i hi => hlt i (hp.mem_iff.mp (List.mem_append_right _ hi))) h1 ?_
  repeat wtm_at "e"
  refine ⟨fun hk => ?_, fun hk => ?_⟩
  · have h0 : 0 < rest.length := by
      cases rest with
      | nil => cases hk
      | cons a r => simp
    have t1 : isLstD s' (.cel (s.length + 1)) = true := by
      unfold isLstD lstOf lstX
      dsimp only
      rw [h2]
      rfl
    have t2 : isLstD s' (.cel s.length) = true := by
      unfold isLstD lstOf lstX
      dsimp only
      rw [h1]
      rfl
    repeat wtm_at "e"
    refine w_bm ?_
    repeat wtm_at "e"
    refine ⟨t1, ?_⟩
    repeat wtm_at "e"
    refine w_bm ?_
    repeat wtm_at "e"
    refine ⟨t2, ?_⟩
    repeat wtm_at "e"
    refine o_len (l := rest.map chD) (fun z => (by intro q; cases q)) (by show lstOf s' (.cel s.length) = _; unfold lstOf lstX; dsimp only; rw [h1]) ?_
    rw [List.length_map]
    repeat wtm_at "e"
    refine q_draw ph.pen (by omega) (by omega) (by omega) fun k s2 hk0 hk1 p2 f2 l2 => ?_
    have hlt : k.toNat < rest.length := by omega
    have g1 : s2[s.length]? = some (some (.lst (rest.map chD))) := by
      rw [f2.2 s.length (by have := (List.getElem?_eq_some_iff.mp h1).1; omega) (by omega)]
      exact h1
    have g2 : s2[s.length + 1]? = some (some (.lst (found.map chD))) := by
      rw [f2.2 (s.length + 1) (by have := (List.getElem?_eq_some_iff.mp h2).1; omega) (by omega)]
      exact h2
    repeat wtm_at "e"
    refine o_pop (k := k.toNat) (d := chD (rest[k.toNat])) g1 (by omega) (by rw [List.getElem?_map, List.getElem?_eq_getElem hlt]; rfl) (by rw [List.length_map]; omega) ?_
    repeat wtm_at "e"
    refine o_app (l := found.map chD) (by rw [List.getElem?_set_ne (by omega)]; exact g2) (by rw [List.length_map]; omega) ?_
    have ee : (rest.map chD).eraseIdx k.toNat = (rest.eraseIdx k.toNat).map chD := by
      rw [List.eraseIdx_eq_take_drop_succ, List.eraseIdx_eq_take_drop_succ, List.map_append, List.map_take, List.map_drop]
    have c1 : s.length < s2.length := (List.getElem?_eq_some_iff.mp g1).1
    have c2 : s.length + 1 < s2.length := (List.getElem?_eq_some_iff.mp g2).1
    refine ⟨rest.length - 1, by omega, rest.eraseIdx k.toNat, found ++ [rest[k.toNat]], rfl, ?_, ?_, ?_, ?_, ?_⟩
    · rw [List.getElem?_set_ne (by omega), List.getElem?_set_self c1, ee]
    · rw [List.getElem?_set_self (by rw [List.length_set]; exact c2), List.map_append]
      rfl
    · refine List.Perm.trans ?_ hp
      rw [List.append_assoc]
      exact List.Perm.append_left found (perm_erase rest k.toNat _ (List.getElem?_eq_getElem hlt))
    · rw [List.length_eraseIdx, if_pos hlt]
    · have q : PH n s s2 (b + found.length + 1) := ph.go ⟨p2, f2⟩ (Int.le_refl _)
      rw [List.length_append]
      exact ((q.set (Nat.le_refl _) hn).set (Nat.le_succ _) hn).mono (by simp; omega)
  · have h0 : rest = [] := by
      cases rest with
      | nil => rfl
      | cons a r => cases hk
    subst h0
    repeat wtm_at "e"
    rw [List.append_nil] at hp
    exact h found (s.length + 1) s' hp h2 (Nat.le_succ _) (ph.mono (by rw [hp.length_eq]; exact Int.le_refl _))
theorem leS_ch {i j : Nat} (h : i < j) : leS (ch i) (ch j) = true := by
  unfold leS
  rw [show decide ((ch j).cps.toList < (ch i).cps.toList) = false from decide_eq_false fun z => by
    have z : [97 + j] < [97 + i] := z
    rw [List.cons_lt_cons_iff] at z
    rcases z with z | ⟨z, _⟩ <;> omega]
  rfl
theorem sort_chs (hp : qs.Perm ps) (ha : ps.Pairwise (· < ·)) : (qs.map ch).mergeSort leS = ps.map ch := by
  refine (List.Perm.eq_of_pairwise (le := fun a b => leS a b = true) (fun x y _ _ h k => leS_anti x y h k) ?_ (List.pairwise_mergeSort leS_trans leS_total _) ((hp.symm.map ch).trans (List.mergeSort_perm _ leS).symm)).symm
  rw [List.pairwise_map]
  exact ha.imp fun h => leS_ch h
theorem keysS_byL (f : Nat → D) : ∀ qs : List Nat, keysS (byL qs f) = some (qs.map ch)
  | [] => rfl
  | q :: qs => by
    show (keysS (byL qs f)).map (fun l => ch q :: l) = _
    rw [keysS_byL f qs]
    rfl
theorem kS_byL (f : Nat → D) : ∀ qs : List Nat, kS (byL qs f) = some (qs.map fun i => (ch i, f i))
  | [] => rfl
  | q :: qs => by
    show (kS (byL qs f)).map (fun l => (ch q, f q) :: l) = _
    rw [kS_byL f qs]
    rfl
theorem kK_byL (f : Nat → D) (qs : List Nat) : KwX.kK (qs.map fun i => (ch i, f i)) = byL qs f := by
  unfold KwX.kK byL
  rw [List.map_map]
  rfl
theorem o_sortedK {x : D} {f : Nat → D} (h1 : dctOf s x = some (byL qs f)) (hp : qs.Perm ps) (lp : Lets ps) (h : Q (.lst (ps.map chD)) s) : RP Q E (sortedD [x] s) := by
  have h4 := lp.few
  unfold sortedD
  dsimp only
  rw [h1]
  dsimp only
  rw [keysS_byL]
  dsimp only
  rw [if_pos (by rw [List.length_map, hp.length_eq]; omega), sort_chs hp lp.asc, List.map_map]
  exact h
theorem q_is_letter {i : Nat} (hi : i < 26) (h : Q (.bl true) s) : RP Q E (m_is_letter [.str (ch i)] s) := by
  wtm_at "body"
  unfold b_is_letter
  repeat wtm_at "e"
  refine ⟨fun _ => ?_, fun z => (by cases z)⟩
  repeat wtm_at "e"
  refine o_lenS (by rw [show (ch i).length = 1 from rfl]; decide) ?_
  repeat wtm_at "e"
  refine ⟨fun _ => ?_, fun z => absurd z (by rw [show (ch i).length = 1 from rfl]; decide)⟩
  repeat wtm_at "e"
  refine o_inS ?_
  rw [inStr_abc hi]
  exact h
theorem q_is_between {i lo hi : Int} (h : Q (.bl (decide (lo ≤ i) && decide (i ≤ hi))) s) : RP Q E (m_is_between [.int i, .int lo, .int hi] s) := by
  wtm_at "body"
  unfold b_is_between
  repeat wtm_at "e"
  refine RP.of (a := .bl true) rfl ?_
  repeat wtm_at "e"
  refine ⟨fun _ => ?_, fun z => (by cases z)⟩
  repeat wtm_at "e"
  refine ⟨fun z => ?_, fun z => ?_⟩
  · repeat wtm_at "e"
    rw [z, Bool.true_and] at h
    exact h
  · rw [z, Bool.false_and] at h
    exact h
/-- an order while it is made -/
abbrev wkO (s : Sto) (fs : List (Str × D)) : Sto := s ++ [some (.ins "Order" fs)]
theorem wkO_at {fs : List (Str × D)} : (wkO s fs)[s.length]? = some (some (.ins "Order" fs)) := by simp [wkO]
theorem wkO_set {fs gs : List (Str × D)} : (wkO s fs).set s.length (some (.ins "Order" gs)) = wkO s gs := by simp [wkO]
/-- an order -/
def ordD (ps : List Nat) (c : Nat → Nat) : D := .ins "Order" [("own_letters", .str (LS ps)), ("own_costs", .dct (byL ps fun i => .int (c i : Nat)))]
/-- costs of letters -/
structure CostOk (ps : List Nat) (c : Nat → Nat) : Prop where
  lets : Lets ps
  pos : ∀ i ∈ ps, 1 ≤ c i
  few : ∀ i ∈ ps, c i ≤ 9
/-- one turn of the way: the object that is made -/
theorem q_initO {c : Nat → Nat} (C : CostOk ps c) (hp : qs.Perm ps) (h : Q (ordD ps c) (s ++ [none])) :
    RP (fun v s2 => v = .non ∧ RP Q E (freezeI false s.length s2)) E (m_Order___init__ [.cel s.length, .str (LS ps), .dct (byL qs fun i => .int (c i : Nat))] (s ++ [some (.ins "Order" [])])) := by
  have hz : sizeLine = 16777216 := by decide
  have lp := C.lets
  have h4 := lp.few
  have hnd : qs.Nodup := hp.nodup_iff.mpr lp.nodup
  have hlq := hp.length_eq
  unfold m_Order___init__ bodyK
  rw [show ([D.cel s.length, .str (LS ps), .dct (byL qs fun i => .int (c i : Nat))] : List D).getLast? = some (.dct (byL qs fun i => .int (c i : Nat))) from rfl]
  dsimp only
  rw [kS_byL]
  dsimp only
  rw [if_pos (by
    refine ⟨rfl, ?_, fun k hk => ?_, by rw [List.length_map]; omega⟩
    · rw [List.map_map]
      show (qs.map ch).Nodup
      exact List.pairwise_map.mpr (hnd.imp fun h z => h (ch_inj z))
    · rw [List.map_map] at hk
      obtain ⟨i, _, rfl⟩ := List.mem_map.mp hk
      intro z
      have e1 : (ch i).length = 1 := rfl
      simp only [List.mem_cons, List.not_mem_nil, or_false] at z
      rcases z with z | z
      · have := congrArg Str.length z
        rw [show ((fun x => x.1) ∘ fun i => (ch i, D.int (c i : Nat))) i = ch i from rfl, e1] at this
        exact absurd this (by decide)
      · have := congrArg Str.length z
        rw [show ((fun x => x.1) ∘ fun i => (ch i, D.int (c i : Nat))) i = ch i from rfl, e1] at this
        exact absurd this (by decide))]
  refine w_bodyX ?_
  show FP _ (b_Order___init__ [some (.cel s.length), some (.str (LS ps)), some (.dct (byL qs fun i => .int (c i : Nat))), none] (wkO s []))
  unfold b_Order___init__
  wtm_at "s"
  repeat wtm_at "e"
  refine q_are_letters lp ?_
  repeat wtm_at "e"
  refine ⟨fun z => (by cases z), fun _ => ?_⟩
  wtm_at "f"
  with_reducible refine w_mid (fun r s' => s' = wkO s [] ∧ ∃ x3 : Option D, r = [some (.cel s.length), some (.str (LS ps)), some (.dct (byL qs fun i => .int (c i : Nat))), x3]) ?_ ?_
  · repeat wtm_at "e"
    refine o_sortedK rfl hp lp ?_
    repeat wtm_at "e"
    refine w_for (fun i r s' => s' = wkO s [] ∧ ∃ x3 : Option D, r = [some (.cel s.length), some (.str (LS ps)), some (.dct (byL qs fun i => .int (c i : Nat))), x3]) rfl ⟨rfl, _, rfl⟩ ?_ ?_
    · rintro i d r s' hd ⟨rfl, x3, rfl⟩
      have hd : (ps.map chD)[i]? = some d := hd
      rw [List.getElem?_map] at hd
      cases ew : ps[i]? with
      | none => rw [ew] at hd; cases hd
      | some w =>
        rw [ew] at hd
        cases hd
        have hwm := List.mem_of_getElem? ew
        have c1 := C.pos w hwm
        have c2 := C.few w hwm
        refine ⟨_, rfl, ?_⟩
        repeat wtm_at "e"
        refine q_is_letter (lp.lt w hwm) ?_
        repeat wtm_at "e"
        refine ⟨fun _ => ?_, fun z => (by cases z)⟩
        repeat wtm_at "e"
        refine o_ninS ?_
        rw [inStr_LS, decide_eq_true hwm]
        repeat wtm_at "e"
        refine ⟨fun _ => ?_, fun z => (by cases z)⟩
        repeat wtm_at "e"
        refine o_idxD (n := 0) (m := byL qs fun i => D.int (c i : Nat)) rfl rfl (byL_get (hp.mem_iff.mpr hwm)) ?_
        repeat wtm_at "e"
        refine q_is_between ?_
        rw [decide_eq_true (show (1 : Int) ≤ (c w : Nat) by omega), decide_eq_true (show ((c w : Nat) : Int) ≤ 9 by omega)]
        repeat wtm_at "e"
        refine ⟨fun z => (by cases z), fun _ => ?_⟩
        repeat wtm_at "e"
        exact ⟨rfl, _, rfl⟩
    · rintro r s' ⟨rfl, x3, rfl⟩
      exact ⟨rfl, _, rfl⟩
  rintro r s' ⟨rfl, x3, rfl⟩
  wtm_at "s"
  repeat wtm_at "e"
  refine ⟨_, _, _, rfl, wkO_at, by decide, Nat.le_of_ble_eq_true rfl, ?_⟩
  rw [wkO_set]
  repeat wtm_at "e"
  refine w_dc0 ?_
  repeat wtm_at "e"
  rw [LS_chars]
  refine w_dcX (fun i => .str (ch i)) (fun i => .int (c i : Nat)) (fun i => .inr (ch i)) rfl ps [] (by simp; omega) (key_nodup lp.nodup) (fun _ _ z => by cases z) (fun i hi => ⟨_, .str (ch i), rfl, ?_, rfl, ?_⟩) ?_
  · repeat wtm_at "e"
    exact ⟨rfl, rfl⟩
  · repeat wtm_at "e"
    refine ⟨byL qs fun i => D.int (c i : Nat), .inr (ch i), rfl, rfl, ?_⟩
    rw [byL_get (hp.mem_iff.mpr hi)]
    exact ⟨rfl, rfl⟩
  · repeat wtm_at "e"
    refine ⟨_, _, _, rfl, wkO_at, by decide, Nat.le_of_ble_eq_true rfl, ?_⟩
    rw [wkO_set]
    refine ⟨rfl, w_freeze (C := "Order") wkO_at ?_⟩
    have e : ∀ fs, (wkO s fs).set s.length none = s ++ [none] := fun fs => by simp [wkO]
    rw [e]
    exact h
end
end G
set_option Elab.async false
set_option linter.all false
set_option maxRecDepth 100000
set_option maxHeartbeats 4000000
namespace G
open Mp Pl
open PySem (Str sizeLine)
local macro_rules | `(tactic| wtm_at "e") => `(tactic| first
  | with_reducible refine w_set ?_
  | with_reducible refine w_bin ?_
  | ((with_reducible refine w_v (d := ?dv) ?hv ?_); (case hv => exact rfl))
  | with_reducible refine w_c ?_
  | with_reducible refine w_cons ?_
  | with_reducible refine w_nil ?_
  | with_reducible refine w_arg ?_
  | with_reducible refine w_call ?_
  | with_reducible refine w_if ?_
  | with_reducible refine w_ret ?_
  | with_reducible refine w_skip ?_
  | with_reducible refine w_bl ?_
  | with_reducible refine w_tru ?_
  | with_reducible refine w_attr ?_
  | with_reducible refine w_meth ?_
  | with_reducible refine w_chain ?_
  | with_reducible refine w_and ?_
  | with_reducible refine w_or ?_
  | with_reducible refine w_not ?_
  | with_reducible refine w_notT ?_
  | with_reducible refine w_andT ?_
  | with_reducible refine w_orT ?_
  | with_reducible refine w_ifM ?_
  | with_reducible refine w_expr ?_
  | with_reducible refine w_un ?_
  | with_reducible refine w_par2 ?_
  | with_reducible refine w_par3 ?_
  | with_reducible refine w_asg ?_
  | with_reducible refine w_aug ?_
  | with_reducible refine w_sub ?_
  | with_reducible refine w_fld ?_
  | with_reducible refine w_raise ?_
  | with_reducible refine w_raise0 ?_
  | with_reducible refine w_try ?_
  | with_reducible refine w_make ?_
  | with_reducible refine w_tryAs ?_
  | with_reducible refine w_exn ?_
  | ((with_reducible refine o_isx (b := ?bv) ?h1 ?_); (case h1 => exact rfl))
  | with_reducible refine w_superS ?_
  | with_reducible refine w_super ?_
  | with_reducible refine w_star ?_
  | with_reducible refine w_for0 ?_
  | with_reducible refine w_lc0 ?_
  | with_reducible refine w_lc20 ?_
  | with_reducible refine w_seqJ ?_
  | with_reducible refine w_starC ?_
  | with_reducible refine w_spr ?_
  | with_reducible refine w_kwA ?_
  | with_reducible refine w_kwM ?_
  | with_reducible refine w_sprK ?_
  | with_reducible refine w_get ?_
  | with_reducible refine w_makeL ?_
  | with_reducible refine w_tryN ?_
  | ((with_reducible refine o_own0 ?hv ?_); (case hv => exact rfl))
  | ((with_reducible refine o_eqO0 ?hv ?_); (case hv => exact rfl))
  | with_reducible refine w_seqI ?_
  | with_reducible refine w_argI ?_
  | with_reducible refine w_opt ?_
  | with_reducible refine w_sli ?_
  | with_reducible refine w_pure ?_
  | with_reducible refine w_disp ?_
  | with_reducible refine w_pairs1 ?_
  | with_reducible refine w_pairs0 ?_
  | with_reducible refine w_retN ?_
  | with_reducible refine w_cnt ?_
  | with_reducible refine w_brk ?_
  | with_reducible refine o_addI ?_
  | with_reducible refine o_addI' ?_
  | with_reducible refine o_sub ?_
  | with_reducible refine o_lt ?_
  | with_reducible refine o_le ?_
  | with_reducible refine o_gt ?_
  | with_reducible refine o_ge ?_
  | with_reducible refine o_eqI ?_
  | with_reducible refine o_neI ?_
  | with_reducible refine o_eqS ?_
  | with_reducible refine o_neS ?_
  | with_reducible refine o_int ?_
  | with_reducible refine o_intB ?_
  | with_reducible refine o_neg ?_
  | with_reducible refine o_abs ?_
  | with_reducible refine o_newL ?_
  | with_reducible refine o_max2 ?_
  | with_reducible refine o_min2 ?_
  | with_reducible refine o_lenL ?_
  | with_reducible refine o_lenT ?_
  | ((with_reducible refine o_tup ?hv ?_); (case hv => first | exact Nat.le_of_ble_eq_true rfl | assumption))
  | ((with_reducible refine o_lst ?hv ?_); (case hv => first | exact Nat.le_of_ble_eq_true rfl | assumption))
  | ((with_reducible refine o_isi (t := ?tv) (b := ?bv) ?h1 ?h2 ?_); (case h1 => exact rfl); (case h2 => exact rfl))
  | ((with_reducible refine o_fld (C := ?cv) (fs := ?fv) (d := ?dv) ?h1 ?h2 ?h3 ?_); (case h1 => exact rfl); (case h2 => exact rfl); (case h3 => exact rfl))
  | ((with_reducible refine Exists.intro ?kv (And.intro ?ha ?_)); (case ha => exact rfl)))
local macro_rules | `(tactic| wtm_at "body") => `(tactic| (refine w_body rfl rfl ?_; dsimp only [List.length_cons, List.length_nil, List.drop, List.append_nil, List.map_cons, List.map_nil, List.map, List.cons_append, List.nil_append, Nat.reduceAdd, Nat.reduceSub, List.replicate]))
local macro_rules | `(tactic| wtm_at "meth") => `(tactic| refine ⟨_, _, _, rfl, rfl, rfl, ?_⟩)
local macro_rules | `(tactic| wtm_at "w") => `(tactic| first | with_reducible refine w_seq ?_ | wtm_at "e")
local macro_rules | `(tactic| wtm_at "s") => `(tactic| ((repeat wtm_at "e"); (with_reducible refine w_seq ?_)))
local macro_rules | `(tactic| wtm_at "f") => `(tactic| ((repeat wtm_at "e"); (with_reducible show FP _ _)))
/-! costs drawn; orders made of dicts; words counted -/
abbrev nD (n : Nat) : D := .int (n : Nat)
section
variable {n : Nat} {b : Int} {s B : Sto} {Q : D → Sto → Prop} {E : XT} {ps qs ws : List Nat} {c : Nat → Nat}
theorem zip_look {T : Type} : ∀ {ps us : List Nat} {F : Nat → Nat → T}, ps.Nodup → us.length = ps.length → ((ps.zip us).map fun p => F p.1 p.2) = ps.map fun i => F i (((ps.zip us).lookup i).getD 1)
  | [], _, _, _, _ => rfl
  | p :: ps, u :: us, F, hn, hl => by
    have hn := List.nodup_cons.mp hn
    rw [List.zip_cons_cons, List.map_cons, List.map_cons, List.lookup_cons_self]
    have ih := zip_look (F := F) hn.2 (show us.length = ps.length by simpa using hl)
    rw [ih]
    congr 1
    apply List.map_congr_left
    intro i hi
    rw [List.lookup_cons, show (i == p) = false from beq_eq_false_iff_ne.mpr fun z => hn.1 (z ▸ hi)]
theorem zip_look_mem : ∀ {ps us : List Nat} {i : Nat}, us.length = ps.length → i ∈ ps → ∃ u, (ps.zip us).lookup i = some u ∧ u ∈ us
  | [], _, _, _, h => by cases h
  | p :: ps, u :: us, i, hl, h => by
    rw [List.zip_cons_cons, List.lookup_cons]
    by_cases e : i = p
    · subst e
      exact ⟨u, by simp, List.mem_cons_self⟩
    · rw [show (i == p) = false by simpa using e]
      obtain ⟨v, h1, h2⟩ := zip_look_mem (ps := ps) (us := us) (i := i) (by simpa using hl) ((List.mem_cons.mp h).resolve_left e)
      exact ⟨v, h1, List.mem_cons_of_mem _ h2⟩
/-- a comprehension of draws over mapped items -/
theorem w_lcDX {T : Type} (xs : List T) (f : T → D) (em : T → Nat → D) (P : Nat → Prop) (k : Int) {g : DG} {te : DE} {r : En} {src : Src} {Q : List D → Sto → Prop} (hi : src.its = xs.map f) (hcel : src.cel = none) (p : Pen s n b) (hl : xs.length ≤ 1000000) (hk : 0 ≤ k)
    (hte : ∀ (i : Nat) (x : T) (s1 : Sto) (R : D → Sto → Prop), xs[i]? = some x → Pen s1 n (b + k * i) → (∀ (u : Nat) s2, P u → PF n s1 s2 (b + k * i + k) → R (em x u) s2) → ∃ p, g (f x) r s1 = some p ∧ p.2 = s1 ∧ RP R noX (te p.1 s1))
    (he : ∀ (us : List Nat) s', us.length = xs.length → (∀ u ∈ us, P u) → PF n s s' (b + k * xs.length) → Q ((xs.zip us).map fun p => em p.1 p.2) s') : RP Q E (lcF src g yesM te r src.its [] s) := by
  have hz : sizeLine = 16777216 := by decide
  refine w_lc (fun i l s' => ∃ us : List Nat, l = ((xs.take i).zip us).map (fun p => em p.1 p.2) ∧ us.length = i ∧ i ≤ xs.length ∧ (∀ u ∈ us, P u) ∧ PF n s s' (b + k * i)) hcel ⟨[], by simp, rfl, Nat.zero_le _, fun _ z => (by cases z), (PF.of p).mono (by simp)⟩ ?_ ?_
  · rintro i d l s' hd ⟨us, rfl, hul, him, hP, pf⟩
    rw [hi, List.getElem?_map] at hd
    cases ex : xs[i]? with
    | none => rw [ex] at hd; cases hd
    | some x =>
      rw [ex] at hd
      cases hd
      have hil := (List.getElem?_eq_some_iff.mp ex).1
      obtain ⟨pp, h1, h2, h3⟩ := hte i x s' (fun y s2 => (((xs.take i).zip us).map fun p => em p.1 p.2).length < sizeLine ∧ ∃ us' : List Nat, (((xs.take i).zip us).map fun p => em p.1 p.2) ++ [y] = ((xs.take (i + 1)).zip us').map (fun p => em p.1 p.2) ∧ us'.length = i + 1 ∧ i + 1 ≤ xs.length ∧ (∀ u ∈ us', P u) ∧ PF n s s2 (b + k * ((i + 1 : Nat) : Int))) ex pf.pen (fun u s2 hu pf2 => by
        refine ⟨by rw [List.length_map, List.length_zip, List.length_take]; omega, us ++ [u], ?_, by simp [hul], hil, fun v hv => ?_, pf.go' pf2 (by rw [Int.natCast_succ, Int.mul_add, Int.mul_one]; omega)⟩
        · rw [List.take_add_one, ex]
          show _ = ((xs.take i ++ [x]).zip (us ++ [u])).map _
          rw [List.zip_append (by rw [List.length_take]; omega), List.map_append]
          rfl
        · rcases List.mem_append.mp hv with hv | hv
          · exact hP v hv
          · rw [List.mem_singleton.mp hv]; exact hu)
      refine ⟨pp, h1, ?_⟩
      rw [h2]
      exact ⟨fun _ => h3, fun z => (by cases z)⟩
  · rintro l s' ⟨us, rfl, hul, him, hP, pf⟩
    have e : src.its.length = xs.length := by rw [hi, List.length_map]
    rw [e] at hul pf
    rw [e, List.take_length]
    exact he us s' hul hP pf
theorem q_costs (lp : Lets ps) (p : Pen s n b) (hb : b + 4 ≤ 1000000000) (h : ∀ (c : Nat → Nat) s', CostOk ps c → PF n s s' (b + 4) → Q (.dct (byL ps fun i => nD (c i))) s') : RP Q E (m__law_costs [.cel n, .str (LS ps)] s) := by
  have hz : sizeLine = 16777216 := by decide
  have h4 := lp.few
  wtm_at "body"
  unfold b__law_costs
  repeat wtm_at "e"
  rw [LS_chars]
  refine w_lcDX (src := ⟨ps.map fun i => .str (ch i), none⟩) ps chD (fun i u => .tup [.str (ch i), nD u]) (fun u => 1 ≤ u ∧ u ≤ 9) 1 rfl rfl p (by omega) (by decide) (fun i x s1 R hx p1 hR => ⟨_, rfl, rfl, ?_⟩) fun us s' hul hus pf => ?_
  · repeat wtm_at "e"
    refine q_pick p1 (by have := (List.getElem?_eq_some_iff.mp hx).1; omega) (by show 0 < 7; decide) (by show 7 < 1000000; decide) fun d s2 hd p2 f2 l2 => ?_
    obtain ⟨u, rfl, hu⟩ : ∃ u : Nat, d = nD u ∧ 1 ≤ u ∧ u ≤ 9 := by
      simp only [List.mem_cons, List.not_mem_nil, or_false] at hd
      rcases hd with rfl | rfl | rfl | rfl | rfl | rfl | rfl
      · exact ⟨1, rfl, by decide⟩
      · exact ⟨1, rfl, by decide⟩
      · exact ⟨1, rfl, by decide⟩
      · exact ⟨2, rfl, by decide⟩
      · exact ⟨2, rfl, by decide⟩
      · exact ⟨3, rfl, by decide⟩
      · exact ⟨9, rfl, by decide⟩
    repeat wtm_at "e"
    exact hR u s2 hu ⟨p2, f2, l2⟩
  · repeat wtm_at "e"
    rw [zip_look (F := fun i u => D.tup [.str (ch i), nD u]) lp.nodup hul]
    refine o_dictP ps (fun i => .inr (ch i)) (fun i => nD (((ps.zip us).lookup i).getD 1)) rfl rfl (key_nodup lp.nodup) ?_
    refine h (fun i => ((ps.zip us).lookup i).getD 1) s' ⟨lp, fun i hi => ?_, fun i hi => ?_⟩ (pf.mono (by omega))
    · obtain ⟨u, e, hu⟩ := zip_look_mem hul hi
      rw [e]
      exact (hus u hu).1
    · obtain ⟨u, e, hu⟩ := zip_look_mem hul hi
      rw [e]
      exact (hus u hu).2
/-- a word of letters, as a text of the keys that are sorted -/
theorem join_chs (ps : List Nat) (h : ps.length ≤ 1000) {x : D} (hx : lstOf s x = some (ps.map chD)) (hq : Q (.str (LS ps)) s) : RP Q E (joinD (.str "") [x] s) := by
  have e3 : (ps.map chD) = (ps.map ch).map .str := by rw [List.map_map]; rfl
  rw [e3] at hx
  refine o_join (ys := ps.map ch) hx (by rw [LS_joinlen, List.length_map]; show ps.length + ps.length * 0 ≤ 16777216; omega) ?_
  rw [LS_join]
  exact hq
theorem q_of_costs (C : CostOk ps c) (hp : qs.Perm ps) (h : Q (ordD ps c) (s ++ [none])) : RP Q E (m_Order_of_costs [.glo "Order", .dct (byL qs fun i => nD (c i))] s) := by
  have hz : sizeLine = 16777216 := by decide
  have lp := C.lets
  have h4 := lp.few
  have hlq := hp.length_eq
  wtm_at "body"
  unfold b_Order_of_costs
  wtm_at "f"
  with_reducible refine w_mid (fun r s' => s' = s ∧ r = [some (.glo "Order"), some (.dct (byL qs fun i => nD (c i))), none, none]) ?_ ?_
  · repeat wtm_at "e"
    repeat wtm_at "e"
    refine ⟨fun _ => ?_, fun z => (by cases z)⟩
    repeat wtm_at "e"
    refine w_lcX qs chD (fun _ => D.bl true) (by show (byL qs fun i => nD (c i)).map (fun p => keyV p.1) = _; unfold byL; rw [List.map_map]; rfl) rfl (by omega) (fun i hi => ⟨_, rfl, ?_⟩) ?_
    · repeat wtm_at "e"
      exact q_is_letter (lp.lt i (hp.mem_iff.mp hi)) ⟨rfl, rfl⟩
    · repeat wtm_at "e"
      refine o_allX (l := qs) (f := fun _ => true) ?_
      rw [all_true _ _ fun _ _ => rfl]
      repeat wtm_at "e"
      refine ⟨fun z => (by cases z), fun _ => ?_⟩
      repeat wtm_at "e"
      exact ⟨rfl, rfl⟩
  rintro r s' ⟨rfl, rfl⟩
  wtm_at "s"
  repeat wtm_at "e"
  refine w_bm ?_
  repeat wtm_at "e"
  refine ⟨rfl, ?_⟩
  repeat wtm_at "e"
  refine o_sortedK rfl hp lp ?_
  repeat wtm_at "e"
  refine join_chs ps (by omega) rfl ?_
  wtm_at "s"
  repeat wtm_at "e"
  refine q_are_letters lp ?_
  repeat wtm_at "e"
  refine ⟨fun z => (by cases z), fun _ => ?_⟩
  repeat wtm_at "e"
  refine ⟨rfl, ?_⟩
  repeat wtm_at "e"
  refine ⟨byL qs fun i => nD (c i), _, rfl, kS_byL _ qs, ?_⟩
  repeat wtm_at "e"
  rw [kK_byL]
  exact q_initO C hp h
theorem q_made_order (C : CostOk ps c) (p : Pen s n b) (hb : b + 10 ≤ 1000000000) (h : ∀ s', PH n s s' (b + 4) → Q (ordD ps c) s') : RP Q E (m__law_made_order [.cel n, .dct (byL ps fun i => nD (c i))] s) := by
  have hz : sizeLine = 16777216 := by decide
  have lp := C.lets
  have h4 := lp.few
  have hn := p.lt
  wtm_at "body"
  unfold b__law_made_order
  repeat wtm_at "e"
  refine o_listK (m := byL ps fun i => nD (c i)) rfl ?_
  repeat wtm_at "e"
  rw [show ((byL ps fun i => nD (c i)).map fun p => keyV p.1) = ps.map chD by unfold byL; rw [List.map_map]; rfl]
  refine q_shuffledL lp.lt p (by omega) (by omega) fun ms k s1 hp hc hkl ph => ?_
  repeat wtm_at "e"
  have hsrc : srcD s1 (.cel k) = some ⟨ms.map chD, some k⟩ := by
    unfold srcD
    dsimp only
    rw [hc]
  refine ⟨_, hsrc, ?_⟩
  have hml := hp.length_eq
  refine lcF_inv (c := ⟨ms.map chD, some k⟩) (fun i l s' => s' = s1 ∧ l = (ms.take i).map fun i => D.tup [.str (ch i), nD (c i)]) (fun i l s' ⟨e, _⟩ => by unfold SrcOk; dsimp only; rw [e]; exact hc) ?_ ?_ (ms.map chD) 0 [] s1 (Nat.zero_le _) rfl ⟨rfl, rfl⟩
  · rintro i d l s' hd ⟨rfl, rfl⟩
    have hd : (ms.map chD)[i]? = some d := hd
    rw [List.getElem?_map] at hd
    cases ew : ms[i]? with
    | none => rw [ew] at hd; cases hd
    | some w =>
      rw [ew] at hd
      cases hd
      have hwm := hp.mem_iff.mp (List.mem_of_getElem? ew)
      refine ⟨_, rfl, fun _ => ?_, fun z => (by cases z)⟩
      repeat wtm_at "e"
      refine o_idxD (n := 0) (m := byL ps fun i => nD (c i)) rfl rfl (byL_get hwm) ?_
      repeat wtm_at "e"
      refine ⟨by rw [List.length_map, List.length_take]; omega, rfl, ?_⟩
      rw [List.take_add_one, ew]
      simp
  · rintro l s' ⟨rfl, rfl⟩
    repeat wtm_at "e"
    rw [show (ms.map chD).length = ms.length from List.length_map .., List.take_length]
    refine o_dictP ms (fun i => .inr (ch i)) (fun i => nD (c i)) rfl rfl (key_nodup (hp.nodup_iff.mpr lp.nodup)) ?_
    repeat wtm_at "e"
    exact q_of_costs C hp (h _ ((ph.app (o := none)).mono (by omega)))
end
/-! counts -/
def nextN (ps : List Nat) (c : Nat → Nat) (l : List Nat) : Nat := if l.length = 0 then 1 else ((ps.filter fun i => decide (c i ≤ l.length)).map fun i => l.getD (l.length - c i) 0).sum
def cnts (ps : List Nat) (c : Nat → Nat) : Nat → List Nat
  | 0 => []
  | n + 1 => cnts ps c n ++ [nextN ps c (cnts ps c n)]
def cnt (ps : List Nat) (c : Nat → Nat) (k : Nat) : Nat := nextN ps c (cnts ps c k)
section
variable {ps : List Nat} {c : Nat → Nat}
theorem cnts_len : ∀ n, (cnts ps c n).length = n
  | 0 => rfl
  | n + 1 => by
    show (cnts ps c n ++ [_]).length = _
    rw [List.length_append, cnts_len n]
    rfl
theorem cnts_get : ∀ {n j : Nat}, j < n → (cnts ps c n)[j]? = some (cnt ps c j)
  | 0, j, h => by omega
  | n + 1, j, h => by
    show (cnts ps c n ++ [cnt ps c n])[j]? = _
    by_cases e : j < n
    · rw [List.getElem?_append_left (by rw [cnts_len]; exact e), cnts_get e]
    · have : j = n := by omega
      subst this
      rw [List.getElem?_append_right (by rw [cnts_len]; exact Nat.le_refl _), cnts_len, Nat.sub_self]
      rfl
theorem cnt_rec {k : Nat} (hk : 0 < k) (hc : ∀ i ∈ ps, 1 ≤ c i) : cnt ps c k = ((ps.filter fun i => decide (c i ≤ k)).map fun i => cnt ps c (k - c i)).sum := by
  unfold cnt nextN
  rw [cnts_len, if_neg (by omega)]
  congr 1
  apply List.map_congr_left
  intro i hi
  obtain ⟨h1, h2⟩ := List.mem_filter.mp hi
  have h2 := of_decide_eq_true h2
  have h3 := hc i h1
  rw [List.getD_eq_getElem?_getD, cnts_get (by omega)]
  rfl
end
section
variable {n : Nat} {b : Int} {s B : Sto} {Q : D → Sto → Prop} {E : XT} {ps qs ws : List Nat} {c : Nat → Nat}
theorem sum_cast : ∀ l : List Nat, (l.map fun n : Nat => ((n : Nat) : Int)).sum = ((l.sum : Nat) : Int)
  | [] => rfl
  | x :: l => by
    rw [List.map_cons, List.sum_cons, List.sum_cons, sum_cast l, Int.natCast_add]
theorem o_sumN {l : List Nat} (h : Q (nD l.sum) s) : RP Q E (sumD [.lst (l.map nD)] s) := by
  have e : (l.map nD) = (l.map fun n : Nat => ((n : Nat) : Int)).map .int := by rw [List.map_map]; rfl
  rw [e]
  unfold sumD
  dsimp only
  rw [show lstOf s (.lst ((l.map fun n : Nat => ((n : Nat) : Int)).map .int)) = some ((l.map fun n : Nat => ((n : Nat) : Int)).map .int) from rfl]
  have e2 := intsOf_map (fun z : Int => z) (l.map fun n : Nat => ((n : Nat) : Int))
  rw [List.map_id'] at e2
  rw [show (some ((l.map fun n : Nat => ((n : Nat) : Int)).map D.int)).bind intsOf = some (l.map fun n : Nat => ((n : Nat) : Int)) from e2]
  show RP Q E (.ok (.int (l.map fun n : Nat => ((n : Nat) : Int)).sum) s)
  rw [sum_cast]
  exact h
theorem cel_lst {k : Nat} {l : List D} (hs : s[k]? = some (some (.lst l))) : lstOf s (.cel k) = some l := by
  unfold lstOf lstX
  dsimp only
  rw [hs]
theorem cel_isL {k : Nat} {l : List D} (hs : s[k]? = some (some (.lst l))) : isLstD s (.cel k) = true := by
  unfold isLstD
  rw [cel_lst hs]
  rfl
theorem q_count_next (lp : Lets ps) (hc : ∀ i ∈ ps, 1 ≤ c i) {k m : Nat} (hs : s[k]? = some (some (.lst ((cnts ps c m).map nD)))) (h : Q (nD (cnt ps c m)) s) : RP Q E (m_Order_count_next [ordD ps c, .cel k] s) := by
  have hz : sizeLine = 16777216 := by decide
  have h4 := lp.few
  have hl := cnts_len (ps := ps) (c := c) m
  wtm_at "body"
  unfold b_Order_count_next ordD
  wtm_at "s"
  repeat wtm_at "e"
  refine o_lenC hs ?_
  rw [List.length_map, hl]
  wtm_at "f"
  with_reducible refine w_mid (fun r s' => s' = s ∧ 0 < m ∧ r = [some (ordD ps c), some (.cel k), some (nD m), none]) ?_ ?_
  · repeat wtm_at "e"
    refine ⟨fun z => ?_, fun z => ?_⟩
    · have z := of_decide_eq_true z
      have hm : m = 0 := by omega
      subst hm
      repeat wtm_at "e"
      exact h
    · have z := of_decide_eq_false z
      repeat wtm_at "e"
      exact ⟨rfl, by omega, rfl⟩
  rintro r s' ⟨rfl, hm, rfl⟩
  unfold ordD
  repeat wtm_at "e"
  refine w_valuesI ?_
  repeat wtm_at "e"
  refine ⟨byL ps fun i => nD (c i), s', rfl, ?_⟩
  refine w_lcY ps (fun i => nD (c i)) (fun i => nD (cnt ps c (m - c i))) (fun i => decide (c i ≤ m)) (by show (byL ps fun i => nD (c i)).map _ = _; unfold byL; rw [List.map_map]; rfl) rfl (by omega) (fun i hi => ⟨_, rfl, ?_, fun hC => ?_⟩) ?_
  · repeat wtm_at "e"
    exact ⟨rfl, by apply decide_eq_decide.mpr; omega⟩
  · have hC := of_decide_eq_true hC
    have h1 := hc i hi
    repeat wtm_at "e"
    refine o_idxC (k := m - c i) hs (by omega) (by rw [List.getElem?_map, cnts_get (by omega)]; rfl) ?_
    exact ⟨rfl, rfl⟩
  · repeat wtm_at "e"
    have e : ((ps.filter fun i => decide (c i ≤ m)).map fun i => nD (cnt ps c (m - c i))) = ((ps.filter fun i => decide (c i ≤ m)).map fun i => cnt ps c (m - c i)).map nD := by rw [List.map_map]; rfl
    rw [e]
    refine o_sumN ?_
    rw [← cnt_rec hm hc]
    exact h
theorem q_counts_to (lp : Lets ps) (hc : ∀ i ∈ ps, 1 ≤ c i) {k : Nat} (hk : k ≤ 100000) (h : Q (.cel s.length) (s ++ [some (.lst ((cnts ps c (k + 1)).map nD))])) : RP Q E (m_Order_counts_to [ordD ps c, nD k] s) := by
  have hz : sizeLine = 16777216 := by decide
  wtm_at "body"
  unfold b_Order_counts_to
  wtm_at "s"
  repeat wtm_at "e"
  refine o_lstC (by decide) ?_
  wtm_at "f"
  with_reducible refine w_mid (fun r s' => s' = s ++ [some (.lst ((cnts ps c (k + 1)).map nD))] ∧ r = [some (ordD ps c), some (nD k), some (.cel s.length)]) ?_ ?_
  · refine w_while (fun m r s' => ∃ j, j + m = k + 1 ∧ s' = s ++ [some (.lst ((cnts ps c j).map nD))] ∧ r = [some (ordD ps c), some (nD k), some (.cel s.length)]) ?_ (k + 1) _ _ ⟨0, by omega, rfl, rfl⟩
    rintro m r s' ⟨j, hj, rfl, rfl⟩
    have hs : (s ++ [some (Ct.lst ((cnts ps c j).map nD))])[s.length]? = some (some (.lst ((cnts ps c j).map nD))) := by simp
    repeat wtm_at "e"
    refine o_lenC hs ?_
    rw [List.length_map, cnts_len]
    repeat wtm_at "e"
    refine ⟨fun z => ?_, fun z => ?_⟩
    · have z := of_decide_eq_true z
      repeat wtm_at "e"
      refine w_bm ?_
      repeat wtm_at "e"
      refine ⟨cel_isL hs, ?_⟩
      repeat wtm_at "e"
      refine ⟨_, _, _, rfl, rfl, rfl, ?_⟩
      repeat wtm_at "e"
      refine q_count_next lp hc hs ?_
      repeat wtm_at "e"
      refine o_app hs (by rw [List.length_map, cnts_len]; omega) ?_
      refine ⟨m - 1, by omega, j + 1, by omega, ?_, rfl⟩
      rw [List.set_append_right _ _ (Nat.le_refl _), Nat.sub_self, List.set_cons_zero]
      show _ = s ++ [some (Ct.lst ((cnts ps c j ++ [cnt ps c j]).map nD))]
      rw [List.map_append]
      rfl
    · have z := of_decide_eq_false z
      have hjk : j = k + 1 := by omega
      subst hjk
      exact ⟨rfl, rfl⟩
  rintro r s' ⟨rfl, rfl⟩
  repeat wtm_at "e"
  exact h
/-- the cost of a word -/
def costN (c : Nat → Nat) (ws : List Nat) : Nat := (ws.map c).sum
end
end G
set_option Elab.async false
set_option linter.all false
set_option maxRecDepth 100000
set_option maxHeartbeats 4000000
namespace G
open Mp Pl
open PySem (Str sizeLine)
local macro_rules | `(tactic| wtm_at "e") => `(tactic| first
  | with_reducible refine w_set ?_
  | with_reducible refine w_bin ?_
  | ((with_reducible refine w_v (d := ?dv) ?hv ?_); (case hv => exact rfl))
  | with_reducible refine w_c ?_
  | with_reducible refine w_cons ?_
  | with_reducible refine w_nil ?_
  | with_reducible refine w_arg ?_
  | with_reducible refine w_call ?_
  | with_reducible refine w_if ?_
  | with_reducible refine w_ret ?_
  | with_reducible refine w_skip ?_
  | with_reducible refine w_bl ?_
  | with_reducible refine w_tru ?_
  | with_reducible refine w_attr ?_
  | with_reducible refine w_meth ?_
  | with_reducible refine w_chain ?_
  | with_reducible refine w_and ?_
  | with_reducible refine w_or ?_
  | with_reducible refine w_not ?_
  | with_reducible refine w_notT ?_
  | with_reducible refine w_andT ?_
  | with_reducible refine w_orT ?_
  | with_reducible refine w_ifM ?_
  | with_reducible refine w_expr ?_
  | with_reducible refine w_un ?_
  | with_reducible refine w_par2 ?_
  | with_reducible refine w_par3 ?_
  | with_reducible refine w_asg ?_
  | with_reducible refine w_aug ?_
  | with_reducible refine w_sub ?_
  | with_reducible refine w_fld ?_
  | with_reducible refine w_raise ?_
  | with_reducible refine w_raise0 ?_
  | with_reducible refine w_try ?_
  | with_reducible refine w_make ?_
  | with_reducible refine w_tryAs ?_
  | with_reducible refine w_exn ?_
  | ((with_reducible refine o_isx (b := ?bv) ?h1 ?_); (case h1 => exact rfl))
  | with_reducible refine w_superS ?_
  | with_reducible refine w_super ?_
  | with_reducible refine w_star ?_
  | with_reducible refine w_for0 ?_
  | with_reducible refine w_lc0 ?_
  | with_reducible refine w_lc20 ?_
  | with_reducible refine w_seqJ ?_
  | with_reducible refine w_starC ?_
  | with_reducible refine w_spr ?_
  | with_reducible refine w_kwA ?_
  | with_reducible refine w_kwM ?_
  | with_reducible refine w_sprK ?_
  | with_reducible refine w_get ?_
  | with_reducible refine w_makeL ?_
  | with_reducible refine w_tryN ?_
  | ((with_reducible refine o_own0 ?hv ?_); (case hv => exact rfl))
  | ((with_reducible refine o_eqO0 ?hv ?_); (case hv => exact rfl))
  | with_reducible refine w_seqI ?_
  | with_reducible refine w_argI ?_
  | with_reducible refine w_opt ?_
  | with_reducible refine w_sli ?_
  | with_reducible refine w_pure ?_
  | with_reducible refine w_disp ?_
  | with_reducible refine w_pairs1 ?_
  | with_reducible refine w_pairs0 ?_
  | with_reducible refine w_retN ?_
  | with_reducible refine w_cnt ?_
  | with_reducible refine w_brk ?_
  | with_reducible refine o_addI ?_
  | with_reducible refine o_addI' ?_
  | with_reducible refine o_sub ?_
  | with_reducible refine o_lt ?_
  | with_reducible refine o_le ?_
  | with_reducible refine o_gt ?_
  | with_reducible refine o_ge ?_
  | with_reducible refine o_eqI ?_
  | with_reducible refine o_neI ?_
  | with_reducible refine o_eqS ?_
  | with_reducible refine o_neS ?_
  | with_reducible refine o_int ?_
  | with_reducible refine o_intB ?_
  | with_reducible refine o_neg ?_
  | with_reducible refine o_abs ?_
  | with_reducible refine o_newL ?_
  | with_reducible refine o_max2 ?_
  | with_reducible refine o_min2 ?_
  | with_reducible refine o_lenL ?_
  | with_reducible refine o_lenT ?_
  | ((with_reducible refine o_tup ?hv ?_); (case hv => first | exact Nat.le_of_ble_eq_true rfl | assumption))
  | ((with_reducible refine o_lst ?hv ?_); (case hv => first | exact Nat.le_of_ble_eq_true rfl | assumption))
  | ((with_reducible refine o_isi (t := ?tv) (b := ?bv) ?h1 ?h2 ?_); (case h1 => exact rfl); (case h2 => exact rfl))
  | ((with_reducible refine o_fld (C := ?cv) (fs := ?fv) (d := ?dv) ?h1 ?h2 ?h3 ?_); (case h1 => exact rfl); (case h2 => exact rfl); (case h3 => exact rfl))
  | ((with_reducible refine Exists.intro ?kv (And.intro ?ha ?_)); (case ha => exact rfl)))
local macro_rules | `(tactic| wtm_at "body") => `(tactic| (refine w_body rfl rfl ?_; dsimp only [List.length_cons, List.length_nil, List.drop, List.append_nil, List.map_cons, List.map_nil, List.map, List.cons_append, List.nil_append, Nat.reduceAdd, Nat.reduceSub, List.replicate]))
local macro_rules | `(tactic| wtm_at "meth") => `(tactic| refine ⟨_, _, _, rfl, rfl, rfl, ?_⟩)
local macro_rules | `(tactic| wtm_at "w") => `(tactic| first | with_reducible refine w_seq ?_ | wtm_at "e")
local macro_rules | `(tactic| wtm_at "s") => `(tactic| ((repeat wtm_at "e"); (with_reducible refine w_seq ?_)))
local macro_rules | `(tactic| wtm_at "f") => `(tactic| ((repeat wtm_at "e"); (with_reducible show FP _ _)))
/-! the words by their costs -/
def leW (a b : List Nat) : Bool := leS (LS a) (LS b)
def blkW (c : Nat → Nat) (l : List (List (List Nat))) (i : Nat) : List (List Nat) := if c i ≤ l.length then (l.getD (l.length - c i) []).map (i :: ·) else []
def preW (c : Nat → Nat) (l : List (List (List Nat))) (qs : List Nat) : List (List Nat) := (if l.length = 0 then [[]] else []) ++ qs.flatMap (blkW c l)
def nextW (ps : List Nat) (c : Nat → Nat) (l : List (List (List Nat))) : List (List Nat) := (preW c l ps).mergeSort leW
def wtab (ps : List Nat) (c : Nat → Nat) : Nat → List (List (List Nat))
  | 0 => []
  | n + 1 => wtab ps c n ++ [nextW ps c (wtab ps c n)]
def wds (ps : List Nat) (c : Nat → Nat) (k : Nat) : List (List Nat) := nextW ps c (wtab ps c k)
/-- all of the first costs -/
def allW (ps : List Nat) (c : Nat → Nat) (k : Nat) : List (List Nat) := (List.range k).flatMap (wds ps c)
section
variable {ps : List Nat} {c : Nat → Nat}
theorem wtab_len : ∀ n, (wtab ps c n).length = n
  | 0 => rfl
  | n + 1 => by
    show (wtab ps c n ++ [_]).length = _
    rw [List.length_append, wtab_len n]
    rfl
theorem wtab_get : ∀ {n j : Nat}, j < n → (wtab ps c n)[j]? = some (wds ps c j)
  | 0, j, h => by omega
  | n + 1, j, h => by
    show (wtab ps c n ++ [wds ps c n])[j]? = _
    by_cases e : j < n
    · rw [List.getElem?_append_left (by rw [wtab_len]; exact e), wtab_get e]
    · have : j = n := by omega
      subst this
      rw [List.getElem?_append_right (by rw [wtab_len]; exact Nat.le_refl _), wtab_len, Nat.sub_self]
      rfl
theorem blkW_eq {k i : Nat} (h : 1 ≤ c i) : blkW c (wtab ps c k) i = if c i ≤ k then (wds ps c (k - c i)).map (i :: ·) else [] := by
  unfold blkW
  rw [wtab_len]
  by_cases e : c i ≤ k
  · rw [if_pos e, if_pos e, List.getD_eq_getElem?_getD, wtab_get (by omega)]
    rfl
  · rw [if_neg e, if_neg e]
theorem sum_filter (f : Nat → Nat) (p : Nat → Bool) : ∀ l : List Nat, ((l.filter p).map f).sum = (l.map fun i => if p i = true then f i else 0).sum
  | [] => rfl
  | i :: l => by
    rw [List.map_cons, List.sum_cons, List.filter_cons, ← sum_filter f p l]
    by_cases e : p i = true
    · rw [if_pos e, if_pos e, List.map_cons, List.sum_cons]
    · rw [if_neg e, if_neg e, Nat.zero_add]
theorem wds_len (hc : ∀ i ∈ ps, 1 ≤ c i) : ∀ k, (wds ps c k).length = cnt ps c k := by
  intro k
  induction k using Nat.strongRecOn with
  | _ k ih =>
  unfold wds nextW preW
  rw [List.length_mergeSort, wtab_len, List.length_append, List.length_flatMap]
  have e : (ps.map fun i => (blkW c (wtab ps c k) i).length) = ps.map fun i => if decide (c i ≤ k) = true then cnt ps c (k - c i) else 0 := by
    apply List.map_congr_left
    intro i hi
    have h1 := hc i hi
    rw [blkW_eq h1]
    by_cases e : c i ≤ k
    · rw [if_pos e, if_pos (decide_eq_true e), List.length_map, ih _ (by omega)]
    · rw [if_neg e, if_neg (by rw [decide_eq_true_eq]; exact e)]
      rfl
  rw [e, ← sum_filter (fun i => cnt ps c (k - c i)) fun i => decide (c i ≤ k)]
  by_cases hk : k = 0
  · subst hk
    rw [if_pos rfl, show (ps.filter fun i => decide (c i ≤ 0)) = [] from List.filter_eq_nil_iff.mpr fun i hi => by
      have := hc i hi
      rw [decide_eq_true_eq]
      omega]
    rfl
  · rw [if_neg hk, ← cnt_rec (by omega) hc]
    exact Nat.zero_add _
theorem costN_cons (i : Nat) (w : List Nat) : costN c (i :: w) = c i + costN c w := by
  unfold costN
  rw [List.map_cons, List.sum_cons]
theorem pre_mem (hc : ∀ i ∈ ps, 1 ≤ c i) {qs : List Nat} (hq : ∀ i ∈ qs, i ∈ ps) {k : Nat} (ih : ∀ j, j < k → ∀ w ∈ wds ps c j, (∀ i ∈ w, i ∈ ps) ∧ costN c w = j) {w : List Nat} (h : w ∈ preW c (wtab ps c k) qs) : (∀ i ∈ w, i ∈ ps) ∧ costN c w = k := by
  unfold preW at h
  rw [wtab_len] at h
  rcases List.mem_append.mp h with h | h
  · by_cases e : k = 0
    · subst e
      rw [if_pos rfl, List.mem_singleton] at h
      subst h
      exact ⟨fun _ z => (by cases z), rfl⟩
    · rw [if_neg e] at h
      cases h
  · obtain ⟨i, hi, h⟩ := List.mem_flatMap.mp h
    have h1 := hc i (hq i hi)
    rw [blkW_eq h1] at h
    by_cases e : c i ≤ k
    · rw [if_pos e] at h
      obtain ⟨v, hv, rfl⟩ := List.mem_map.mp h
      obtain ⟨h2, h3⟩ := ih _ (by omega) v hv
      refine ⟨fun j hj => ?_, ?_⟩
      · rcases List.mem_cons.mp hj with rfl | hj
        · exact hq _ hi
        · exact h2 j hj
      · rw [costN_cons]
        omega
    · rw [if_neg e] at h
      cases h
theorem wds_mem (hc : ∀ i ∈ ps, 1 ≤ c i) : ∀ k, ∀ w ∈ wds ps c k, (∀ i ∈ w, i ∈ ps) ∧ costN c w = k := by
  intro k
  induction k using Nat.strongRecOn with
  | _ k ih =>
  intro w hw
  unfold wds nextW at hw
  exact pre_mem hc (fun _ h => h) ih (List.mem_mergeSort.mp hw)
theorem len_cost (hc : ∀ i ∈ ps, 1 ≤ c i) : ∀ {w : List Nat}, (∀ i ∈ w, i ∈ ps) → w.length ≤ costN c w
  | [], _ => Nat.zero_le _
  | i :: w, h => by
    rw [costN_cons, List.length_cons]
    have := hc i (h i List.mem_cons_self)
    have := len_cost hc (w := w) fun j hj => h j (List.mem_cons_of_mem _ hj)
    omega
theorem allW_succ (k : Nat) : allW ps c (k + 1) = allW ps c k ++ wds ps c k := by
  unfold allW
  rw [List.range_succ, List.flatMap_append]
  simp
end
end G
set_option Elab.async false
set_option linter.all false
set_option maxRecDepth 100000
set_option maxHeartbeats 4000000
namespace G
open Mp Pl
open PySem (Str sizeLine)
local macro_rules | `(tactic| wtm_at "e") => `(tactic| first
  | with_reducible refine w_set ?_
  | with_reducible refine w_bin ?_
  | ((with_reducible refine w_v (d := ?dv) ?hv ?_); (case hv => exact rfl))
  | with_reducible refine w_c ?_
  | with_reducible refine w_cons ?_
  | with_reducible refine w_nil ?_
  | with_reducible refine w_arg ?_
  | with_reducible refine w_call ?_
  | with_reducible refine w_if ?_
  | with_reducible refine w_ret ?_
  | with_reducible refine w_skip ?_
  | with_reducible refine w_bl ?_
  | with_reducible refine w_tru ?_
  | with_reducible refine w_attr ?_
  | with_reducible refine w_meth ?_
  | with_reducible refine w_chain ?_
  | with_reducible refine w_and ?_
  | with_reducible refine w_or ?_
  | with_reducible refine w_not ?_
  | with_reducible refine w_notT ?_
  | with_reducible refine w_andT ?_
  | with_reducible refine w_orT ?_
  | with_reducible refine w_ifM ?_
  | with_reducible refine w_expr ?_
  | with_reducible refine w_un ?_
  | with_reducible refine w_par2 ?_
  | with_reducible refine w_par3 ?_
  | with_reducible refine w_asg ?_
  | with_reducible refine w_aug ?_
  | with_reducible refine w_sub ?_
  | with_reducible refine w_fld ?_
  | with_reducible refine w_raise ?_
  | with_reducible refine w_raise0 ?_
  | with_reducible refine w_try ?_
  | with_reducible refine w_make ?_
  | with_reducible refine w_tryAs ?_
  | with_reducible refine w_exn ?_
  | ((with_reducible refine o_isx (b := ?bv) ?h1 ?_); (case h1 => exact rfl))
  | with_reducible refine w_superS ?_
  | with_reducible refine w_super ?_
  | with_reducible refine w_star ?_
  | with_reducible refine w_for0 ?_
  | with_reducible refine w_lc0 ?_
  | with_reducible refine w_lc20 ?_
  | with_reducible refine w_seqJ ?_
  | with_reducible refine w_starC ?_
  | with_reducible refine w_spr ?_
  | with_reducible refine w_kwA ?_
  | with_reducible refine w_kwM ?_
  | with_reducible refine w_sprK ?_
  | with_reducible refine w_get ?_
  | with_reducible refine w_makeL ?_
  | with_reducible refine w_tryN ?_
  | ((with_reducible refine o_own0 ?hv ?_); (case hv => exact rfl))
  | ((with_reducible refine o_eqO0 ?hv ?_); (case hv => exact rfl))
  | with_reducible refine w_seqI ?_
  | with_reducible refine w_argI ?_
  | with_reducible refine w_opt ?_
  | with_reducible refine w_sli ?_
  | with_reducible refine w_pure ?_
  | with_reducible refine w_disp ?_
  | with_reducible refine w_pairs1 ?_
  | with_reducible refine w_pairs0 ?_
  | with_reducible refine w_retN ?_
  | with_reducible refine w_cnt ?_
  | with_reducible refine w_brk ?_
  | with_reducible refine o_addI ?_
  | with_reducible refine o_addI' ?_
  | with_reducible refine o_sub ?_
  | with_reducible refine o_lt ?_
  | with_reducible refine o_le ?_
  | with_reducible refine o_gt ?_
  | with_reducible refine o_ge ?_
  | with_reducible refine o_eqI ?_
  | with_reducible refine o_neI ?_
  | with_reducible refine o_eqS ?_
  | with_reducible refine o_neS ?_
  | with_reducible refine o_int ?_
  | with_reducible refine o_intB ?_
  | with_reducible refine o_neg ?_
  | with_reducible refine o_abs ?_
  | with_reducible refine o_newL ?_
  | with_reducible refine o_max2 ?_
  | with_reducible refine o_min2 ?_
  | with_reducible refine o_lenL ?_
  | with_reducible refine o_lenT ?_
  | ((with_reducible refine o_tup ?hv ?_); (case hv => first | exact Nat.le_of_ble_eq_true rfl | assumption))
  | ((with_reducible refine o_lst ?hv ?_); (case hv => first | exact Nat.le_of_ble_eq_true rfl | assumption))
  | ((with_reducible refine o_isi (t := ?tv) (b := ?bv) ?h1 ?h2 ?_); (case h1 => exact rfl); (case h2 => exact rfl))
  | ((with_reducible refine o_fld (C := ?cv) (fs := ?fv) (d := ?dv) ?h1 ?h2 ?h3 ?_); (case h1 => exact rfl); (case h2 => exact rfl); (case h3 => exact rfl))
  | ((with_reducible refine Exists.intro ?kv (And.intro ?ha ?_)); (case ha => exact rfl)))
local macro_rules | `(tactic| wtm_at "body") => `(tactic| (refine w_body rfl rfl ?_; dsimp only [List.length_cons, List.length_nil, List.drop, List.append_nil, List.map_cons, List.map_nil, List.map, List.cons_append, List.nil_append, Nat.reduceAdd, Nat.reduceSub, List.replicate]))
local macro_rules | `(tactic| wtm_at "meth") => `(tactic| refine ⟨_, _, _, rfl, rfl, rfl, ?_⟩)
local macro_rules | `(tactic| wtm_at "w") => `(tactic| first | with_reducible refine w_seq ?_ | wtm_at "e")
local macro_rules | `(tactic| wtm_at "s") => `(tactic| ((repeat wtm_at "e"); (with_reducible refine w_seq ?_)))
local macro_rules | `(tactic| wtm_at "f") => `(tactic| ((repeat wtm_at "e"); (with_reducible show FP _ _)))
/-! words compared -/
def ltW (c : Nat → Nat) (a b : List Nat) : Bool := if costN c a = costN c b then decide (a < b) else decide (costN c a < costN c b)
def keyW (c : Nat → Nat) (a : List Nat) : KP := ((costN c a : Nat), LS a)
abbrev wD (w : List Nat) : D := .str (LS w)
theorem LS_cps (a : List Nat) : (LS a).cps.toList = a.map (97 + ·) := by
  unfold LS
  rfl
theorem LS_inj {a b : List Nat} (h : LS a = LS b) : a = b := by
  have e : (LS a).cps.toList = (LS b).cps.toList := by rw [h]
  rw [LS_cps, LS_cps] at e
  exact (List.map_inj_right fun x y z => by omega).mp e
theorem lt_map97 : ∀ a b : List Nat, a.map (97 + ·) < b.map (97 + ·) ↔ a < b
  | [], [] => by simp
  | [], _ :: _ => by simp
  | _ :: _, [] => by simp
  | x :: a, y :: b => by
    rw [List.map_cons, List.map_cons, List.cons_lt_cons_iff, List.cons_lt_cons_iff, lt_map97 a b]
    constructor
    · rintro (h | ⟨h, k⟩)
      · exact .inl (by omega)
      · exact .inr ⟨by omega, k⟩
    · rintro (h | ⟨h, k⟩)
      · exact .inl (by omega)
      · exact .inr ⟨by omega, k⟩
theorem ltKP_keyW (c : Nat → Nat) (a b : List Nat) : ltKP (keyW c a) (keyW c b) = ltW c a b := by
  unfold ltKP ltW keyW
  dsimp only
  by_cases e : costN c a = costN c b
  · rw [if_pos e, if_pos (by rw [e]; simp)]
    by_cases h : a = b
    · subst h
      rw [if_pos (by simp)]
      exact (decide_eq_false (List.lt_irrefl a)).symm
    · rw [if_neg (by intro z; exact h (LS_inj (by simpa using z)))]
      apply decide_eq_decide.mpr
      rw [LS_cps, LS_cps]
      exact lt_map97 a b
  · rw [if_neg e, if_neg (by intro z; apply e; have z := of_decide_eq_true z; omega)]
    apply decide_eq_decide.mpr
    omega
section
variable {c : Nat → Nat} {a b d : List Nat}
theorem ltW_irr : ltW c a a = false := by
  unfold ltW
  rw [if_pos rfl]
  exact decide_eq_false (List.lt_irrefl a)
theorem ltW_asym (h : ltW c a b = true) : ltW c b a = false := by
  unfold ltW at h ⊢
  by_cases e : costN c a = costN c b
  · rw [if_pos e] at h
    rw [if_pos e.symm]
    exact decide_eq_false (List.lt_asymm (of_decide_eq_true h))
  · rw [if_neg e] at h
    rw [if_neg fun z => e z.symm]
    have h := of_decide_eq_true h
    exact decide_eq_false (by omega)
theorem ltW_tot (h : a ≠ b) : ltW c a b = true ∨ ltW c b a = true := by
  unfold ltW
  by_cases e : costN c a = costN c b
  · rw [if_pos e, if_pos e.symm]
    rcases List.le_total a b with z | z
    · rcases List.le_iff_lt_or_eq.mp z with z | z
      · exact .inl (decide_eq_true z)
      · exact absurd z h
    · rcases List.le_iff_lt_or_eq.mp z with z | z
      · exact .inr (decide_eq_true z)
      · exact absurd z.symm h
  · rw [if_neg e, if_neg fun z => e z.symm]
    by_cases z : costN c a < costN c b
    · exact .inl (decide_eq_true z)
    · exact .inr (decide_eq_true (by omega))
theorem ltW_trans (h : ltW c a b = true) (k : ltW c b d = true) : ltW c a d = true := by
  unfold ltW at *
  by_cases e1 : costN c a = costN c b <;> by_cases e2 : costN c b = costN c d
  · rw [if_pos e1] at h
    rw [if_pos e2] at k
    rw [if_pos (e1.trans e2)]
    exact decide_eq_true (List.lt_trans (of_decide_eq_true h) (of_decide_eq_true k))
  · rw [if_neg e2] at k
    rw [if_neg fun z => e2 (e1.symm.trans z)]
    have := of_decide_eq_true k
    exact decide_eq_true (by omega)
  · rw [if_neg e1] at h
    rw [if_neg fun z => e1 (z.trans e2.symm)]
    have := of_decide_eq_true h
    exact decide_eq_true (by omega)
  · rw [if_neg e1] at h
    rw [if_neg e2] at k
    have h := of_decide_eq_true h
    have k := of_decide_eq_true k
    rw [if_neg (by omega)]
    exact decide_eq_true (by omega)
end
section
variable {n : Nat} {b : Int} {s : Sto} {Q : D → Sto → Prop} {E : XT} {ps ws vs : List Nat} {c : Nat → Nat}
theorem q_cost_of (hw : ∀ w ∈ ws, w ∈ ps) (hl : ws.length ≤ 100000) (h : Q (nD (costN c ws)) s) : RP Q E (m_Order_cost_of [ordD ps c, wD ws] s) := by
  have hz : sizeLine = 16777216 := by decide
  wtm_at "body"
  unfold b_Order_cost_of ordD
  repeat wtm_at "e"
  rw [LS_chars]
  refine w_lcX ws chD (fun i => nD (c i)) rfl rfl (by omega) (fun i hi => ⟨_, rfl, ?_⟩) ?_
  · repeat wtm_at "e"
    refine o_idxD (n := 0) (m := byL ps fun i => nD (c i)) rfl rfl (byL_get (hw i hi)) ?_
    exact ⟨rfl, rfl⟩
  · repeat wtm_at "e"
    rw [show (ws.map fun i => nD (c i)) = (ws.map c).map nD by rw [List.map_map]; rfl]
    exact o_sumN h
theorem q_key (hw : ∀ w ∈ ws, w ∈ ps) (hl : ws.length ≤ 100000) (h : Q (kD (keyW c ws)) s) : RP Q E (m_Order_key [ordD ps c, wD ws] s) := by
  wtm_at "body"
  unfold b_Order_key
  repeat wtm_at "e"
  refine ⟨_, _, _, rfl, rfl, rfl, ?_⟩
  repeat wtm_at "e"
  refine q_cost_of hw hl ?_
  repeat wtm_at "e"
  exact h
theorem q_below (hw : ∀ w ∈ ws, w ∈ ps) (hl : ws.length ≤ 100000) (hv : ∀ w ∈ vs, w ∈ ps) (hl2 : vs.length ≤ 100000) (h : Q (.bl (ltW c ws vs)) s) : RP Q E (m_Order_below [ordD ps c, wD ws, wD vs] s) := by
  wtm_at "body"
  unfold b_Order_below
  repeat wtm_at "e"
  refine ⟨_, _, _, rfl, rfl, rfl, ?_⟩
  repeat wtm_at "e"
  refine q_key hw hl ?_
  repeat wtm_at "e"
  refine ⟨_, _, _, rfl, rfl, rfl, ?_⟩
  repeat wtm_at "e"
  refine q_key hv hl2 ?_
  repeat wtm_at "e"
  refine o_ltK ?_
  rw [show ltKP ((keyW c ws).1, (keyW c ws).2) ((keyW c vs).1, (keyW c vs).2) = ltW c ws vs from ltKP_keyW c ws vs]
  exact h
theorem q_is_before (lp : Lets ps) (hw : ∀ w ∈ ws, w ∈ ps) (hl : ws.length ≤ 160) (hv : ∀ w ∈ vs, w ∈ ps) (hl2 : vs.length ≤ 160) (h : Q (.bl (ltW c ws vs)) s) : RP Q E (m_Order_is_before [ordD ps c, wD ws, wD vs] s) := by
  have hz : sizeLine = 16777216 := by decide
  have h4 := lp.few
  wtm_at "body"
  unfold b_Order_is_before
  wtm_at "s"
  repeat wtm_at "e"
  refine q_need_word hw hl (by omega) ?_
  wtm_at "s"
  repeat wtm_at "e"
  refine q_need_word hv hl2 (by omega) ?_
  repeat wtm_at "e"
  refine ⟨_, _, _, rfl, rfl, rfl, ?_⟩
  repeat wtm_at "e"
  exact q_below hw (by omega) hv (by omega) h
end
end G
set_option Elab.async false
set_option linter.all false
set_option maxRecDepth 100000
set_option maxHeartbeats 4000000
namespace G
open Mp Pl
open PySem (Str sizeLine)
local macro_rules | `(tactic| wtm_at "e") => `(tactic| first
  | with_reducible refine w_set ?_
  | with_reducible refine w_bin ?_
  | ((with_reducible refine w_v (d := ?dv) ?hv ?_); (case hv => exact rfl))
  | with_reducible refine w_c ?_
  | with_reducible refine w_cons ?_
  | with_reducible refine w_nil ?_
  | with_reducible refine w_arg ?_
  | with_reducible refine w_call ?_
  | with_reducible refine w_if ?_
  | with_reducible refine w_ret ?_
  | with_reducible refine w_skip ?_
  | with_reducible refine w_bl ?_
  | with_reducible refine w_tru ?_
  | with_reducible refine w_attr ?_
  | with_reducible refine w_meth ?_
  | with_reducible refine w_chain ?_
  | with_reducible refine w_and ?_
  | with_reducible refine w_or ?_
  | with_reducible refine w_not ?_
  | with_reducible refine w_notT ?_
  | with_reducible refine w_andT ?_
  | with_reducible refine w_orT ?_
  | with_reducible refine w_ifM ?_
  | with_reducible refine w_expr ?_
  | with_reducible refine w_un ?_
  | with_reducible refine w_par2 ?_
  | with_reducible refine w_par3 ?_
  | with_reducible refine w_asg ?_
  | with_reducible refine w_aug ?_
  | with_reducible refine w_sub ?_
  | with_reducible refine w_fld ?_
  | with_reducible refine w_raise ?_
  | with_reducible refine w_raise0 ?_
  | with_reducible refine w_try ?_
  | with_reducible refine w_make ?_
  | with_reducible refine w_tryAs ?_
  | with_reducible refine w_exn ?_
  | ((with_reducible refine o_isx (b := ?bv) ?h1 ?_); (case h1 => exact rfl))
  | with_reducible refine w_superS ?_
  | with_reducible refine w_super ?_
  | with_reducible refine w_star ?_
  | with_reducible refine w_for0 ?_
  | with_reducible refine w_lc0 ?_
  | with_reducible refine w_lc20 ?_
  | with_reducible refine w_seqJ ?_
  | with_reducible refine w_starC ?_
  | with_reducible refine w_spr ?_
  | with_reducible refine w_kwA ?_
  | with_reducible refine w_kwM ?_
  | with_reducible refine w_sprK ?_
  | with_reducible refine w_get ?_
  | with_reducible refine w_makeL ?_
  | with_reducible refine w_tryN ?_
  | ((with_reducible refine o_own0 ?hv ?_); (case hv => exact rfl))
  | ((with_reducible refine o_eqO0 ?hv ?_); (case hv => exact rfl))
  | with_reducible refine w_seqI ?_
  | with_reducible refine w_argI ?_
  | with_reducible refine w_opt ?_
  | with_reducible refine w_sli ?_
  | with_reducible refine w_pure ?_
  | with_reducible refine w_disp ?_
  | with_reducible refine w_pairs1 ?_
  | with_reducible refine w_pairs0 ?_
  | with_reducible refine w_retN ?_
  | with_reducible refine w_cnt ?_
  | with_reducible refine w_brk ?_
  | with_reducible refine o_addI ?_
  | with_reducible refine o_addI' ?_
  | with_reducible refine o_sub ?_
  | with_reducible refine o_lt ?_
  | with_reducible refine o_le ?_
  | with_reducible refine o_gt ?_
  | with_reducible refine o_ge ?_
  | with_reducible refine o_eqI ?_
  | with_reducible refine o_neI ?_
  | with_reducible refine o_eqS ?_
  | with_reducible refine o_neS ?_
  | with_reducible refine o_int ?_
  | with_reducible refine o_intB ?_
  | with_reducible refine o_neg ?_
  | with_reducible refine o_abs ?_
  | with_reducible refine o_newL ?_
  | with_reducible refine o_max2 ?_
  | with_reducible refine o_min2 ?_
  | with_reducible refine o_lenL ?_
  | with_reducible refine o_lenT ?_
  | ((with_reducible refine o_tup ?hv ?_); (case hv => first | exact Nat.le_of_ble_eq_true rfl | assumption))
  | ((with_reducible refine o_lst ?hv ?_); (case hv => first | exact Nat.le_of_ble_eq_true rfl | assumption))
  | ((with_reducible refine o_isi (t := ?tv) (b := ?bv) ?h1 ?h2 ?_); (case h1 => exact rfl); (case h2 => exact rfl))
  | ((with_reducible refine o_fld (C := ?cv) (fs := ?fv) (d := ?dv) ?h1 ?h2 ?h3 ?_); (case h1 => exact rfl); (case h2 => exact rfl); (case h3 => exact rfl))
  | ((with_reducible refine Exists.intro ?kv (And.intro ?ha ?_)); (case ha => exact rfl)))
local macro_rules | `(tactic| wtm_at "body") => `(tactic| (refine w_body rfl rfl ?_; dsimp only [List.length_cons, List.length_nil, List.drop, List.append_nil, List.map_cons, List.map_nil, List.map, List.cons_append, List.nil_append, Nat.reduceAdd, Nat.reduceSub, List.replicate]))
local macro_rules | `(tactic| wtm_at "meth") => `(tactic| refine ⟨_, _, _, rfl, rfl, rfl, ?_⟩)
local macro_rules | `(tactic| wtm_at "w") => `(tactic| first | with_reducible refine w_seq ?_ | wtm_at "e")
local macro_rules | `(tactic| wtm_at "s") => `(tactic| ((repeat wtm_at "e"); (with_reducible refine w_seq ?_)))
local macro_rules | `(tactic| wtm_at "f") => `(tactic| ((repeat wtm_at "e"); (with_reducible show FP _ _)))
/-! the words of a cost, one by one -/
section
theorem fm_get {T : Type} (f : Nat → List T) : ∀ (qs : List Nat), qs.Pairwise (· < ·) → ∀ (n : Nat) (v : T), (qs.flatMap f)[n]? = some v ↔ ∃ i ∈ qs, ∃ m, n = ((qs.filter (· < i)).map fun j => (f j).length).sum + m ∧ (f i)[m]? = some v
  | [], _, n, v => by simp
  | a :: t, hp, n, v => by
    obtain ⟨h1, h2⟩ := List.pairwise_cons.mp hp
    have ih := fm_get f t h2
    have ea : ((a :: t).filter (· < a)) = [] := by
      rw [List.filter_eq_nil_iff]
      intro x hx
      rcases List.mem_cons.mp hx with rfl | hx
      · simp
      · have := h1 x hx
        simp
        omega
    have et : ∀ i ∈ t, (a :: t).filter (· < i) = a :: t.filter (· < i) := fun i hi => by
      rw [List.filter_cons_of_pos (by simpa using h1 i hi)]
    rw [List.flatMap_cons]
    constructor
    · intro h
      by_cases hn : n < (f a).length
      · rw [List.getElem?_append_left hn] at h
        exact ⟨a, List.mem_cons_self, n, by rw [ea]; simp, h⟩
      · rw [List.getElem?_append_right (by omega)] at h
        obtain ⟨i, hi, m, e, hm⟩ := (ih _ v).mp h
        refine ⟨i, List.mem_cons_of_mem _ hi, m, ?_, hm⟩
        rw [et i hi, List.map_cons, List.sum_cons]
        omega
    · rintro ⟨i, hi, m, e, hm⟩
      rcases List.mem_cons.mp hi with rfl | hi
      · rw [ea] at e
        have e : n = m := by simpa using e
        subst e
        rw [List.getElem?_append_left (List.getElem?_eq_some_iff.mp hm).1]
        exact hm
      · rw [et i hi, List.map_cons, List.sum_cons] at e
        rw [List.getElem?_append_right (by omega)]
        exact (ih _ v).mpr ⟨i, hi, m, by omega, hm⟩
variable {ps : List Nat} {c : Nat → Nat}
theorem leW_eq (a b : List Nat) : leW a b = !decide (b < a) := by
  unfold leW leS
  rw [LS_cps, LS_cps]
  congr 1
  exact decide_eq_decide.mpr (lt_map97 b a)
theorem leW_cons (i : Nat) (a b : List Nat) : leW (i :: a) (i :: b) = leW a b := by
  rw [leW_eq, leW_eq]
  congr 1
  refine decide_eq_decide.mpr ?_
  rw [List.cons_lt_cons_iff]
  constructor
  · rintro (h | ⟨_, h⟩)
    · exact absurd h (Nat.lt_irrefl _)
    · exact h
  · exact fun h => .inr ⟨rfl, h⟩
theorem leW_head {i j : Nat} (h : i < j) (a b : List Nat) : leW (i :: a) (j :: b) = true := by
  rw [leW_eq, Bool.not_eq_true', decide_eq_false_iff_not, List.cons_lt_cons_iff]
  rintro (z | ⟨z, _⟩) <;> omega
/-- the words of a cost that begin with a letter -/
def blW (ps : List Nat) (c : Nat → Nat) (k i : Nat) : List (List Nat) := if c i ≤ k then (wds ps c (k - c i)).map (i :: ·) else []
theorem wds_srt (k : Nat) : (wds ps c k).Pairwise fun a b => leW a b = true := by
  unfold wds nextW
  exact List.pairwise_mergeSort (le := leW) (fun a b d h k => leS_trans (LS a) (LS b) (LS d) h k) (fun a b => leS_total (LS a) (LS b)) _
theorem blW_srt (k i : Nat) : (blW ps c k i).Pairwise fun a b => leW a b = true := by
  unfold blW
  split
  · rw [List.pairwise_map]
    exact (wds_srt _).imp fun h => by rw [leW_cons]; exact h
  · exact .nil
theorem blW_head {k i : Nat} {w : List Nat} (h : w ∈ blW ps c k i) : ∃ v, w = i :: v := by
  unfold blW at h
  split at h
  · obtain ⟨v, _, rfl⟩ := List.mem_map.mp h
    exact ⟨v, rfl⟩
  · cases h
theorem fm_srt (k : Nat) : ∀ qs : List Nat, qs.Pairwise (· < ·) → (qs.flatMap (blW ps c k)).Pairwise fun a b => leW a b = true
  | [], _ => .nil
  | a :: t, hp => by
    obtain ⟨h1, h2⟩ := List.pairwise_cons.mp hp
    rw [List.flatMap_cons, List.pairwise_append]
    refine ⟨blW_srt k a, fm_srt k t h2, fun x hx y hy => ?_⟩
    obtain ⟨v, rfl⟩ := blW_head hx
    obtain ⟨j, hj, hy⟩ := List.mem_flatMap.mp hy
    obtain ⟨u, rfl⟩ := blW_head hy
    exact leW_head (h1 j hj) _ _
theorem wds_zero (hc : ∀ i ∈ ps, 1 ≤ c i) : wds ps c 0 = [[]] := by
  unfold wds nextW preW
  have e : ps.flatMap (blkW c (wtab ps c 0)) = [] := by
    rw [List.flatMap_eq_nil_iff]
    intro i hi
    unfold blkW
    rw [wtab_len, if_neg (by have := hc i hi; omega)]
  rw [e, wtab_len, if_pos rfl]
  exact List.mergeSort_singleton _
theorem wds_rec (lp : Lets ps) (hc : ∀ i ∈ ps, 1 ≤ c i) {k : Nat} (hk : 0 < k) : wds ps c k = ps.flatMap (blW ps c k) := by
  have e : preW c (wtab ps c k) ps = ps.flatMap (blW ps c k) := by
    unfold preW
    rw [wtab_len, if_neg (by omega), List.nil_append]
    have q : ∀ qs : List Nat, (∀ i ∈ qs, i ∈ ps) → qs.flatMap (blkW c (wtab ps c k)) = qs.flatMap (blW ps c k) := by
      intro qs
      induction qs with
      | nil => intro _; rfl
      | cons a t ih =>
        intro h
        rw [List.flatMap_cons, List.flatMap_cons, ih fun i hi => h i (List.mem_cons_of_mem _ hi), blkW_eq (hc a (h a List.mem_cons_self))]
        rfl
    exact q ps fun _ h => h
  show (preW c (wtab ps c k) ps).mergeSort leW = _
  rw [e]
  exact List.mergeSort_of_pairwise (fm_srt k ps lp.asc)
/-- how many words of the same cost are ahead of a word -/
def offW (ps : List Nat) (c : Nat → Nat) (k i : Nat) : Nat := ((ps.filter (· < i)).map fun j => if c j ≤ k then cnt ps c (k - c j) else 0).sum
def rkW (ps : List Nat) (c : Nat → Nat) : List Nat → Nat
  | [] => 0
  | i :: w => offW ps c (costN c (i :: w)) i + rkW ps c w
theorem blW_len (hc : ∀ i ∈ ps, 1 ≤ c i) (k i : Nat) : (blW ps c k i).length = if c i ≤ k then cnt ps c (k - c i) else 0 := by
  unfold blW
  split
  · rw [List.length_map, wds_len hc]
  · rfl
theorem off_eq (hc : ∀ i ∈ ps, 1 ≤ c i) (k i : Nat) : ((ps.filter (· < i)).map fun j => (blW ps c k j).length).sum = offW ps c k i := by
  unfold offW
  congr 1
  exact List.map_congr_left fun j _ => blW_len hc k j
theorem wds_at (lp : Lets ps) (hc : ∀ i ∈ ps, 1 ≤ c i) : ∀ w : List Nat, (∀ i ∈ w, i ∈ ps) → (wds ps c (costN c w))[rkW ps c w]? = some w
  | [], _ => by
    show (wds ps c 0)[0]? = some []
    rw [wds_zero hc]
    rfl
  | i :: w, h => by
    have hi := h i List.mem_cons_self
    have ci := hc i hi
    have ih := wds_at lp hc w fun j hj => h j (List.mem_cons_of_mem _ hj)
    have ek : costN c (i :: w) = c i + costN c w := costN_cons i w
    rw [wds_rec lp hc (by omega)]
    refine (fm_get _ ps lp.asc _ _).mpr ⟨i, hi, rkW ps c w, ?_, ?_⟩
    · rw [off_eq hc]
      rfl
    · unfold blW
      rw [if_pos (by omega), show costN c (i :: w) - c i = costN c w by omega, List.getElem?_map, ih]
      rfl
theorem wds_rk (lp : Lets ps) (hc : ∀ i ∈ ps, 1 ≤ c i) : ∀ (w : List Nat) (k n : Nat), (wds ps c k)[n]? = some w → rkW ps c w = n ∧ costN c w = k
  | [], k, n, h => by
    obtain ⟨_, e⟩ := wds_mem hc k [] (List.mem_of_getElem? h)
    have e : k = 0 := e.symm
    subst e
    rw [wds_zero hc] at h
    cases n with
    | zero => exact ⟨rfl, rfl⟩
    | succ n => simp at h
  | i :: w, k, n, h => by
    obtain ⟨hm, e⟩ := wds_mem hc k _ (List.mem_of_getElem? h)
    have ci := hc i (hm i List.mem_cons_self)
    have ek : costN c (i :: w) = c i + costN c w := costN_cons i w
    rw [wds_rec lp hc (by omega)] at h
    obtain ⟨j, hj, m, en, hv⟩ := (fm_get _ ps lp.asc _ _).mp h
    obtain ⟨v, ev⟩ := blW_head (List.mem_of_getElem? hv)
    obtain ⟨rfl, rfl⟩ := List.cons.inj ev
    unfold blW at hv
    rw [if_pos (by omega), List.getElem?_map] at hv
    cases hx : (wds ps c (k - c i))[m]? with
    | none => rw [hx] at hv; cases hv
    | some x =>
      rw [hx] at hv
      have hv : i :: x = i :: w := by simpa using hv
      obtain ⟨_, rfl⟩ := List.cons.inj hv
      obtain ⟨h1, h2⟩ := wds_rk lp hc x _ _ hx
      refine ⟨?_, e⟩
      rw [off_eq hc] at en
      show offW ps c (costN c (i :: x)) i + rkW ps c x = n
      rw [e, h1, en]
theorem rk_lt (lp : Lets ps) (hc : ∀ i ∈ ps, 1 ≤ c i) {w : List Nat} (h : ∀ i ∈ w, i ∈ ps) : rkW ps c w < cnt ps c (costN c w) := by
  have := (List.getElem?_eq_some_iff.mp (wds_at lp hc w h)).1
  rwa [wds_len hc] at this
/-- how many words are ahead of a word -/
def plW (ps : List Nat) (c : Nat → Nat) (w : List Nat) : Nat := (cnts ps c (costN c w)).sum + rkW ps c w
theorem cnts_succ (k : Nat) : cnts ps c (k + 1) = cnts ps c k ++ [cnt ps c k] := rfl
theorem cnts_sum (k : Nat) : (cnts ps c (k + 1)).sum = (cnts ps c k).sum + cnt ps c k := by
  rw [cnts_succ, List.sum_append, List.sum_cons, List.sum_nil, Nat.add_zero]
theorem cnts_mono {j k : Nat} (h : j ≤ k) : (cnts ps c j).sum ≤ (cnts ps c k).sum := by
  induction k with
  | zero => rw [Nat.le_zero.mp h]; exact Nat.le_refl _
  | succ k ih =>
    by_cases e : j = k + 1
    · rw [e]; exact Nat.le_refl _
    · rw [cnts_sum]
      have := ih (by omega)
      omega
theorem allW_len (hc : ∀ i ∈ ps, 1 ≤ c i) : ∀ k, (allW ps c k).length = (cnts ps c k).sum
  | 0 => rfl
  | k + 1 => by rw [allW_succ, List.length_append, allW_len hc k, wds_len hc, cnts_sum]
theorem allW_at (lp : Lets ps) (hc : ∀ i ∈ ps, 1 ≤ c i) : ∀ (k n : Nat) (w : List Nat), (allW ps c k)[n]? = some w ↔ ((∀ i ∈ w, i ∈ ps) ∧ costN c w < k ∧ plW ps c w = n)
  | 0, n, w => by simp [allW]
  | k + 1, n, w => by
    have ih := allW_at lp hc k n w
    have el := allW_len hc k
    rw [allW_succ]
    by_cases hn : n < (allW ps c k).length
    · rw [List.getElem?_append_left hn, ih]
      constructor
      · rintro ⟨h1, h2, h3⟩
        exact ⟨h1, by omega, h3⟩
      · rintro ⟨h1, h2, h3⟩
        refine ⟨h1, ?_, h3⟩
        by_cases e : costN c w = k
        · unfold plW at h3
          rw [e] at h3
          omega
        · omega
    · rw [List.getElem?_append_right (by omega)]
      constructor
      · intro h
        obtain ⟨h1, h2⟩ := wds_rk lp hc _ _ _ h
        obtain ⟨h3, _⟩ := wds_mem hc k w (List.mem_of_getElem? h)
        refine ⟨h3, by omega, ?_⟩
        unfold plW
        rw [h2, h1]
        omega
      · rintro ⟨h1, h2, h3⟩
        have hr := rk_lt lp hc h1
        have e : costN c w = k := by
          by_cases e : costN c w = k
          · exact e
          · have := cnts_mono (ps := ps) (c := c) (show costN c w + 1 ≤ k by omega)
            rw [cnts_sum] at this
            unfold plW at h3
            omega
        have := wds_at lp hc w h1
        unfold plW at h3
        rw [e] at this h3
        rw [show n - (allW ps c k).length = rkW ps c w by omega]
        exact this
/-- each number below is that of a word -/
theorem pl_ex (lp : Lets ps) (hc : ∀ i ∈ ps, 1 ≤ c i) {k n : Nat} (h : n < (cnts ps c k).sum) : ∃ w, (∀ i ∈ w, i ∈ ps) ∧ costN c w < k ∧ plW ps c w = n := by
  have hl : n < (allW ps c k).length := by rw [allW_len hc]; exact h
  exact ⟨_, (allW_at lp hc k n _).mp (List.getElem?_eq_getElem hl)⟩
theorem pl_inj (lp : Lets ps) (hc : ∀ i ∈ ps, 1 ≤ c i) {v w : List Nat} (hv : ∀ i ∈ v, i ∈ ps) (hw : ∀ i ∈ w, i ∈ ps) (h : plW ps c v = plW ps c w) : v = w := by
  have h1 := (allW_at lp hc (costN c v + costN c w + 1) (plW ps c v) v).mpr ⟨hv, by omega, rfl⟩
  have h2 := (allW_at lp hc (costN c v + costN c w + 1) (plW ps c v) w).mpr ⟨hw, by omega, h.symm⟩
  rw [h1] at h2
  exact Option.some.inj h2
end
end G
set_option Elab.async false
set_option linter.all false
set_option maxRecDepth 100000
set_option maxHeartbeats 4000000
namespace G
open Mp Pl
open PySem (Str sizeLine)
local macro_rules | `(tactic| wtm_at "e") => `(tactic| first
  | with_reducible refine w_set ?_
  | with_reducible refine w_bin ?_
  | ((with_reducible refine w_v (d := ?dv) ?hv ?_); (case hv => exact rfl))
  | with_reducible refine w_c ?_
  | with_reducible refine w_cons ?_
  | with_reducible refine w_nil ?_
  | with_reducible refine w_arg ?_
  | with_reducible refine w_call ?_
  | with_reducible refine w_if ?_
  | with_reducible refine w_ret ?_
  | with_reducible refine w_skip ?_
  | with_reducible refine w_bl ?_
  | with_reducible refine w_tru ?_
  | with_reducible refine w_attr ?_
  | with_reducible refine w_meth ?_
  | with_reducible refine w_chain ?_
  | with_reducible refine w_and ?_
  | with_reducible refine w_or ?_
  | with_reducible refine w_not ?_
  | with_reducible refine w_notT ?_
  | with_reducible refine w_andT ?_
  | with_reducible refine w_orT ?_
  | with_reducible refine w_ifM ?_
  | with_reducible refine w_expr ?_
  | with_reducible refine w_un ?_
  | with_reducible refine w_par2 ?_
  | with_reducible refine w_par3 ?_
  | with_reducible refine w_asg ?_
  | with_reducible refine w_aug ?_
  | with_reducible refine w_sub ?_
  | with_reducible refine w_fld ?_
  | with_reducible refine w_raise ?_
  | with_reducible refine w_raise0 ?_
  | with_reducible refine w_try ?_
  | with_reducible refine w_make ?_
  | with_reducible refine w_tryAs ?_
  | with_reducible refine w_exn ?_
  | ((with_reducible refine o_isx (b := ?bv) ?h1 ?_); (case h1 => exact rfl))
  | with_reducible refine w_superS ?_
  | with_reducible refine w_super ?_
  | with_reducible refine w_star ?_
  | with_reducible refine w_for0 ?_
  | with_reducible refine w_lc0 ?_
  | with_reducible refine w_lc20 ?_
  | with_reducible refine w_seqJ ?_
  | with_reducible refine w_starC ?_
  | with_reducible refine w_spr ?_
  | with_reducible refine w_kwA ?_
  | with_reducible refine w_kwM ?_
  | with_reducible refine w_sprK ?_
  | with_reducible refine w_get ?_
  | with_reducible refine w_makeL ?_
  | with_reducible refine w_tryN ?_
  | ((with_reducible refine o_own0 ?hv ?_); (case hv => exact rfl))
  | ((with_reducible refine o_eqO0 ?hv ?_); (case hv => exact rfl))
  | with_reducible refine w_seqI ?_
  | with_reducible refine w_argI ?_
  | with_reducible refine w_opt ?_
  | with_reducible refine w_sli ?_
  | with_reducible refine w_pure ?_
  | with_reducible refine w_disp ?_
  | with_reducible refine w_pairs1 ?_
  | with_reducible refine w_pairs0 ?_
  | with_reducible refine w_retN ?_
  | with_reducible refine w_cnt ?_
  | with_reducible refine w_brk ?_
  | with_reducible refine o_addI ?_
  | with_reducible refine o_addI' ?_
  | with_reducible refine o_sub ?_
  | with_reducible refine o_lt ?_
  | with_reducible refine o_le ?_
  | with_reducible refine o_gt ?_
  | with_reducible refine o_ge ?_
  | with_reducible refine o_eqI ?_
  | with_reducible refine o_neI ?_
  | with_reducible refine o_eqS ?_
  | with_reducible refine o_neS ?_
  | with_reducible refine o_int ?_
  | with_reducible refine o_intB ?_
  | with_reducible refine o_neg ?_
  | with_reducible refine o_abs ?_
  | with_reducible refine o_newL ?_
  | with_reducible refine o_max2 ?_
  | with_reducible refine o_min2 ?_
  | with_reducible refine o_lenL ?_
  | with_reducible refine o_lenT ?_
  | ((with_reducible refine o_tup ?hv ?_); (case hv => first | exact Nat.le_of_ble_eq_true rfl | assumption))
  | ((with_reducible refine o_lst ?hv ?_); (case hv => first | exact Nat.le_of_ble_eq_true rfl | assumption))
  | ((with_reducible refine o_isi (t := ?tv) (b := ?bv) ?h1 ?h2 ?_); (case h1 => exact rfl); (case h2 => exact rfl))
  | ((with_reducible refine o_fld (C := ?cv) (fs := ?fv) (d := ?dv) ?h1 ?h2 ?h3 ?_); (case h1 => exact rfl); (case h2 => exact rfl); (case h3 => exact rfl))
  | ((with_reducible refine Exists.intro ?kv (And.intro ?ha ?_)); (case ha => exact rfl)))
local macro_rules | `(tactic| wtm_at "body") => `(tactic| (refine w_body rfl rfl ?_; dsimp only [List.length_cons, List.length_nil, List.drop, List.append_nil, List.map_cons, List.map_nil, List.map, List.cons_append, List.nil_append, Nat.reduceAdd, Nat.reduceSub, List.replicate]))
local macro_rules | `(tactic| wtm_at "meth") => `(tactic| refine ⟨_, _, _, rfl, rfl, rfl, ?_⟩)
local macro_rules | `(tactic| wtm_at "w") => `(tactic| first | with_reducible refine w_seq ?_ | wtm_at "e")
local macro_rules | `(tactic| wtm_at "s") => `(tactic| ((repeat wtm_at "e"); (with_reducible refine w_seq ?_)))
local macro_rules | `(tactic| wtm_at "f") => `(tactic| ((repeat wtm_at "e"); (with_reducible show FP _ _)))
section
variable {s : Sto} {Q : D → Sto → Prop} {E : XT}
theorem o_sliC {t : Nat} {l : List D} {m : Nat} (hs : s[t]? = some (some (.lst l))) (hm : m ≤ l.length) (h : Q (.lst (l.take m)) s) : RP Q E (sliD false (.cel t) none (some (m : Int)) s) := by
  unfold sliD
  dsimp only
  rw [cel_lst hs]
  dsimp only
  rw [cut_take (by omega), Int.toNat_natCast]
  exact h
end
/-! places of words -/
section
variable {n : Nat} {b : Int} {s : Sto} {Q : D → Sto → Prop} {E : XT} {ps ws : List Nat} {c : Nat → Nat}
theorem o_ltCh {i j : Nat} (h : Q (.bl (decide (i < j))) s) : RP Q E (ltI (.str (ch i)) (.str (ch j)) s) := by
  have e : decide ((ch i).cps.toList < (ch j).cps.toList) = decide (i < j) := by
    refine decide_eq_decide.mpr ?_
    show [97 + i] < [97 + j] ↔ _
    rw [List.cons_lt_cons_iff]
    constructor
    · rintro (z | ⟨_, z⟩)
      · omega
      · exact absurd z (List.lt_irrefl _)
    · intro z
      exact .inl (by omega)
  show Q (.bl (decide ((ch i).cps.toList < (ch j).cps.toList))) s
  rw [e]
  exact h
theorem cnts_take : ∀ {n j : Nat}, j ≤ n → (cnts ps c n).take j = cnts ps c j
  | 0, j, h => by
    rw [Nat.le_zero.mp h]
    rfl
  | n + 1, j, h => by
    rw [cnts_succ]
    by_cases e : j = n + 1
    · subst e
      rw [← cnts_succ, List.take_of_length_le (by rw [cnts_len]; exact Nat.le_refl _)]
    · rw [List.take_append_of_le_length (by rw [cnts_len]; omega), cnts_take (by omega)]
theorem q_possible {i k K t : Nat} (hi : i ∈ ps) (hc : 1 ≤ c i) (hk : k < K) (hs : s[t]? = some (some (.lst ((cnts ps c K).map nD)))) (h : Q (.bl (decide (c i ≤ k ∧ 0 < cnt ps c (k - c i)))) s) : RP Q E (m_Order_is_possible [ordD ps c, .str (ch i), nD k, .cel t] s) := by
  wtm_at "body"
  unfold b_Order_is_possible ordD
  wtm_at "s"
  repeat wtm_at "e"
  refine o_idxD (n := 0) (m := byL ps fun i => nD (c i)) rfl rfl (byL_get hi) ?_
  repeat wtm_at "e"
  refine ⟨fun z => ?_, fun z => ?_⟩
  · have z := of_decide_eq_true z
    repeat wtm_at "e"
    refine o_idxC (k := k - c i) hs (by omega) (by rw [List.getElem?_map, cnts_get (by omega)]; rfl) ?_
    repeat wtm_at "e"
    have e : decide ((0 : Int) < ((cnt ps c (k - c i) : Nat) : Int)) = decide (c i ≤ k ∧ 0 < cnt ps c (k - c i)) := decide_eq_decide.mpr (by omega)
    rw [e]
    exact h
  · have e : decide ((0 : Int) ≤ ((k : Nat) : Int) - ((c i : Nat) : Int)) = decide (c i ≤ k ∧ 0 < cnt ps c (k - c i)) := by
      rw [z]
      have z := of_decide_eq_false z
      exact (decide_eq_false (by omega)).symm
    rw [e]
    exact h
def gW (ps : List Nat) (c : Nat → Nat) (k j : Nat) : Nat := if c j ≤ k then cnt ps c (k - c j) else 0
def offT (ps : List Nat) (c : Nat → Nat) (k i t : Nat) : Nat := (((ps.take t).filter (· < i)).map (gW ps c k)).sum
theorem offT_end {k i : Nat} : offT ps c k i ps.length = offW ps c k i := by
  unfold offT
  rw [List.take_length]
  rfl
theorem offT_step {k i t j : Nat} (h : ps[t]? = some j) : offT ps c k i (t + 1) = offT ps c k i t + if j < i then gW ps c k j else 0 := by
  unfold offT
  rw [List.take_add_one, h, List.filter_append, List.map_append, List.sum_append]
  congr 1
  by_cases e : j < i
  · simp [e]
  · simp [e]
theorem drop_cons {T : Type} {l : List T} {m : Nat} {x : T} (h : l[m]? = some x) : l.drop m = x :: l.drop (m + 1) := by
  obtain ⟨hl, e⟩ := List.getElem?_eq_some_iff.mp h
  rw [List.drop_eq_getElem_cons hl, e]
theorem costN_mono {m : Nat} : costN c (ws.drop m) ≤ costN c ws := by
  induction m generalizing ws with
  | zero => exact Nat.le_refl _
  | succ m ih =>
    cases ws with
    | nil => exact Nat.le_refl _
    | cons i w =>
      rw [List.drop_succ_cons, costN_cons]
      have := ih (ws := w)
      omega
theorem q_place_of (lp : Lets ps) (hc : ∀ i ∈ ps, 1 ≤ c i) (hw : ∀ w ∈ ws, w ∈ ps) (hl : ws.length ≤ 100000) (hk : costN c ws ≤ 100000) (h : ∀ o, Q (nD (plW ps c ws)) (s ++ [o])) : RP Q E (m_Order_place_of [ordD ps c, wD ws] s) := by
  have hz : sizeLine = 16777216 := by decide
  have h4 := lp.few
  wtm_at "body"
  unfold b_Order_place_of ordD
  wtm_at "s"
  repeat wtm_at "e"
  refine ⟨_, _, _, rfl, rfl, rfl, ?_⟩
  repeat wtm_at "e"
  refine q_cost_of hw hl ?_
  wtm_at "s"
  repeat wtm_at "e"
  refine ⟨_, _, _, rfl, rfl, rfl, ?_⟩
  repeat wtm_at "e"
  refine q_counts_to lp hc hk ?_
  have hs : (s ++ [some (Ct.lst ((cnts ps c (costN c ws + 1)).map nD))])[s.length]? = some (some (.lst ((cnts ps c (costN c ws + 1)).map nD))) := by simp
  wtm_at "s"
  repeat wtm_at "e"
  refine o_sliC (m := costN c ws) hs (by rw [List.length_map, cnts_len]; omega) ?_
  rw [← List.map_take, cnts_take (by omega)]
  repeat wtm_at "e"
  refine o_sumN ?_
  generalize hS : (s ++ [some (Ct.lst ((cnts ps c (costN c ws + 1)).map nD))]) = S at hs
  wtm_at "f"
  with_reducible refine w_mid (fun r s' => s' = S ∧ ∃ x2 x5 x6 : Option D, r = [some (ordD ps c), some (wD ws), x2, some (.cel s.length), some (nD (plW ps c ws)), x5, x6]) ?_ ?_
  · repeat wtm_at "e"
    rw [LS_chars]
    refine w_for (fun m r s' => s' = S ∧ ∃ (acc : Nat) (x5 x6 : Option D), acc + rkW ps c (ws.drop m) = plW ps c ws ∧ r = [some (ordD ps c), some (wD ws), some (nD (costN c (ws.drop m))), some (.cel s.length), some (nD acc), x5, x6]) rfl ⟨rfl, _, _, _, rfl, rfl⟩ ?_ ?_
    · rintro m d r s' hd ⟨rfl, acc, x5, x6, hacc, rfl⟩
      have hd : (ws.map chD)[m]? = some d := hd
      rw [List.getElem?_map] at hd
      cases ew : ws[m]? with
      | none => rw [ew] at hd; cases hd
      | some i =>
        rw [ew] at hd
        cases hd
        have hi := hw i (List.mem_of_getElem? ew)
        have hml := (List.getElem?_eq_some_iff.mp ew).1
        have ed := drop_cons ew
        have ek := costN_mono (c := c) (ws := ws) (m := m)
        refine ⟨_, rfl, ?_⟩
        wtm_at "f"
        with_reducible refine w_mid (fun r s2 => s2 = s' ∧ ∃ x6 : Option D, r = [some (ordD ps c), some (wD ws), some (nD (costN c (ws.drop m))), some (.cel s.length), some (nD (acc + offW ps c (costN c (ws.drop m)) i)), some (.str (ch i)), x6]) ?_ ?_
        · unfold ordD
          repeat wtm_at "e"
          rw [LS_chars]
          refine w_for (fun t r s2 => s2 = s' ∧ ∃ x6 : Option D, r = [some (ordD ps c), some (wD ws), some (nD (costN c (ws.drop m))), some (.cel s.length), some (nD (acc + offT ps c (costN c (ws.drop m)) i t)), some (.str (ch i)), x6]) rfl ⟨rfl, _, rfl⟩ ?_ ?_
          · rintro t d r s2 hd ⟨rfl, x6, rfl⟩
            have hd : (ps.map chD)[t]? = some d := hd
            rw [List.getElem?_map] at hd
            cases ep : ps[t]? with
            | none => rw [ep] at hd; cases hd
            | some j =>
              rw [ep] at hd
              cases hd
              have hj := List.mem_of_getElem? ep
              refine ⟨_, rfl, ?_⟩
              have es := offT_step (c := c) (k := costN c (ws.drop m)) (i := i) ep
              repeat wtm_at "e"
              refine o_ltCh ?_
              repeat wtm_at "e"
              refine ⟨fun z => ?_, fun z => ?_⟩
              · have z := of_decide_eq_true z
                rw [if_pos z] at es
                unfold ordD
                repeat wtm_at "e"
                refine ⟨_, _, _, rfl, rfl, rfl, ?_⟩
                repeat wtm_at "e"
                refine q_possible hj (hc j hj) (by omega) hs ?_
                refine ⟨_, rfl, fun y => ?_, fun y => ?_⟩
                · have y := of_decide_eq_true y
                  repeat wtm_at "e"
                  refine o_idxD (n := 0) (m := byL ps fun i => nD (c i)) rfl rfl (byL_get hj) ?_
                  repeat wtm_at "e"
                  refine o_idxC (k := costN c (ws.drop m) - c j) hs (by omega) (by rw [List.getElem?_map, cnts_get (by omega)]; rfl) ?_
                  repeat wtm_at "e"
                  refine ⟨rfl, some (.str (ch j)), ?_⟩
                  rw [es]
                  unfold gW
                  rw [if_pos y.1, ← Nat.add_assoc]
                  rfl
                · have y := of_decide_eq_false y
                  repeat wtm_at "e"
                  refine ⟨rfl, some (.str (ch j)), ?_⟩
                  have e0 : gW ps c (costN c (ws.drop m)) j = 0 := by
                    unfold gW
                    split
                    · omega
                    · rfl
                  rw [es, e0]
                  rfl
              · have z := of_decide_eq_false z
                rw [if_neg z] at es
                refine ⟨fun y => (by cases y), fun _ => ?_⟩
                repeat wtm_at "e"
                exact ⟨rfl, _, by rw [es]; rfl⟩
          · rintro r s2 ⟨rfl, x6, rfl⟩
            refine ⟨rfl, x6, ?_⟩
            rw [← offT_end, show (ps.map fun i => D.str (ch i)).length = ps.length by simp]
            rfl
        · rintro r s2 ⟨rfl, x6, rfl⟩
          unfold ordD
          repeat wtm_at "e"
          refine o_idxD (n := 0) (m := byL ps fun i => nD (c i)) rfl rfl (byL_get hi) ?_
          repeat wtm_at "e"
          have e1 : ((costN c (ws.drop m) : Nat) : Int) - ((c i : Nat) : Int) = ((costN c (ws.drop (m + 1)) : Nat) : Int) := by
            rw [ed, costN_cons]
            omega
          rw [e1]
          refine ⟨rfl, acc + offW ps c (costN c (ws.drop m)) i, _, _, ?_, rfl⟩
          rw [← hacc, ed]
          show _ = acc + (offW ps c (costN c (i :: ws.drop (m + 1))) i + rkW ps c (ws.drop (m + 1)))
          omega
    · rintro r s' ⟨rfl, acc, x5, x6, hacc, rfl⟩
      have hacc : acc + rkW ps c (ws.drop (ws.map fun i => D.str (ch i)).length) = plW ps c ws := hacc
      have e0 : acc = plW ps c ws := by
        rw [← hacc, show (ws.map fun i => D.str (ch i)).length = ws.length by simp, List.drop_length]
        rfl
      refine ⟨rfl, some (nD (costN c (ws.drop (ws.map fun i => D.str (ch i)).length))), x5, x6, ?_⟩
      rw [e0]
  rintro r s' ⟨rfl, x2, x5, x6, rfl⟩
  repeat wtm_at "e"
  rw [← hS]
  exact h _
end
end G
set_option Elab.async false
set_option linter.all false
set_option maxRecDepth 100000
set_option maxHeartbeats 4000000
namespace G
open Mp Pl
open PySem (Str sizeLine)
local macro_rules | `(tactic| wtm_at "e") => `(tactic| first
  | with_reducible refine w_set ?_
  | with_reducible refine w_bin ?_
  | ((with_reducible refine w_v (d := ?dv) ?hv ?_); (case hv => exact rfl))
  | with_reducible refine w_c ?_
  | with_reducible refine w_cons ?_
  | with_reducible refine w_nil ?_
  | with_reducible refine w_arg ?_
  | with_reducible refine w_call ?_
  | with_reducible refine w_if ?_
  | with_reducible refine w_ret ?_
  | with_reducible refine w_skip ?_
  | with_reducible refine w_bl ?_
  | with_reducible refine w_tru ?_
  | with_reducible refine w_attr ?_
  | with_reducible refine w_meth ?_
  | with_reducible refine w_chain ?_
  | with_reducible refine w_and ?_
  | with_reducible refine w_or ?_
  | with_reducible refine w_not ?_
  | with_reducible refine w_notT ?_
  | with_reducible refine w_andT ?_
  | with_reducible refine w_orT ?_
  | with_reducible refine w_ifM ?_
  | with_reducible refine w_expr ?_
  | with_reducible refine w_un ?_
  | with_reducible refine w_par2 ?_
  | with_reducible refine w_par3 ?_
  | with_reducible refine w_asg ?_
  | with_reducible refine w_aug ?_
  | with_reducible refine w_sub ?_
  | with_reducible refine w_fld ?_
  | with_reducible refine w_raise ?_
  | with_reducible refine w_raise0 ?_
  | with_reducible refine w_try ?_
  | with_reducible refine w_make ?_
  | with_reducible refine w_tryAs ?_
  | with_reducible refine w_exn ?_
  | ((with_reducible refine o_isx (b := ?bv) ?h1 ?_); (case h1 => exact rfl))
  | with_reducible refine w_superS ?_
  | with_reducible refine w_super ?_
  | with_reducible refine w_star ?_
  | with_reducible refine w_for0 ?_
  | with_reducible refine w_lc0 ?_
  | with_reducible refine w_lc20 ?_
  | with_reducible refine w_seqJ ?_
  | with_reducible refine w_starC ?_
  | with_reducible refine w_spr ?_
  | with_reducible refine w_kwA ?_
  | with_reducible refine w_kwM ?_
  | with_reducible refine w_sprK ?_
  | with_reducible refine w_get ?_
  | with_reducible refine w_makeL ?_
  | with_reducible refine w_tryN ?_
  | ((with_reducible refine o_own0 ?hv ?_); (case hv => exact rfl))
  | ((with_reducible refine o_eqO0 ?hv ?_); (case hv => exact rfl))
  | with_reducible refine w_seqI ?_
  | with_reducible refine w_argI ?_
  | with_reducible refine w_opt ?_
  | with_reducible refine w_sli ?_
  | with_reducible refine w_pure ?_
  | with_reducible refine w_disp ?_
  | with_reducible refine w_pairs1 ?_
  | with_reducible refine w_pairs0 ?_
  | with_reducible refine w_retN ?_
  | with_reducible refine w_cnt ?_
  | with_reducible refine w_brk ?_
  | with_reducible refine o_addI ?_
  | with_reducible refine o_addI' ?_
  | with_reducible refine o_sub ?_
  | with_reducible refine o_lt ?_
  | with_reducible refine o_le ?_
  | with_reducible refine o_gt ?_
  | with_reducible refine o_ge ?_
  | with_reducible refine o_eqI ?_
  | with_reducible refine o_neI ?_
  | with_reducible refine o_eqS ?_
  | with_reducible refine o_neS ?_
  | with_reducible refine o_int ?_
  | with_reducible refine o_intB ?_
  | with_reducible refine o_neg ?_
  | with_reducible refine o_abs ?_
  | with_reducible refine o_newL ?_
  | with_reducible refine o_max2 ?_
  | with_reducible refine o_min2 ?_
  | with_reducible refine o_lenL ?_
  | with_reducible refine o_lenT ?_
  | ((with_reducible refine o_tup ?hv ?_); (case hv => first | exact Nat.le_of_ble_eq_true rfl | assumption))
  | ((with_reducible refine o_lst ?hv ?_); (case hv => first | exact Nat.le_of_ble_eq_true rfl | assumption))
  | ((with_reducible refine o_isi (t := ?tv) (b := ?bv) ?h1 ?h2 ?_); (case h1 => exact rfl); (case h2 => exact rfl))
  | ((with_reducible refine o_fld (C := ?cv) (fs := ?fv) (d := ?dv) ?h1 ?h2 ?h3 ?_); (case h1 => exact rfl); (case h2 => exact rfl); (case h3 => exact rfl))
  | ((with_reducible refine Exists.intro ?kv (And.intro ?ha ?_)); (case ha => exact rfl)))
local macro_rules | `(tactic| wtm_at "body") => `(tactic| (refine w_body rfl rfl ?_; dsimp only [List.length_cons, List.length_nil, List.drop, List.append_nil, List.map_cons, List.map_nil, List.map, List.cons_append, List.nil_append, Nat.reduceAdd, Nat.reduceSub, List.replicate]))
local macro_rules | `(tactic| wtm_at "meth") => `(tactic| refine ⟨_, _, _, rfl, rfl, rfl, ?_⟩)
local macro_rules | `(tactic| wtm_at "w") => `(tactic| first | with_reducible refine w_seq ?_ | wtm_at "e")
local macro_rules | `(tactic| wtm_at "s") => `(tactic| ((repeat wtm_at "e"); (with_reducible refine w_seq ?_)))
local macro_rules | `(tactic| wtm_at "f") => `(tactic| ((repeat wtm_at "e"); (with_reducible show FP _ _)))
/-! the word with a number -/
section
variable {n : Nat} {b : Int} {s : Sto} {Q : D → Sto → Prop} {E : XT} {ps ws : List Nat} {c : Nat → Nat}
theorem q_number_of (lp : Lets ps) (hc : ∀ i ∈ ps, 1 ≤ c i) (hw : ∀ w ∈ ws, w ∈ ps) (hl : ws.length ≤ 160) (hk : costN c ws ≤ 100000) (h : ∀ o, Q (nD (plW ps c ws)) (s ++ [o])) : RP Q E (m_Order_number_of [ordD ps c, wD ws] s) := by
  have hz : sizeLine = 16777216 := by decide
  have h4 := lp.few
  wtm_at "body"
  unfold b_Order_number_of ordD
  wtm_at "s"
  repeat wtm_at "e"
  refine q_need_word hw hl (by omega) ?_
  repeat wtm_at "e"
  refine ⟨_, _, _, rfl, rfl, rfl, ?_⟩
  repeat wtm_at "e"
  exact q_place_of lp hc hw (by omega) hk h
end
/-! the sorted words -/
abbrev leC (c : Nat → Nat) (a b : List Nat) : Bool := !ltW c b a
def srtW (c : Nat → Nat) (ws : List (List Nat)) : List (List Nat) := (uniq ws).mergeSort (leC c)
section
variable {c : Nat → Nat} {ws : List (List Nat)}
theorem srtW_mem {w : List Nat} : w ∈ srtW c ws ↔ w ∈ ws := by
  unfold srtW
  rw [List.mem_mergeSort, uniq_mem]
theorem srtW_asc : (srtW c ws).Pairwise fun a b => ltW c a b = true := by
  have h1 := List.pairwise_mergeSort (le := leC c) (fun a b d h k => by
    unfold leC at *
    by_cases e : ltW c d a = true
    · by_cases q : ltW c b a = true
      · rw [q] at h; cases h
      · have : ltW c b d = false ∨ ltW c b d = true := by cases ltW c b d <;> simp
        by_cases z : a = b
        · subst z
          rw [e] at k; cases k
        · rcases ltW_tot (c := c) z with y | y
          · have := ltW_trans e y
            rw [this] at k; cases k
          · exact absurd y q
    · have : ltW c d a = false := by simpa using e
      rw [this]
      rfl) (fun a b => by
    unfold leC
    cases e : ltW c b a with
    | false => rfl
    | true =>
      rw [ltW_asym e]
      rfl) (uniq ws)
  have h2 : (srtW c ws).Nodup := (List.mergeSort_perm (uniq ws) (leC c)).nodup_iff.mpr uniq_nodup
  refine (h1.and h2).imp ?_
  rintro a b ⟨h, ne⟩
  unfold leC at h
  rcases ltW_tot (c := c) ne with y | y
  · exact y
  · rw [y] at h; cases h
end
section
variable {n : Nat} {b : Int} {s : Sto} {Q : D → Sto → Prop} {E : XT} {ps : List Nat} {c : Nat → Nat}
theorem q_sorted_words (lp : Lets ps) {ws : List (List Nat)} (hw : ∀ w ∈ ws, (∀ i ∈ w, i ∈ ps) ∧ w.length ≤ 160) (hl : ws.length ≤ 100) (h : Q (.lst ((srtW c ws).map wD)) s) : RP Q E (m_Order_sorted_words (ordD ps c :: ws.map wD) s) := by
  have hz : sizeLine = 16777216 := by decide
  have h4 := lp.few
  refine w_bodyV (by simp) (by simp; omega) rfl ?_
  show FP _ (b_Order_sorted_words [some (ordD ps c), some (.tup (ws.map wD)), none] s)
  unfold b_Order_sorted_words
  wtm_at "f"
  with_reducible refine w_mid (fun r s' => s' = s ∧ ∃ x2 : Option D, r = [some (ordD ps c), some (.tup (ws.map wD)), x2]) ?_ ?_
  · repeat wtm_at "e"
    refine w_for (fun i r s' => s' = s ∧ ∃ x2 : Option D, r = [some (ordD ps c), some (.tup (ws.map wD)), x2]) rfl ⟨rfl, _, rfl⟩ ?_ ?_
    · rintro i d r s' hd ⟨rfl, x2, rfl⟩
      have hd : (ws.map wD)[i]? = some d := hd
      rw [List.getElem?_map] at hd
      cases ew : ws[i]? with
      | none => rw [ew] at hd; cases hd
      | some w =>
        rw [ew] at hd
        cases hd
        obtain ⟨h1, h2⟩ := hw w (List.mem_of_getElem? ew)
        refine ⟨_, rfl, ?_⟩
        unfold ordD
        repeat wtm_at "e"
        refine q_need_word h1 h2 (by omega) ?_
        exact ⟨rfl, _, rfl⟩
    · rintro r s' ⟨rfl, x2, rfl⟩
      exact ⟨rfl, _, rfl⟩
  rintro r s' ⟨rfl, x2, rfl⟩
  repeat wtm_at "e"
  refine w_sortK ?_
  repeat wtm_at "e"
  refine w_dc0 ?_
  repeat wtm_at "e"
  refine w_dcU wD (.bl true) (fun w => .inr (LS w)) (fun x y e => LS_inj (Sum.inr.inj e)) rfl ws [] (by simp; omega) (fun w hw => ⟨_, wD w, rfl, ?_, rfl, ?_⟩) ?_
  · repeat wtm_at "e"
    exact ⟨rfl, rfl⟩
  · repeat wtm_at "e"
    exact ⟨rfl, rfl⟩
  repeat wtm_at "e"
  refine o_listK (m := (uniq ws).map fun w => (.inr (LS w), .bl true)) rfl ?_
  repeat wtm_at "e"
  rw [show (((uniq ws).map fun w => ((.inr (LS w) : L2.Key), D.bl true)).map fun p => keyV p.1) = (uniq ws).map wD by rw [List.map_map]; rfl]
  refine ⟨_, _, _, rfl, rfl, rfl, _, _, _, rfl, keysF_pure wD (keyW c) (fun w hwu => ?_), ?_⟩
  · obtain ⟨h1, h2⟩ := hw w (uniq_mem.mp hwu)
    exact (q_key (Q := fun v t => t = s' ∧ v = kD (keyW c w)) (E := noX) (c := c) h1 (by omega) ⟨rfl, rfl⟩).eqn
  · have e : (fun a b : List Nat => !ltKP (keyW c b) (keyW c a)) = leC c := by
      funext a b
      rw [ltKP_keyW]
    rw [List.nil_append, outK_map, e]
    exact h
end
end G
set_option Elab.async false
set_option linter.all false
set_option maxRecDepth 100000
set_option maxHeartbeats 4000000
namespace G
open Mp Pl
open PySem (Str sizeLine)
local macro_rules | `(tactic| wtm_at "e") => `(tactic| first
  | with_reducible refine w_set ?_
  | with_reducible refine w_bin ?_
  | ((with_reducible refine w_v (d := ?dv) ?hv ?_); (case hv => exact rfl))
  | with_reducible refine w_c ?_
  | with_reducible refine w_cons ?_
  | with_reducible refine w_nil ?_
  | with_reducible refine w_arg ?_
  | with_reducible refine w_call ?_
  | with_reducible refine w_if ?_
  | with_reducible refine w_ret ?_
  | with_reducible refine w_skip ?_
  | with_reducible refine w_bl ?_
  | with_reducible refine w_tru ?_
  | with_reducible refine w_attr ?_
  | with_reducible refine w_meth ?_
  | with_reducible refine w_chain ?_
  | with_reducible refine w_and ?_
  | with_reducible refine w_or ?_
  | with_reducible refine w_not ?_
  | with_reducible refine w_notT ?_
  | with_reducible refine w_andT ?_
  | with_reducible refine w_orT ?_
  | with_reducible refine w_ifM ?_
  | with_reducible refine w_expr ?_
  | with_reducible refine w_un ?_
  | with_reducible refine w_par2 ?_
  | with_reducible refine w_par3 ?_
  | with_reducible refine w_asg ?_
  | with_reducible refine w_aug ?_
  | with_reducible refine w_sub ?_
  | with_reducible refine w_fld ?_
  | with_reducible refine w_raise ?_
  | with_reducible refine w_raise0 ?_
  | with_reducible refine w_try ?_
  | with_reducible refine w_make ?_
  | with_reducible refine w_tryAs ?_
  | with_reducible refine w_exn ?_
  | ((with_reducible refine o_isx (b := ?bv) ?h1 ?_); (case h1 => exact rfl))
  | with_reducible refine w_superS ?_
  | with_reducible refine w_super ?_
  | with_reducible refine w_star ?_
  | with_reducible refine w_for0 ?_
  | with_reducible refine w_lc0 ?_
  | with_reducible refine w_lc20 ?_
  | with_reducible refine w_seqJ ?_
  | with_reducible refine w_starC ?_
  | with_reducible refine w_spr ?_
  | with_reducible refine w_kwA ?_
  | with_reducible refine w_kwM ?_
  | with_reducible refine w_sprK ?_
  | with_reducible refine w_get ?_
  | with_reducible refine w_makeL ?_
  | with_reducible refine w_tryN ?_
  | ((with_reducible refine o_own0 ?hv ?_); (case hv => exact rfl))
  | ((with_reducible refine o_eqO0 ?hv ?_); (case hv => exact rfl))
  | with_reducible refine w_seqI ?_
  | with_reducible refine w_argI ?_
  | with_reducible refine w_opt ?_
  | with_reducible refine w_sli ?_
  | with_reducible refine w_pure ?_
  | with_reducible refine w_disp ?_
  | with_reducible refine w_pairs1 ?_
  | with_reducible refine w_pairs0 ?_
  | with_reducible refine w_retN ?_
  | with_reducible refine w_cnt ?_
  | with_reducible refine w_brk ?_
  | with_reducible refine o_addI ?_
  | with_reducible refine o_addI' ?_
  | with_reducible refine o_sub ?_
  | with_reducible refine o_lt ?_
  | with_reducible refine o_le ?_
  | with_reducible refine o_gt ?_
  | with_reducible refine o_ge ?_
  | with_reducible refine o_eqI ?_
  | with_reducible refine o_neI ?_
  | with_reducible refine o_eqS ?_
  | with_reducible refine o_neS ?_
  | with_reducible refine o_int ?_
  | with_reducible refine o_intB ?_
  | with_reducible refine o_neg ?_
  | with_reducible refine o_abs ?_
  | with_reducible refine o_newL ?_
  | with_reducible refine o_max2 ?_
  | with_reducible refine o_min2 ?_
  | with_reducible refine o_lenL ?_
  | with_reducible refine o_lenT ?_
  | ((with_reducible refine o_tup ?hv ?_); (case hv => first | exact Nat.le_of_ble_eq_true rfl | assumption))
  | ((with_reducible refine o_lst ?hv ?_); (case hv => first | exact Nat.le_of_ble_eq_true rfl | assumption))
  | ((with_reducible refine o_isi (t := ?tv) (b := ?bv) ?h1 ?h2 ?_); (case h1 => exact rfl); (case h2 => exact rfl))
  | ((with_reducible refine o_fld (C := ?cv) (fs := ?fv) (d := ?dv) ?h1 ?h2 ?h3 ?_); (case h1 => exact rfl); (case h2 => exact rfl); (case h3 => exact rfl))
  | ((with_reducible refine Exists.intro ?kv (And.intro ?ha ?_)); (case ha => exact rfl)))
local macro_rules | `(tactic| wtm_at "body") => `(tactic| (refine w_body rfl rfl ?_; dsimp only [List.length_cons, List.length_nil, List.drop, List.append_nil, List.map_cons, List.map_nil, List.map, List.cons_append, List.nil_append, Nat.reduceAdd, Nat.reduceSub, List.replicate]))
local macro_rules | `(tactic| wtm_at "meth") => `(tactic| refine ⟨_, _, _, rfl, rfl, rfl, ?_⟩)
local macro_rules | `(tactic| wtm_at "w") => `(tactic| first | with_reducible refine w_seq ?_ | wtm_at "e")
local macro_rules | `(tactic| wtm_at "s") => `(tactic| ((repeat wtm_at "e"); (with_reducible refine w_seq ?_)))
local macro_rules | `(tactic| wtm_at "f") => `(tactic| ((repeat wtm_at "e"); (with_reducible show FP _ _)))
/-! the next word -/
def poss (ps : List Nat) (c : Nat → Nat) (k i : Nat) : Bool := decide (c i ≤ k ∧ 0 < cnt ps c (k - c i))
def fillW (ps : List Nat) (c : Nat → Nat) : Nat → Nat → List Nat
  | 0, _ => []
  | f + 1, k => if k = 0 then [] else match ps.filter (poss ps c k) with
    | [] => []
    | i :: _ => i :: fillW ps c f (k - c i)
def nbA (ps : List Nat) (c : Nat → Nat) (w : List Nat) (p : Nat) : List Nat := (ps.filter fun j => decide (w.getD p 0 < j)).filter (poss ps c (costN c (w.drop p)))
def nbW (ps : List Nat) (c : Nat → Nat) (w : List Nat) : Nat → Option (List Nat)
  | 0 => none
  | p + 1 => match nbA ps c w p with
    | [] => nbW ps c w p
    | b :: _ => some (w.take p ++ b :: fillW ps c (costN c (w.drop p) - c b) (costN c (w.drop p) - c b))
def laterW (ps : List Nat) (c : Nat → Nat) (L : Nat) : List Nat := (List.range 9).filter fun d => decide (0 < cnt ps c (L + 1 + d))
def afterW (ps : List Nat) (c : Nat → Nat) (w : List Nat) : List Nat := match nbW ps c w w.length with
  | some v => v
  | none => match laterW ps c (costN c w) with
    | [] => []
    | d :: _ => fillW ps c (costN c w + 1 + d) (costN c w + 1 + d)
section
variable {ps : List Nat} {c : Nat → Nat}
theorem sum_pos : ∀ {l : List Nat}, 0 < l.sum → ∃ x ∈ l, 0 < x
  | [], h => by simp at h
  | x :: l, h => by
    rw [List.sum_cons] at h
    by_cases hx : 0 < x
    · exact ⟨x, List.mem_cons_self, hx⟩
    · obtain ⟨y, hy, h2⟩ := sum_pos (l := l) (by omega)
      exact ⟨y, List.mem_cons_of_mem _ hy, h2⟩
theorem poss_ex (hc : ∀ i ∈ ps, 1 ≤ c i) {k : Nat} (hk : 0 < k) (h : 0 < cnt ps c k) : ∃ i l, ps.filter (poss ps c k) = i :: l := by
  rw [cnt_rec hk hc] at h
  obtain ⟨x, hx, h2⟩ := sum_pos h
  obtain ⟨i, hi, rfl⟩ := List.mem_map.mp hx
  obtain ⟨hi, hik⟩ := List.mem_filter.mp hi
  have : i ∈ ps.filter (poss ps c k) := List.mem_filter.mpr ⟨hi, decide_eq_true ⟨of_decide_eq_true hik, h2⟩⟩
  cases e : ps.filter (poss ps c k) with
  | nil => rw [e] at this; cases this
  | cons a l => exact ⟨a, l, rfl⟩
theorem poss_head {k i : Nat} {l : List Nat} (h : ps.filter (poss ps c k) = i :: l) : i ∈ ps ∧ c i ≤ k ∧ 0 < cnt ps c (k - c i) := by
  have : i ∈ ps.filter (poss ps c k) := by rw [h]; exact List.mem_cons_self
  obtain ⟨h1, h2⟩ := List.mem_filter.mp this
  have h2 := of_decide_eq_true h2
  exact ⟨h1, h2.1, h2.2⟩
theorem fill_mem : ∀ (f k : Nat), ∀ x ∈ fillW ps c f k, x ∈ ps
  | 0, k, x, h => by cases h
  | f + 1, k, x, h => by
    unfold fillW at h
    split at h
    · cases h
    · split at h
      · cases h
      · rename_i e
        rcases List.mem_cons.mp h with rfl | h
        · exact (poss_head e).1
        · exact fill_mem f _ x h
theorem cnt_word (lp : Lets ps) (hc : ∀ i ∈ ps, 1 ≤ c i) {w : List Nat} (h : ∀ i ∈ w, i ∈ ps) : 0 < cnt ps c (costN c w) := Nat.lt_of_le_of_lt (Nat.zero_le _) (rk_lt lp hc h)
theorem later_ex (lp : Lets ps) (hc : ∀ i ∈ ps, 1 ≤ c i ∧ c i ≤ 9) {w : List Nat} (h : ∀ i ∈ w, i ∈ ps) : ∃ d l, laterW ps c (costN c w) = d :: l := by
  obtain ⟨i, hi⟩ : ∃ i, i ∈ ps := by
    have := lp.pos
    cases ps with
    | nil => simp at this
    | cons a l => exact ⟨a, List.mem_cons_self⟩
  have h1 := hc i hi
  have hp := cnt_word lp (fun i hi => (hc i hi).1) (w := i :: w) (fun x hx => (List.mem_cons.mp hx).elim (fun e => e ▸ hi) (h x))
  have e : costN c (i :: w) = costN c w + 1 + (c i - 1) := by
    show c i + costN c w = _
    omega
  rw [e] at hp
  have : c i - 1 ∈ laterW ps c (costN c w) := List.mem_filter.mpr ⟨List.mem_range.mpr (by omega), decide_eq_true hp⟩
  cases e : laterW ps c (costN c w) with
  | nil => rw [e] at this; cases this
  | cons a l => exact ⟨a, l, rfl⟩
theorem later_head {L d : Nat} {l : List Nat} (h : laterW ps c L = d :: l) : d < 9 ∧ 0 < cnt ps c (L + 1 + d) ∧ ∀ e < d, cnt ps c (L + 1 + e) = 0 := by
  have h1 : (laterW ps c L).head? = some d := by rw [h]; rfl
  unfold laterW at h1
  rw [List.head?_filter, List.find?_range_eq_some] at h1
  obtain ⟨a, b, c'⟩ := h1
  refine ⟨List.mem_range.mp b, of_decide_eq_true a, fun e he => ?_⟩
  have := c' e he
  simp at this
  exact this
end
/-! the next word: what it is -/
def nxW (ps : List Nat) (c : Nat → Nat) : List Nat → Option (List Nat)
  | [] => none
  | i :: w => match nxW ps c w with
    | some v => some (i :: v)
    | none => match (ps.filter fun j => decide (i < j)).filter (poss ps c (costN c (i :: w))) with
      | [] => none
      | b :: _ => some (b :: fillW ps c (costN c (i :: w) - c b) (costN c (i :: w) - c b))
section
variable {ps qs : List Nat} {c d : Nat → Nat}
theorem nlt_cases {a b : List Nat} (h : ¬ a < b) : a = b ∨ b < a := by
  rcases List.le_iff_lt_or_eq.mp (List.not_lt.mp h) with z | z
  · exact .inr z
  · exact .inl z.symm
theorem sumf_le {f : Nat → Nat} {i j : Nat} (h : i < j) : ∀ l : List Nat, ((l.filter (· < i)).map f).sum ≤ ((l.filter (· < j)).map f).sum
  | [] => Nat.le_refl _
  | a :: l => by
    have ih := sumf_le (f := f) h l
    by_cases e : a < i
    · rw [List.filter_cons_of_pos (by simpa using e), List.filter_cons_of_pos (by simpa using (by omega : a < j)), List.map_cons, List.map_cons, List.sum_cons, List.sum_cons]
      omega
    · rw [List.filter_cons_of_neg (by simpa using e)]
      by_cases e2 : a < j
      · rw [List.filter_cons_of_pos (by simpa using e2), List.map_cons, List.sum_cons]
        omega
      · rw [List.filter_cons_of_neg (by simpa using e2)]
        exact ih
theorem sumf_step {f : Nat → Nat} {i j : Nat} (h : i < j) : ∀ {l : List Nat}, i ∈ l → ((l.filter (· < i)).map f).sum + f i ≤ ((l.filter (· < j)).map f).sum
  | a :: l, hm => by
    have ih0 := sumf_le (f := f) h l
    by_cases e : a < i
    · have ih := sumf_step (f := f) h (l := l) ((List.mem_cons.mp hm).resolve_left (by omega))
      rw [List.filter_cons_of_pos (by simpa using e), List.filter_cons_of_pos (by simpa using (by omega : a < j)), List.map_cons, List.map_cons, List.sum_cons, List.sum_cons]
      omega
    · rw [List.filter_cons_of_neg (by simpa using e)]
      by_cases ea : a = i
      · subst ea
        rw [List.filter_cons_of_pos (by simpa using h), List.map_cons, List.sum_cons]
        omega
      · have ih := sumf_step (f := f) h (l := l) ((List.mem_cons.mp hm).resolve_left fun z => ea z.symm)
        by_cases e2 : a < j
        · rw [List.filter_cons_of_pos (by simpa using e2), List.map_cons, List.sum_cons]
          omega
        · rw [List.filter_cons_of_neg (by simpa using e2)]
          exact ih
theorem rk_mono (lp : Lets ps) (hc : ∀ i ∈ ps, 1 ≤ c i) : ∀ {v w : List Nat}, (∀ i ∈ v, i ∈ ps) → (∀ i ∈ w, i ∈ ps) → costN c v = costN c w → v < w → rkW ps c v < rkW ps c w
  | [], [], _, _, _, h => absurd h (List.lt_irrefl _)
  | [], j :: w, _, hw, e, _ => by
    have := hc j (hw j List.mem_cons_self)
    rw [costN_cons] at e
    have e : 0 = c j + costN c w := e
    omega
  | i :: v, [], _, _, _, h => absurd h (List.not_lt_nil _)
  | i :: v, j :: w, hv, hw, e, h => by
    have hi := hv i List.mem_cons_self
    show offW ps c (costN c (i :: v)) i + rkW ps c v < offW ps c (costN c (j :: w)) j + rkW ps c w
    rcases List.cons_lt_cons_iff.mp h with h | ⟨hij, h2⟩
    · have r := rk_lt lp hc (w := v) fun x hx => hv x (List.mem_cons_of_mem _ hx)
      have st : offW ps c (costN c (i :: v)) i + _ ≤ offW ps c (costN c (i :: v)) j := sumf_step (f := fun j => if c j ≤ costN c (i :: v) then cnt ps c (costN c (i :: v) - c j) else 0) h hi
      have ek := costN_cons (c := c) i v
      rw [if_pos (by omega), show costN c (i :: v) - c i = costN c v by omega] at st
      rw [← e]
      omega
    · subst hij
      have ek : costN c v = costN c w := by
        rw [costN_cons, costN_cons] at e
        omega
      have := rk_mono lp hc (fun x hx => hv x (List.mem_cons_of_mem _ hx)) (fun x hx => hw x (List.mem_cons_of_mem _ hx)) ek h2
      rw [← e]
      omega
theorem pl_lt (lp : Lets ps) (hc : ∀ i ∈ ps, 1 ≤ c i) {v w : List Nat} (hv : ∀ i ∈ v, i ∈ ps) (hw : ∀ i ∈ w, i ∈ ps) (h : ltW c v w = true) : plW ps c v < plW ps c w := by
  unfold ltW at h
  by_cases e : costN c v = costN c w
  · rw [if_pos e] at h
    have := rk_mono lp hc hv hw e (of_decide_eq_true h)
    unfold plW
    rw [e]
    omega
  · rw [if_neg e] at h
    have h := of_decide_eq_true h
    have h1 := rk_lt lp hc hv
    have h2 := cnts_mono (ps := ps) (c := c) (show costN c v + 1 ≤ costN c w by omega)
    rw [cnts_sum] at h2
    unfold plW
    omega
theorem pl_iff (lp : Lets ps) (hc : ∀ i ∈ ps, 1 ≤ c i) {v w : List Nat} (hv : ∀ i ∈ v, i ∈ ps) (hw : ∀ i ∈ w, i ∈ ps) : ltW c v w = true ↔ plW ps c v < plW ps c w := by
  refine ⟨pl_lt lp hc hv hw, fun h => ?_⟩
  by_cases e : v = w
  · subst e
    exact absurd h (Nat.lt_irrefl _)
  · rcases ltW_tot (c := c) e with z | z
    · exact z
    · have := pl_lt lp hc hw hv z
      omega
theorem fill_spec (lp : Lets ps) (hc : ∀ i ∈ ps, 1 ≤ c i) : ∀ (f k : Nat), k ≤ f → 0 < cnt ps c k → costN c (fillW ps c f k) = k ∧ ∀ u : List Nat, (∀ i ∈ u, i ∈ ps) → costN c u = k → ¬ u < fillW ps c f k
  | 0, k, hk, h => by
    have : k = 0 := by omega
    subst this
    exact ⟨rfl, fun u _ _ => List.not_lt_nil _⟩
  | f + 1, k, hk, h => by
    unfold fillW
    by_cases h0 : k = 0
    · rw [if_pos h0]
      exact ⟨h0.symm, fun u _ _ => List.not_lt_nil _⟩
    · rw [if_neg h0]
      obtain ⟨i, l, e⟩ := poss_ex hc (by omega) h
      obtain ⟨h1, h2, h3⟩ := poss_head e
      have ci := hc i h1
      obtain ⟨ih1, ih2⟩ := fill_spec lp hc f (k - c i) (by omega) h3
      rw [e]
      dsimp only
      refine ⟨by rw [costN_cons, ih1]; omega, fun u hu ek hlt => ?_⟩
      cases u with
      | nil => exact h0 ek.symm
      | cons j u =>
        have hj := hu j List.mem_cons_self
        have hu' : ∀ x ∈ u, x ∈ ps := fun x hx => hu x (List.mem_cons_of_mem _ hx)
        have ej := costN_cons (c := c) j u
        have hcw := cnt_word lp hc hu'
        have hm : j ∈ ps.filter (poss ps c k) := List.mem_filter.mpr ⟨hj, decide_eq_true ⟨by omega, by rw [show k - c j = costN c u by omega]; exact hcw⟩⟩
        have hasc : (i :: l).Pairwise (· < ·) := by
          rw [← e]
          exact lp.asc.filter _
        have hij : i ≤ j := by
          rw [e] at hm
          rcases List.mem_cons.mp hm with rfl | hm
          · exact Nat.le_refl _
          · exact Nat.le_of_lt ((List.pairwise_cons.mp hasc).1 j hm)
        rcases List.cons_lt_cons_iff.mp hlt with z | ⟨rfl, z⟩
        · omega
        · exact ih2 u hu' (by omega) z
theorem fill_fuel : ∀ (f g k : Nat), (∀ i ∈ ps, 1 ≤ c i) → k ≤ f → k ≤ g → fillW ps c f k = fillW ps c g k
  | 0, 0, _, _, _, _ => rfl
  | 0, g + 1, k, _, h, _ => by
    have : k = 0 := by omega
    subst this
    unfold fillW
    rw [if_pos rfl]
  | f + 1, 0, k, _, _, h => by
    have : k = 0 := by omega
    subst this
    unfold fillW
    rw [if_pos rfl]
  | f + 1, g + 1, k, hc, h1, h2 => by
    unfold fillW
    by_cases h0 : k = 0
    · rw [if_pos h0, if_pos h0]
    · rw [if_neg h0, if_neg h0]
      split
      · rfl
      · rename_i i l e
        have := hc i (poss_head e).1
        rw [fill_fuel f g (k - c i) hc (by omega) (by omega)]
/-- what the next word of the same cost is -/
structure NxOk (ps : List Nat) (c : Nat → Nat) (w v : List Nat) : Prop where
  mem : ∀ i ∈ v, i ∈ ps
  cost : costN c v = costN c w
  gt : w < v
  min : ∀ u : List Nat, (∀ i ∈ u, i ∈ ps) → costN c u = costN c w → w < u → ¬ u < v
theorem nx_spec (lp : Lets ps) (hc : ∀ i ∈ ps, 1 ≤ c i) : ∀ w : List Nat, (∀ i ∈ w, i ∈ ps) → (∀ v, nxW ps c w = some v → NxOk ps c w v) ∧ (nxW ps c w = none → ∀ u : List Nat, (∀ i ∈ u, i ∈ ps) → costN c u = costN c w → ¬ w < u)
  | [], _ => by
    refine ⟨fun v h => (by cases h), fun _ u hu e h => ?_⟩
    cases u with
    | nil => exact List.lt_irrefl _ h
    | cons j u =>
      have := hc j (hu j List.mem_cons_self)
      rw [costN_cons] at e
      have e : c j + costN c u = 0 := e
      omega
  | i :: w, hw => by
    have hi := hw i List.mem_cons_self
    have hw' : ∀ x ∈ w, x ∈ ps := fun x hx => hw x (List.mem_cons_of_mem _ hx)
    obtain ⟨ih1, ih2⟩ := nx_spec lp hc w hw'
    have ek := costN_cons (c := c) i w
    have key : ∀ u : List Nat, (∀ x ∈ u, x ∈ ps) → costN c u = costN c (i :: w) → (i :: w) < u → ∃ j u', u = j :: u' ∧ (∀ x ∈ u', x ∈ ps) ∧ ((i < j ∧ j ∈ (ps.filter fun j => decide (i < j)).filter (poss ps c (costN c (i :: w))) ∧ costN c u' = costN c (i :: w) - c j) ∨ (i = j ∧ costN c u' = costN c w ∧ w < u')) := by
      intro u hu e h
      cases u with
      | nil => exact absurd h (List.not_lt_nil _)
      | cons j u =>
        have hu' : ∀ x ∈ u, x ∈ ps := fun x hx => hu x (List.mem_cons_of_mem _ hx)
        have ej := costN_cons (c := c) j u
        refine ⟨j, u, rfl, hu', ?_⟩
        rcases List.cons_lt_cons_iff.mp h with z | ⟨z, z2⟩
        · refine .inl ⟨z, List.mem_filter.mpr ⟨List.mem_filter.mpr ⟨hu j List.mem_cons_self, decide_eq_true z⟩, decide_eq_true ⟨by omega, ?_⟩⟩, by omega⟩
          rw [show costN c (i :: w) - c j = costN c u by omega]
          exact cnt_word lp hc hu'
        · subst z
          exact .inr ⟨rfl, by omega, z2⟩
    unfold nxW
    cases e1 : nxW ps c w with
    | some v =>
      have o := ih1 v e1
      dsimp only
      refine ⟨fun x hx => ?_, fun h => (by cases h)⟩
      obtain rfl := Option.some.inj hx
      refine ⟨fun x hx => (List.mem_cons.mp hx).elim (fun e => e ▸ hi) (o.mem x), by rw [costN_cons, o.cost, ek], List.cons_lt_cons_iff.mpr (.inr ⟨rfl, o.gt⟩), fun u hu e h hlt => ?_⟩
      obtain ⟨j, u', rfl, hu', q⟩ := key u hu e h
      rcases List.cons_lt_cons_iff.mp hlt with z | ⟨z, z2⟩
      · rcases q with q | q <;> omega
      · rcases q with q | q
        · omega
        · exact o.min u' hu' q.2.1 q.2.2 z2
    | none =>
      have o := ih2 e1
      dsimp only
      cases e2 : (ps.filter fun j => decide (i < j)).filter (poss ps c (costN c (i :: w))) with
      | nil =>
        dsimp only
        refine ⟨fun v h => (by cases h), fun _ u hu e h => ?_⟩
        obtain ⟨j, u', rfl, hu', q⟩ := key u hu e h
        rcases q with ⟨_, q, _⟩ | ⟨_, q1, q2⟩
        · rw [e2] at q
          cases q
        · exact o u' hu' q1 q2
      | cons b l =>
        dsimp only
        refine ⟨fun x hx => ?_, fun h => (by cases h)⟩
        obtain rfl := Option.some.inj hx
        have hb : b ∈ (ps.filter fun j => decide (i < j)).filter (poss ps c (costN c (i :: w))) := by rw [e2]; exact List.mem_cons_self
        obtain ⟨hb1, hb2⟩ := List.mem_filter.mp hb
        obtain ⟨hb0, hb1⟩ := List.mem_filter.mp hb1
        have hb1 := of_decide_eq_true hb1
        have hb2 := of_decide_eq_true hb2
        obtain ⟨f1, f2⟩ := fill_spec lp hc _ _ (Nat.le_refl _) hb2.2
        refine ⟨fun x hx => (List.mem_cons.mp hx).elim (fun e => e ▸ hb0) (fill_mem _ _ x), by rw [costN_cons, f1]; omega, List.cons_lt_cons_iff.mpr (.inl hb1), fun u hu e h hlt => ?_⟩
        obtain ⟨j, u', rfl, hu', q⟩ := key u hu e h
        rcases q with ⟨_, q, qe⟩ | ⟨_, q1, q2⟩
        · have hasc : (b :: l).Pairwise (· < ·) := by
            rw [← e2]
            exact (lp.asc.filter _).filter _
          rw [e2] at q
          have hbj : b ≤ j := by
            rcases List.mem_cons.mp q with rfl | hm
            · exact Nat.le_refl _
            · exact Nat.le_of_lt ((List.pairwise_cons.mp hasc).1 j hm)
          rcases List.cons_lt_cons_iff.mp hlt with z | ⟨rfl, z⟩
          · omega
          · exact f2 u' hu' qe z
        · exact o u' hu' q1 q2
theorem nb_cons (i : Nat) (w : List Nat) : ∀ p, nbW ps c (i :: w) (p + 1) = match nbW ps c w p with
    | some v => some (i :: v)
    | none => match (ps.filter fun j => decide (i < j)).filter (poss ps c (costN c (i :: w))) with
      | [] => none
      | b :: _ => some (b :: fillW ps c (costN c (i :: w) - c b) (costN c (i :: w) - c b))
  | 0 => rfl
  | p + 1 => by
    have ih := nb_cons i w p
    show (match nbA ps c w p with
      | [] => nbW ps c (i :: w) (p + 1)
      | b :: _ => some (i :: (w.take p ++ b :: fillW ps c (costN c (w.drop p) - c b) (costN c (w.drop p) - c b)))) = _
    rw [ih]
    show _ = (match (match nbA ps c w p with
      | [] => nbW ps c w p
      | b :: _ => some (w.take p ++ b :: fillW ps c (costN c (w.drop p) - c b) (costN c (w.drop p) - c b))) with
      | some v => some (i :: v)
      | none => _)
    cases nbA ps c w p with
    | nil => rfl
    | cons b l => rfl
theorem nb_nx : ∀ w : List Nat, nbW ps c w w.length = nxW ps c w
  | [] => rfl
  | i :: w => by
    rw [List.length_cons, nb_cons, nb_nx w]
    rfl
theorem after_spec (lp : Lets ps) (hc : ∀ i ∈ ps, 1 ≤ c i ∧ c i ≤ 9) {w : List Nat} (hw : ∀ i ∈ w, i ∈ ps) : (∀ i ∈ afterW ps c w, i ∈ ps) ∧ ltW c w (afterW ps c w) = true ∧ ∀ u : List Nat, (∀ i ∈ u, i ∈ ps) → ltW c w u = true → u = afterW ps c w ∨ ltW c (afterW ps c w) u = true := by
  have hc1 : ∀ i ∈ ps, 1 ≤ c i := fun i hi => (hc i hi).1
  obtain ⟨h1, h2⟩ := nx_spec lp hc1 w hw
  unfold afterW
  rw [nb_nx]
  cases e : nxW ps c w with
  | some v =>
    have o := h1 v e
    dsimp only
    refine ⟨o.mem, ?_, fun u hu h => ?_⟩
    · unfold ltW
      rw [if_pos o.cost.symm]
      exact decide_eq_true o.gt
    · unfold ltW at h ⊢
      by_cases eu : costN c w = costN c u
      · rw [if_pos eu] at h
        rw [if_pos (o.cost.trans eu)]
        rcases nlt_cases (o.min u hu eu.symm (of_decide_eq_true h)) with z | z
        · exact .inl z
        · exact .inr (decide_eq_true z)
      · rw [if_neg eu] at h
        rw [if_neg (by rw [o.cost]; exact eu), o.cost]
        exact .inr h
  | none =>
    have o := h2 e
    dsimp only
    obtain ⟨d, l, ed⟩ := later_ex lp hc hw
    obtain ⟨k1, k2, k3⟩ := later_head ed
    rw [ed]
    dsimp only
    obtain ⟨f1, f2⟩ := fill_spec lp hc1 _ _ (Nat.le_refl _) k2
    refine ⟨fill_mem _ _, ?_, fun u hu h => ?_⟩
    · unfold ltW
      rw [f1, if_neg (by omega)]
      exact decide_eq_true (by omega)
    · unfold ltW at h ⊢
      rw [f1]
      by_cases eu : costN c w = costN c u
      · rw [if_pos eu] at h
        exact absurd (of_decide_eq_true h) (o u hu eu.symm)
      · rw [if_neg eu] at h
        have h := of_decide_eq_true h
        have hcu := cnt_word lp hc1 hu
        have hge : costN c w + 1 + d ≤ costN c u := Nat.le_of_not_lt fun z => by
          have := k3 (costN c u - costN c w - 1) (by omega)
          rw [show costN c w + 1 + (costN c u - costN c w - 1) = costN c u by omega] at this
          omega
        by_cases eq : costN c w + 1 + d = costN c u
        · rw [if_pos eq]
          rcases nlt_cases (f2 u hu eq.symm) with z | z
          · exact .inl z
          · exact .inr (decide_eq_true z)
        · rw [if_neg eq]
          exact .inr (decide_eq_true (by omega))
/-- the next word has the next number -/
theorem after_pl (lp : Lets ps) (hc : ∀ i ∈ ps, 1 ≤ c i ∧ c i ≤ 9) {w : List Nat} (hw : ∀ i ∈ w, i ∈ ps) : plW ps c (afterW ps c w) = plW ps c w + 1 := by
  have hc1 : ∀ i ∈ ps, 1 ≤ c i := fun i hi => (hc i hi).1
  obtain ⟨h1, h2, h3⟩ := after_spec lp hc hw
  have g := pl_lt lp hc1 hw h1 h2
  by_cases e : plW ps c (afterW ps c w) = plW ps c w + 1
  · exact e
  · have hk : plW ps c w + 1 < (cnts ps c (costN c (afterW ps c w) + 1)).sum := by
      have := rk_lt lp hc1 h1
      rw [cnts_sum]
      unfold plW at g e ⊢
      omega
    obtain ⟨u, hu, _, eu⟩ := pl_ex lp hc1 hk
    have q := (pl_iff lp hc1 hw hu).mpr (by omega)
    rcases h3 u hu q with z | z
    · subst z
      exact eu
    · have := pl_lt lp hc1 h1 hu z
      omega
/-- words that keep their order when they are turned into others -/
theorem pl_emb (lp : Lets ps) (hc : ∀ i ∈ ps, 1 ≤ c i) (lq : Lets qs) (hd : ∀ i ∈ qs, 1 ≤ d i) (f : List Nat → List Nat) (hf : ∀ v : List Nat, (∀ i ∈ v, i ∈ ps) → ∀ i ∈ f v, i ∈ qs) (hm : ∀ u v : List Nat, (∀ i ∈ u, i ∈ ps) → (∀ i ∈ v, i ∈ ps) → ltW c u v = true → ltW d (f u) (f v) = true) : ∀ (n : Nat) (w : List Nat), (∀ i ∈ w, i ∈ ps) → plW ps c w = n → n ≤ plW qs d (f w)
  | 0, _, _, _ => Nat.zero_le _
  | n + 1, w, hw, e => by
    have hk : n < (cnts ps c (costN c w + 1)).sum := by
      have := rk_lt lp hc hw
      rw [cnts_sum]
      unfold plW at e
      omega
    obtain ⟨u, hu, _, eu⟩ := pl_ex lp hc hk
    have ih := pl_emb lp hc lq hd f hf hm n u hu eu
    have q := (pl_iff lp hc hu hw).mpr (by omega)
    have := pl_lt lq hd (hf u hu) (hf w hw) (hm u w hu hw q)
    omega
end
end G
set_option Elab.async false
set_option linter.all false
set_option maxRecDepth 100000
set_option maxHeartbeats 4000000
namespace G
open Mp Pl
open PySem (Str sizeLine)
local macro_rules | `(tactic| wtm_at "e") => `(tactic| first
  | with_reducible refine w_set ?_
  | with_reducible refine w_bin ?_
  | ((with_reducible refine w_v (d := ?dv) ?hv ?_); (case hv => exact rfl))
  | with_reducible refine w_c ?_
  | with_reducible refine w_cons ?_
  | with_reducible refine w_nil ?_
  | with_reducible refine w_arg ?_
  | with_reducible refine w_call ?_
  | with_reducible refine w_if ?_
  | with_reducible refine w_ret ?_
  | with_reducible refine w_skip ?_
  | with_reducible refine w_bl ?_
  | with_reducible refine w_tru ?_
  | with_reducible refine w_attr ?_
  | with_reducible refine w_meth ?_
  | with_reducible refine w_chain ?_
  | with_reducible refine w_and ?_
  | with_reducible refine w_or ?_
  | with_reducible refine w_not ?_
  | with_reducible refine w_notT ?_
  | with_reducible refine w_andT ?_
  | with_reducible refine w_orT ?_
  | with_reducible refine w_ifM ?_
  | with_reducible refine w_expr ?_
  | with_reducible refine w_un ?_
  | with_reducible refine w_par2 ?_
  | with_reducible refine w_par3 ?_
  | with_reducible refine w_asg ?_
  | with_reducible refine w_aug ?_
  | with_reducible refine w_sub ?_
  | with_reducible refine w_fld ?_
  | with_reducible refine w_raise ?_
  | with_reducible refine w_raise0 ?_
  | with_reducible refine w_try ?_
  | with_reducible refine w_make ?_
  | with_reducible refine w_tryAs ?_
  | with_reducible refine w_exn ?_
  | ((with_reducible refine o_isx (b := ?bv) ?h1 ?_); (case h1 => exact rfl))
  | with_reducible refine w_superS ?_
  | with_reducible refine w_super ?_
  | with_reducible refine w_star ?_
  | with_reducible refine w_for0 ?_
  | with_reducible refine w_lc0 ?_
  | with_reducible refine w_lc20 ?_
  | with_reducible refine w_seqJ ?_
  | with_reducible refine w_starC ?_
  | with_reducible refine w_spr ?_
  | with_reducible refine w_kwA ?_
  | with_reducible refine w_kwM ?_
  | with_reducible refine w_sprK ?_
  | with_reducible refine w_get ?_
  | with_reducible refine w_makeL ?_
  | with_reducible refine w_tryN ?_
  | ((with_reducible refine o_own0 ?hv ?_); (case hv => exact rfl))
  | ((with_reducible refine o_eqO0 ?hv ?_); (case hv => exact rfl))
  | with_reducible refine w_seqI ?_
  | with_reducible refine w_argI ?_
  | with_reducible refine w_opt ?_
  | with_reducible refine w_sli ?_
  | with_reducible refine w_pure ?_
  | with_reducible refine w_disp ?_
  | with_reducible refine w_pairs1 ?_
  | with_reducible refine w_pairs0 ?_
  | with_reducible refine w_retN ?_
  | with_reducible refine w_cnt ?_
  | with_reducible refine w_brk ?_
  | with_reducible refine o_addI ?_
  | with_reducible refine o_addI' ?_
  | with_reducible refine o_sub ?_
  | with_reducible refine o_lt ?_
  | with_reducible refine o_le ?_
  | with_reducible refine o_gt ?_
  | with_reducible refine o_ge ?_
  | with_reducible refine o_eqI ?_
  | with_reducible refine o_neI ?_
  | with_reducible refine o_eqS ?_
  | with_reducible refine o_neS ?_
  | with_reducible refine o_int ?_
  | with_reducible refine o_intB ?_
  | with_reducible refine o_neg ?_
  | with_reducible refine o_abs ?_
  | with_reducible refine o_newL ?_
  | with_reducible refine o_max2 ?_
  | with_reducible refine o_min2 ?_
  | with_reducible refine o_lenL ?_
  | with_reducible refine o_lenT ?_
  | ((with_reducible refine o_tup ?hv ?_); (case hv => first | exact Nat.le_of_ble_eq_true rfl | assumption))
  | ((with_reducible refine o_lst ?hv ?_); (case hv => first | exact Nat.le_of_ble_eq_true rfl | assumption))
  | ((with_reducible refine o_isi (t := ?tv) (b := ?bv) ?h1 ?h2 ?_); (case h1 => exact rfl); (case h2 => exact rfl))
  | ((with_reducible refine o_fld (C := ?cv) (fs := ?fv) (d := ?dv) ?h1 ?h2 ?h3 ?_); (case h1 => exact rfl); (case h2 => exact rfl); (case h3 => exact rfl))
  | ((with_reducible refine Exists.intro ?kv (And.intro ?ha ?_)); (case ha => exact rfl)))
local macro_rules | `(tactic| wtm_at "body") => `(tactic| (refine w_body rfl rfl ?_; dsimp only [List.length_cons, List.length_nil, List.drop, List.append_nil, List.map_cons, List.map_nil, List.map, List.cons_append, List.nil_append, Nat.reduceAdd, Nat.reduceSub, List.replicate]))
local macro_rules | `(tactic| wtm_at "meth") => `(tactic| refine ⟨_, _, _, rfl, rfl, rfl, ?_⟩)
local macro_rules | `(tactic| wtm_at "w") => `(tactic| first | with_reducible refine w_seq ?_ | wtm_at "e")
local macro_rules | `(tactic| wtm_at "s") => `(tactic| ((repeat wtm_at "e"); (with_reducible refine w_seq ?_)))
local macro_rules | `(tactic| wtm_at "f") => `(tactic| ((repeat wtm_at "e"); (with_reducible show FP _ _)))
/-! the next word: the program -/
section
variable {n : Nat} {b : Int} {s : Sto} {Q : D → Sto → Prop} {E : XT} {ps ws : List Nat} {c : Nat → Nat}
theorem w_range3 {i j : Int} (h1 : -(2 ^ 62) ≤ i) (h2 : i < 2 ^ 62) (h3 : -(2 ^ 62) ≤ j) (h4 : j < 2 ^ 62) {Q : Src → Sto → Prop} (h : Q ⟨(List.range (i - j).toNat).map fun k => .int (i + (k : Nat) * -1), none⟩ s) : RP Q E (rangeD3 [.int i, .int j, .int (-1)] s) := by
  unfold rangeD3
  dsimp only
  rw [if_pos ⟨rfl, h1, h2, h3, h4⟩]
  exact h
theorem o_eqBl' {x y : Bool} (h : Q (.bl (decide (x = y))) s) : RP Q E (eqD (.bl x) (.bl y) s) := by
  cases x <;> cases y <;> exact h
theorem o_gtCh {i j : Nat} (h : Q (.bl (decide (j < i))) s) : RP Q E (gtI (.str (ch i)) (.str (ch j)) s) := by
  have e : decide ((ch j).cps.toList < (ch i).cps.toList) = decide (j < i) := by
    refine decide_eq_decide.mpr ?_
    show [97 + j] < [97 + i] ↔ _
    rw [List.cons_lt_cons_iff]
    constructor
    · rintro (z | ⟨_, z⟩)
      · omega
      · exact absurd z (List.lt_irrefl _)
    · intro z
      exact .inl (by omega)
  show Q (.bl (decide ((ch j).cps.toList < (ch i).cps.toList))) s
  rw [e]
  exact h
theorem o_neNilF {l : List Nat} (hl : ∀ i ∈ l, i < 26) (h : Q (.bl (!l.isEmpty)) s) : RP Q E (neD (.lst (l.map chD)) (.lst []) s) := by
  have e : neD (.lst (l.map chD)) (.lst []) s = eqG0 true (.lst (l.map chD)) (.lst []) s := rfl
  rw [e]
  have e1 : toPy (.lst (l.map chD)) = some (.list (l.map fun i => PySem.PyData.str (ch i))) := by
    rw [toPy, toPys_chs]
    rfl
  have e2 : toPy (.lst []) = some (.list []) := rfl
  have e0 : PySem.SeqAt.shaped (.list (l.map fun i => PySem.PyData.str (ch i))) = true := by
    unfold PySem.SeqAt.shaped
    rw [PySem.PyData.canLay0, lay_chs hl, PySem.PyData.depth, dep_chs]
    rfl
  unfold eqG0
  rw [e1, e2]
  dsimp only
  rw [if_pos (by rw [e0]; rfl)]
  have e3 : PySem.PyData.eqv (.list (l.map fun i => PySem.PyData.str (ch i))) (.list []) = l.isEmpty := by
    rw [PySem.PyData.eqv]
    cases l with
    | nil => rfl
    | cons i c => rfl
  show Q (.bl (if true = true then !PySem.PyData.eqv (.list (l.map fun i => PySem.PyData.str (ch i))) (.list []) else _)) s
  rw [e3]
  exact h
theorem fill_step {k i : Nat} {l : List Nat} (hc : ∀ i ∈ ps, 1 ≤ c i) (h0 : 0 < k) (e : ps.filter (poss ps c k) = i :: l) : fillW ps c k k = i :: fillW ps c (k - c i) (k - c i) := by
  obtain ⟨m, rfl⟩ : ∃ m, k = m + 1 := ⟨k - 1, by omega⟩
  conv => lhs; unfold fillW
  rw [if_neg (by omega), e]
  have := hc i (poss_head e).1
  dsimp only
  rw [fill_fuel m (m + 1 - c i) (m + 1 - c i) hc (by omega) (Nat.le_refl _)]
theorem fill_len (hc : ∀ i ∈ ps, 1 ≤ c i) (lp : Lets ps) {k : Nat} (h : 0 < cnt ps c k) : (fillW ps c k k).length ≤ k := by
  have h1 := len_cost hc (w := fillW ps c k k) (fill_mem _ _)
  rw [(fill_spec lp hc k k (Nat.le_refl _) h).1] at h1
  exact h1
theorem LS_one (i : Nat) : ch i = LS [i] := rfl
theorem q_filled (lp : Lets ps) (hc : ∀ i ∈ ps, 1 ≤ c i) {k K t : Nat} (hk : k < K) (hK : K ≤ 100000) (hs : s[t]? = some (some (.lst ((cnts ps c K).map nD)))) (hp : 0 < cnt ps c k) (h : Q (wD (fillW ps c k k)) s) : RP Q E (m_Order_filled [ordD ps c, nD k, .cel t, .bl false] s) := by
  have hz : sizeLine = 16777216 := by decide
  have h4 := lp.few
  have hfl := fill_len hc lp hp
  wtm_at "body"
  unfold b_Order_filled ordD
  wtm_at "s"
  repeat wtm_at "e"
  refine ⟨fun z => (by cases z), fun _ => ?_⟩
  repeat wtm_at "e"
  refine ⟨_, _, rfl, ?_⟩
  wtm_at "f"
  with_reducible refine w_mid (fun r s' => s' = s ∧ ∃ x1 x5 x6 x7 : Option D, r = [some (ordD ps c), x1, some (.cel t), some (.bl false), some (wD (fillW ps c k k)), x5, x6, x7]) ?_ ?_
  · refine w_while (fun m r s' => s' = s ∧ ∃ (pre : List Nat) (x6 x7 : Option D), pre ++ fillW ps c m m = fillW ps c k k ∧ m ≤ k ∧ 0 < cnt ps c m ∧ r = [some (ordD ps c), some (nD m), some (.cel t), some (.bl false), some (wD pre), some (.str (LS ps)), x6, x7]) ?_ k _ _ ⟨rfl, [], _, _, rfl, Nat.le_refl _, hp, rfl⟩
    rintro m r s' ⟨rfl, pre, x6, x7, e, hm, hpm, rfl⟩
    have hpl : pre.length ≤ k := by
      have : (pre ++ fillW ps c m m).length ≤ k := by rw [e]; exact hfl
      rw [List.length_append] at this
      omega
    repeat wtm_at "e"
    refine ⟨fun z => ?_, fun z => ?_⟩
    · have z := of_decide_eq_true z
      have hm0 : 0 < m := by omega
      obtain ⟨i, l, ef⟩ := poss_ex hc hm0 hpm
      obtain ⟨hi, hci, hpi⟩ := poss_head ef
      have ci := hc i hi
      have es := fill_step hc hm0 ef
      wtm_at "s"
      repeat wtm_at "e"
      rw [LS_chars]
      refine w_lcY ps chD chD (poss ps c m) rfl rfl (by omega) (fun j hj => ⟨_, rfl, ?_, fun _ => ?_⟩) ?_
      · unfold ordD
        repeat wtm_at "e"
        refine ⟨_, _, _, rfl, rfl, rfl, ?_⟩
        repeat wtm_at "e"
        refine q_possible hj (hc j hj) (by omega) hs ?_
        exact ⟨_, rfl, rfl, rfl⟩
      · repeat wtm_at "e"
        exact ⟨rfl, rfl⟩
      repeat wtm_at "e"
      rw [ef]
      refine o_idxL (k := 0) rfl rfl ?_
      refine o_addS (by rw [LS_len]; show _ + 1 ≤ _; omega) ?_
      rw [LS_one, LS_app]
      repeat wtm_at "e"
      refine o_idxL (k := 0) rfl rfl ?_
      unfold ordD
      repeat wtm_at "e"
      refine o_idxD (n := 0) (m := byL ps fun i => nD (c i)) rfl rfl (byL_get hi) ?_
      repeat wtm_at "e"
      refine ⟨m - c i, by omega, rfl, pre ++ [i], some (.lst ((i :: l).map chD)), x7, ?_, by omega, hpi, ?_⟩
      · rw [List.append_assoc, ← e, es]
        rfl
      · rw [show ((m : Nat) : Int) - ((c i : Nat) : Int) = ((m - c i : Nat) : Int) by omega]
        rfl
    · have z := of_decide_eq_false z
      have hm0 : m = 0 := by omega
      subst hm0
      have e0 : fillW ps c 0 0 = [] := rfl
      rw [e0, List.append_nil] at e
      subst e
      exact ⟨rfl, _, _, _, _, rfl⟩
  rintro r s' ⟨rfl, x1, x5, x6, x7, rfl⟩
  repeat wtm_at "e"
  exact h
def optW : Option (List Nat) → D
  | none => .non
  | some v => wD v
theorem q_neighbor (lp : Lets ps) (hc : ∀ i ∈ ps, 1 ≤ c i) {K t : Nat} (hw : ∀ w ∈ ws, w ∈ ps) (hl : ws.length ≤ 100000) (hk : costN c ws < K) (hK : K ≤ 100000) (hs : s[t]? = some (some (.lst ((cnts ps c K).map nD)))) (h : Q (optW (nbW ps c ws ws.length)) s) : RP Q E (m_Order_neighbor [ordD ps c, wD ws, .cel t, .bl true] s) := by
  have hz : sizeLine = 16777216 := by decide
  have h4 := lp.few
  wtm_at "body"
  unfold b_Order_neighbor
  wtm_at "s"
  wtm_at "f"
  with_reducible refine w_mid (fun r s' => s' = s ∧ nbW ps c ws ws.length = none) ?_ ?_
  · repeat wtm_at "e"
    refine o_lenS (by rw [LS_len]; omega) ?_
    rw [LS_len]
    repeat wtm_at "e"
    refine w_range3 (by omega) (by omega) (by decide) (by decide) ?_
    rw [show (((ws.length : Nat) : Int) - 1 - -1).toNat = ws.length by omega]
    refine w_for (fun m r s' => s' = s ∧ m ≤ ws.length ∧ nbW ps c ws ws.length = nbW ps c ws (ws.length - m) ∧ ∃ x5 x6 x7 x8 x9 : Option D, r = [some (ordD ps c), some (wD ws), some (.cel t), some (.bl true), some (nD (costN c (ws.drop (ws.length - m)))), x5, x6, x7, x8, x9]) rfl ⟨rfl, Nat.zero_le _, rfl, _, _, _, _, _, by rw [Nat.sub_zero, List.drop_length]; rfl⟩ ?_ ?_
    · rintro m d r s' hd ⟨rfl, hml, hnb, x5, x6, x7, x8, x9, rfl⟩
      have hd : ((List.range ws.length).map fun k => D.int (((ws.length : Nat) : Int) - 1 + (k : Nat) * -1))[m]? = some d := hd
      rw [List.getElem?_map] at hd
      have hm : m < ws.length := by
        rcases Nat.lt_or_ge m ws.length with z | z
        · exact z
        · rw [List.getElem?_eq_none (by rw [List.length_range]; exact z)] at hd
          cases hd
      rw [List.getElem?_range hm] at hd
      obtain ⟨p, hp⟩ : ∃ p, p = ws.length - 1 - m := ⟨_, rfl⟩
      have hd : D.int (((ws.length : Nat) : Int) - 1 + (m : Nat) * -1) = d := Option.some.inj hd
      rw [show ((ws.length : Nat) : Int) - 1 + (m : Nat) * -1 = ((p : Nat) : Int) by omega] at hd
      subst hd
      have hpl : p < ws.length := by omega
      have hpm : ws.length - m = p + 1 := by omega
      obtain ⟨i, ew⟩ : ∃ i, ws[p]? = some i := ⟨ws[p], List.getElem?_eq_getElem hpl⟩
      have hi := hw i (List.mem_of_getElem? ew)
      have ed := drop_cons ew
      have ecost : ((costN c (ws.drop (p + 1)) : Nat) : Int) + ((c i : Nat) : Int) = ((costN c (ws.drop p) : Nat) : Int) := by
        rw [ed, costN_cons]
        omega
      have hcl := costN_mono (c := c) (ws := ws) (m := p)
      have eg : ws.getD p 0 = i := by rw [List.getD_eq_getElem?_getD, ew]; rfl
      rw [hpm] at hnb ⊢
      refine ⟨_, rfl, ?_⟩
      unfold ordD
      wtm_at "s"
      repeat wtm_at "e"
      refine idx_LS (k := p) (by omega) rfl ew ?_
      wtm_at "s"
      repeat wtm_at "e"
      refine o_idxD (n := 0) (m := byL ps fun i => nD (c i)) rfl rfl (byL_get hi) ?_
      repeat wtm_at "e"
      rw [ecost]
      wtm_at "s"
      repeat wtm_at "e"
      rw [LS_chars]
      refine w_lcY ps chD chD (fun j => decide (i < j)) rfl rfl (by omega) (fun j hj => ⟨_, rfl, ?_, fun _ => ?_⟩) ?_
      · repeat wtm_at "e"
        refine ⟨fun z => ?_, fun z => ?_⟩
        · repeat wtm_at "e"
          refine o_gtCh ?_
          repeat wtm_at "e"
          refine o_eqBl' ?_
          exact ⟨_, rfl, rfl, by simp⟩
        · have z : ch j = ch i := by simpa using z
          have : j = i := by
            have q : LS [j] = LS [i] := z
            have := LS_inj q
            simpa using this
          subst this
          exact ⟨rfl, by simp⟩
      · repeat wtm_at "e"
        exact ⟨rfl, rfl⟩
      wtm_at "s"
      repeat wtm_at "e"
      refine w_lcY (ps.filter fun j => decide (i < j)) chD chD (poss ps c (costN c (ws.drop p))) rfl rfl (by have := List.length_filter_le (fun j => decide (i < j)) ps; omega) (fun j hj => ⟨_, rfl, ?_, fun _ => ?_⟩) ?_
      · have hj := (List.mem_filter.mp hj).1
        repeat wtm_at "e"
        refine ⟨_, _, _, rfl, rfl, rfl, ?_⟩
        repeat wtm_at "e"
        refine q_possible hj (hc j hj) (by omega) hs ?_
        exact ⟨_, rfl, rfl, rfl⟩
      · repeat wtm_at "e"
        exact ⟨rfl, rfl⟩
      have eA : (ps.filter fun j => decide (i < j)).filter (poss ps c (costN c (ws.drop p))) = nbA ps c ws p := by
        unfold nbA
        rw [eg]
      rw [eA]
      repeat wtm_at "e"
      refine o_neNilF (fun j hj => by
        rw [← eA] at hj
        exact lp.lt j (List.mem_filter.mp (List.mem_filter.mp hj).1).1) ?_
      refine ⟨_, rfl, fun z => ?_, fun z => ?_⟩
      · cases eN : nbA ps c ws p with
        | nil => rw [eN] at z; cases z
        | cons b l =>
          have hb : b ∈ (ps.filter fun j => decide (i < j)).filter (poss ps c (costN c (ws.drop p))) := by rw [eA, eN]; exact List.mem_cons_self
          obtain ⟨hb1, hb2⟩ := List.mem_filter.mp hb
          obtain ⟨hb0, _⟩ := List.mem_filter.mp hb1
          have hb2 := of_decide_eq_true hb2
          have hfl := fill_len hc lp hb2.2
          wtm_at "s"
          repeat wtm_at "e"
          refine ⟨fun _ => ?_, fun z => (by cases z)⟩
          repeat wtm_at "e"
          refine o_idxL (k := 0) rfl rfl ?_
          repeat wtm_at "e"
          refine o_sliS (by rw [LS_len]; omega) ?_
          rw [LS_cutl (by omega)]
          have htl : (ws.take p).length = p := by rw [List.length_take]; omega
          refine o_addS (by rw [LS_len, htl]; show _ + 1 ≤ _; omega) ?_
          rw [LS_one b, LS_app]
          repeat wtm_at "e"
          refine ⟨_, _, _, rfl, rfl, rfl, ?_⟩
          repeat wtm_at "e"
          refine o_idxD (n := 0) (m := byL ps fun i => nD (c i)) rfl rfl (byL_get hb0) ?_
          repeat wtm_at "e"
          rw [show ((costN c (ws.drop p) : Nat) : Int) - ((c b : Nat) : Int) = ((costN c (ws.drop p) - c b : Nat) : Int) by omega]
          refine q_filled lp hc (by omega) hK hs hb2.2 ?_
          refine o_addS (by rw [LS_len, LS_len, List.length_append, htl, List.length_singleton]; omega) ?_
          rw [LS_app]
          have en : nbW ps c ws ws.length = some (ws.take p ++ [b] ++ fillW ps c (costN c (ws.drop p) - c b) (costN c (ws.drop p) - c b)) := by
            rw [hnb]
            show (match nbA ps c ws p with
              | [] => nbW ps c ws p
              | b :: _ => some (ws.take p ++ b :: fillW ps c (costN c (ws.drop p) - c b) (costN c (ws.drop p) - c b))) = _
            rw [eN]
            simp
          rw [en] at h
          exact h
      · cases eN : nbA ps c ws p with
        | cons b l => rw [eN] at z; cases z
        | nil =>
          repeat wtm_at "e"
          refine ⟨rfl, hm, ?_⟩
          rw [show ws.length - (m + 1) = p by omega]
          refine ⟨?_, _, _, _, _, _, rfl⟩
          rw [hnb]
          show (match nbA ps c ws p with
            | [] => nbW ps c ws p
            | b :: _ => some (ws.take p ++ b :: fillW ps c (costN c (ws.drop p) - c b) (costN c (ws.drop p) - c b))) = _
          rw [eN]
    · rintro r s' ⟨rfl, hml, hnb, x5, x6, x7, x8, x9, rfl⟩
      refine ⟨rfl, ?_⟩
      have e0 : ((List.range ws.length).map fun k => D.int (((ws.length : Nat) : Int) - 1 + (k : Nat) * -1)).length = ws.length := by simp
      have hnb : nbW ps c ws ws.length = nbW ps c ws (ws.length - ((List.range ws.length).map fun k => D.int (((ws.length : Nat) : Int) - 1 + (k : Nat) * -1)).length) := hnb
      rw [e0, Nat.sub_self] at hnb
      exact hnb
  rintro r s' ⟨rfl, e⟩
  repeat wtm_at "e"
  rw [e] at h
  exact h
theorem q_follower (lp : Lets ps) (hc : ∀ i ∈ ps, 1 ≤ c i ∧ c i ≤ 9) (hw : ∀ w ∈ ws, w ∈ ps) (hl : ws.length ≤ 10000) (hk : costN c ws ≤ 90000) (h : ∀ o, Q (wD (afterW ps c ws)) (s ++ [o])) : RP Q E (m_Order_follower [ordD ps c, wD ws] s) := by
  have hz : sizeLine = 16777216 := by decide
  have h4 := lp.few
  have hc1 : ∀ i ∈ ps, 1 ≤ c i := fun i hi => (hc i hi).1
  wtm_at "body"
  unfold b_Order_follower ordD
  wtm_at "s"
  repeat wtm_at "e"
  refine ⟨_, _, _, rfl, rfl, rfl, ?_⟩
  repeat wtm_at "e"
  refine q_cost_of hw (by omega) ?_
  wtm_at "s"
  repeat wtm_at "e"
  refine ⟨_, _, _, rfl, rfl, rfl, ?_⟩
  repeat wtm_at "e"
  rw [show ((costN c ws : Nat) : Int) + 9 = ((costN c ws + 9 : Nat) : Int) by omega]
  refine q_counts_to lp hc1 (by omega) ?_
  obtain ⟨S, hS⟩ : ∃ S, S = s ++ [some (Ct.lst ((cnts ps c (costN c ws + 9 + 1)).map nD))] := ⟨_, rfl⟩
  have hs : S[s.length]? = some (some (.lst ((cnts ps c (costN c ws + 9 + 1)).map nD))) := by rw [hS]; simp
  rw [← hS]
  wtm_at "s"
  repeat wtm_at "e"
  refine ⟨_, _, _, rfl, rfl, rfl, ?_⟩
  repeat wtm_at "e"
  refine q_neighbor lp hc1 hw (by omega) (by omega) (by omega) hs ?_
  have hq : Q (wD (afterW ps c ws)) S := by rw [hS]; exact h _
  unfold afterW at hq
  cases e : nbW ps c ws ws.length with
  | some v =>
    rw [e] at hq
    wtm_at "f"
    with_reducible refine w_seq ?_
    repeat wtm_at "e"
    refine RP.of (a := .bl true) rfl ?_
    refine ⟨_, rfl, fun _ => ?_, fun z => (by cases z)⟩
    repeat wtm_at "e"
    exact hq
  | none =>
    rw [e] at hq
    dsimp only at hq
    obtain ⟨d, l, ed⟩ := later_ex lp hc hw
    obtain ⟨k1, k2, k3⟩ := later_head ed
    rw [ed] at hq
    dsimp only at hq
    wtm_at "f"
    with_reducible refine w_seq ?_
    repeat wtm_at "e"
    refine RP.of (a := .bl false) rfl ?_
    refine ⟨_, rfl, fun z => (by cases z), fun _ => ?_⟩
    repeat wtm_at "e"
    wtm_at "s"
    repeat wtm_at "e"
    refine w_range2 (by omega) (by omega) (by omega) (by omega) ?_
    rw [show (((costN c ws : Nat) : Int) + 9 + 1 - (((costN c ws : Nat) : Int) + 1)).toNat = 9 by omega]
    refine w_lcY (List.range 9) (fun e => .int (((costN c ws : Nat) : Int) + 1 + (e : Nat))) (fun e => .int (((costN c ws : Nat) : Int) + 1 + (e : Nat))) (fun e => decide (0 < cnt ps c (costN c ws + 1 + e))) rfl rfl (by decide) (fun j hj => ⟨_, rfl, ?_, fun _ => ?_⟩) ?_
    · have hj := List.mem_range.mp hj
      repeat wtm_at "e"
      refine o_idxC (k := costN c ws + 1 + j) hs (by omega) (by rw [List.getElem?_map, cnts_get (by omega)]; rfl) ?_
      repeat wtm_at "e"
      exact ⟨rfl, by apply decide_eq_decide.mpr; omega⟩
    · repeat wtm_at "e"
      exact ⟨rfl, rfl⟩
    repeat wtm_at "e"
    rw [show ((List.range 9).filter fun e => decide (0 < cnt ps c (costN c ws + 1 + e))) = laterW ps c (costN c ws) from rfl, ed]
    refine ⟨_, _, _, rfl, rfl, rfl, ?_⟩
    repeat wtm_at "e"
    refine o_idxL (k := 0) rfl rfl ?_
    repeat wtm_at "e"
    show RP _ _ (m_Order_filled [ordD ps c, .int (((costN c ws : Nat) : Int) + 1 + ((d : Nat) : Int)), .cel s.length, .bl false] S)
    rw [show ((costN c ws : Nat) : Int) + 1 + ((d : Nat) : Int) = ((costN c ws + 1 + d : Nat) : Int) by omega]
    exact q_filled lp hc1 (by omega) (by omega) hs k2 hq
theorem q_after (lp : Lets ps) (hc : ∀ i ∈ ps, 1 ≤ c i ∧ c i ≤ 9) (hw : ∀ w ∈ ws, w ∈ ps) (hl : ws.length ≤ 160) (hk : costN c ws ≤ 90000) (h : ∀ o, Q (wD (afterW ps c ws)) (s ++ [o])) : RP Q E (m_Order_after [ordD ps c, wD ws] s) := by
  have hz : sizeLine = 16777216 := by decide
  have h4 := lp.few
  wtm_at "body"
  unfold b_Order_after ordD
  wtm_at "s"
  repeat wtm_at "e"
  refine q_need_word hw hl (by omega) ?_
  repeat wtm_at "e"
  refine ⟨_, _, _, rfl, rfl, rfl, ?_⟩
  repeat wtm_at "e"
  exact q_follower lp hc hw (by omega) hk h
end
end G
set_option Elab.async false
set_option linter.all false
set_option maxRecDepth 100000
set_option maxHeartbeats 4000000
namespace G
open Mp Pl
open PySem (Str sizeLine)
local macro_rules | `(tactic| wtm_at "e") => `(tactic| first
  | with_reducible refine w_set ?_
  | with_reducible refine w_bin ?_
  | ((with_reducible refine w_v (d := ?dv) ?hv ?_); (case hv => exact rfl))
  | with_reducible refine w_c ?_
  | with_reducible refine w_cons ?_
  | with_reducible refine w_nil ?_
  | with_reducible refine w_arg ?_
  | with_reducible refine w_call ?_
  | with_reducible refine w_if ?_
  | with_reducible refine w_ret ?_
  | with_reducible refine w_skip ?_
  | with_reducible refine w_bl ?_
  | with_reducible refine w_tru ?_
  | with_reducible refine w_attr ?_
  | with_reducible refine w_meth ?_
  | with_reducible refine w_chain ?_
  | with_reducible refine w_and ?_
  | with_reducible refine w_or ?_
  | with_reducible refine w_not ?_
  | with_reducible refine w_notT ?_
  | with_reducible refine w_andT ?_
  | with_reducible refine w_orT ?_
  | with_reducible refine w_ifM ?_
  | with_reducible refine w_expr ?_
  | with_reducible refine w_un ?_
  | with_reducible refine w_par2 ?_
  | with_reducible refine w_par3 ?_
  | with_reducible refine w_asg ?_
  | with_reducible refine w_aug ?_
  | with_reducible refine w_sub ?_
  | with_reducible refine w_fld ?_
  | with_reducible refine w_raise ?_
  | with_reducible refine w_raise0 ?_
  | with_reducible refine w_try ?_
  | with_reducible refine w_make ?_
  | with_reducible refine w_tryAs ?_
  | with_reducible refine w_exn ?_
  | ((with_reducible refine o_isx (b := ?bv) ?h1 ?_); (case h1 => exact rfl))
  | with_reducible refine w_superS ?_
  | with_reducible refine w_super ?_
  | with_reducible refine w_star ?_
  | with_reducible refine w_for0 ?_
  | with_reducible refine w_lc0 ?_
  | with_reducible refine w_lc20 ?_
  | with_reducible refine w_seqJ ?_
  | with_reducible refine w_starC ?_
  | with_reducible refine w_spr ?_
  | with_reducible refine w_kwA ?_
  | with_reducible refine w_kwM ?_
  | with_reducible refine w_sprK ?_
  | with_reducible refine w_get ?_
  | with_reducible refine w_makeL ?_
  | with_reducible refine w_tryN ?_
  | ((with_reducible refine o_own0 ?hv ?_); (case hv => exact rfl))
  | ((with_reducible refine o_eqO0 ?hv ?_); (case hv => exact rfl))
  | with_reducible refine w_seqI ?_
  | with_reducible refine w_argI ?_
  | with_reducible refine w_opt ?_
  | with_reducible refine w_sli ?_
  | with_reducible refine w_pure ?_
  | with_reducible refine w_disp ?_
  | with_reducible refine w_pairs1 ?_
  | with_reducible refine w_pairs0 ?_
  | with_reducible refine w_retN ?_
  | with_reducible refine w_cnt ?_
  | with_reducible refine w_brk ?_
  | with_reducible refine o_addI ?_
  | with_reducible refine o_addI' ?_
  | with_reducible refine o_sub ?_
  | with_reducible refine o_lt ?_
  | with_reducible refine o_le ?_
  | with_reducible refine o_gt ?_
  | with_reducible refine o_ge ?_
  | with_reducible refine o_eqI ?_
  | with_reducible refine o_neI ?_
  | with_reducible refine o_eqS ?_
  | with_reducible refine o_neS ?_
  | with_reducible refine o_int ?_
  | with_reducible refine o_intB ?_
  | with_reducible refine o_neg ?_
  | with_reducible refine o_abs ?_
  | with_reducible refine o_newL ?_
  | with_reducible refine o_max2 ?_
  | with_reducible refine o_min2 ?_
  | with_reducible refine o_lenL ?_
  | with_reducible refine o_lenT ?_
  | ((with_reducible refine o_tup ?hv ?_); (case hv => first | exact Nat.le_of_ble_eq_true rfl | assumption))
  | ((with_reducible refine o_lst ?hv ?_); (case hv => first | exact Nat.le_of_ble_eq_true rfl | assumption))
  | ((with_reducible refine o_isi (t := ?tv) (b := ?bv) ?h1 ?h2 ?_); (case h1 => exact rfl); (case h2 => exact rfl))
  | ((with_reducible refine o_fld (C := ?cv) (fs := ?fv) (d := ?dv) ?h1 ?h2 ?h3 ?_); (case h1 => exact rfl); (case h2 => exact rfl); (case h3 => exact rfl))
  | ((with_reducible refine Exists.intro ?kv (And.intro ?ha ?_)); (case ha => exact rfl)))
local macro_rules | `(tactic| wtm_at "body") => `(tactic| (refine w_body rfl rfl ?_; dsimp only [List.length_cons, List.length_nil, List.drop, List.append_nil, List.map_cons, List.map_nil, List.map, List.cons_append, List.nil_append, Nat.reduceAdd, Nat.reduceSub, List.replicate]))
local macro_rules | `(tactic| wtm_at "meth") => `(tactic| refine ⟨_, _, _, rfl, rfl, rfl, ?_⟩)
local macro_rules | `(tactic| wtm_at "w") => `(tactic| first | with_reducible refine w_seq ?_ | wtm_at "e")
local macro_rules | `(tactic| wtm_at "s") => `(tactic| ((repeat wtm_at "e"); (with_reducible refine w_seq ?_)))
local macro_rules | `(tactic| wtm_at "f") => `(tactic| ((repeat wtm_at "e"); (with_reducible show FP _ _)))
/-! the word with any number -/
section
variable {n : Nat} {b : Int} {s : Sto} {Q : D → Sto → Prop} {E : XT} {ps ws : List Nat} {c : Nat → Nat}
theorem w_listVals {k : Bool} {a : DE} {r : En} (h : RP (fun x s1 => ∃ m, dctOf s1 x = some m ∧ RP Q E (newL k (m.map (·.2)) s1)) E (a r s)) : RP Q E (listValsM k a r s) := w_bind (h.mono (fun x s ⟨m, e, h⟩ => by
  rw [e]
  exact h) fun _ _ _ h => h)
def mxW (ps : List Nat) (c : Nat → Nat) : Nat := (ps.map c).foldl max 0
theorem foldl_max : ∀ (l : List Nat) (a : Nat), a ≤ l.foldl max a ∧ (∀ x ∈ l, x ≤ l.foldl max a) ∧ (l.foldl max a = a ∨ l.foldl max a ∈ l)
  | [], a => ⟨Nat.le_refl _, (fun _ h => by cases h), Or.inl rfl⟩
  | x :: l, a => by
    obtain ⟨h1, h2, h3⟩ := foldl_max l (max a x)
    rw [List.foldl_cons]
    refine ⟨by omega, fun y hy => ?_, ?_⟩
    · rcases List.mem_cons.mp hy with rfl | hy
      · omega
      · exact h2 y hy
    · rcases h3 with h3 | h3
      · rw [h3]
        by_cases e : a ≤ x
        · exact .inr (by rw [show max a x = x by omega]; exact List.mem_cons_self)
        · exact .inl (by omega)
      · exact .inr (List.mem_cons_of_mem _ h3)
theorem mxW_le {i : Nat} (h : i ∈ ps) : c i ≤ mxW ps c := (foldl_max (ps.map c) 0).2.1 _ (List.mem_map_of_mem h)
theorem mxW_mem (lp : Lets ps) (hc : ∀ i ∈ ps, 1 ≤ c i) : ∃ i ∈ ps, c i = mxW ps c := by
  rcases (foldl_max (ps.map c) 0).2.2 with h | h
  · obtain ⟨p, l, e⟩ := List.exists_cons_of_length_pos lp.pos
    have hp : p ∈ ps := by rw [e]; exact List.mem_cons_self
    have h1 := hc p hp
    have h2 := mxW_le (c := c) hp
    have h : mxW ps c = 0 := h
    omega
  · obtain ⟨i, hi, e⟩ := List.mem_map.mp h
    exact ⟨i, hi, e⟩
theorem intsOf_n : ∀ l : List Nat, intsOf (l.map nD) = some (l.map fun n => ((n : Nat) : Int))
  | [] => rfl
  | x :: l => by
    show (intsOf (l.map nD)).map _ = _
    rw [intsOf_n l]
    rfl
theorem maxI_n : ∀ (l : List Nat) (a : Nat), maxI (a : Int) (l.map fun n => ((n : Nat) : Int)) = ((l.foldl max a : Nat) : Int)
  | [], a => rfl
  | x :: l, a => by
    show maxI (if (a : Int) < (x : Int) then (x : Int) else (a : Int)) _ = _
    rw [List.foldl_cons, ← maxI_n l (max a x)]
    congr 1
    split <;> omega
theorem o_maxN {l : List Nat} (hl : l ≠ []) (h : Q (nD (l.foldl max 0)) s) : RP Q E (max1D [.lst (l.map nD)] s) := by
  obtain ⟨x, l, rfl⟩ := List.exists_cons_of_ne_nil hl
  have e : (x :: l).foldl max 0 = l.foldl max x := by
    rw [List.foldl_cons, show max 0 x = x by omega]
  rw [e] at h
  unfold max1D
  show RP Q E (match intsOf ((x :: l).map nD) with
    | some (n :: ns) => .ok (.int (maxI n ns)) s
    | _ => .bad)
  rw [intsOf_n]
  show Q (.int (maxI (x : Int) (l.map fun n => ((n : Nat) : Int)))) s
  rw [maxI_n]
  exact h
theorem cost_le (hw : ∀ w ∈ ws, w ∈ ps) : costN c ws ≤ mxW ps c * ws.length := by
  induction ws with
  | nil => exact Nat.zero_le _
  | cons i w ih =>
    have h1 := mxW_le (c := c) (hw i List.mem_cons_self)
    have h2 := ih fun j hj => hw j (List.mem_cons_of_mem _ hj)
    rw [costN_cons, List.length_cons, Nat.mul_succ]
    omega
end
end G
set_option Elab.async false
set_option linter.all false
set_option maxRecDepth 100000
set_option maxHeartbeats 4000000
namespace G
open Mp Pl
open PySem (Str sizeLine)
local macro_rules | `(tactic| wtm_at "e") => `(tactic| first
  | with_reducible refine w_set ?_
  | with_reducible refine w_bin ?_
  | ((with_reducible refine w_v (d := ?dv) ?hv ?_); (case hv => exact rfl))
  | with_reducible refine w_c ?_
  | with_reducible refine w_cons ?_
  | with_reducible refine w_nil ?_
  | with_reducible refine w_arg ?_
  | with_reducible refine w_call ?_
  | with_reducible refine w_if ?_
  | with_reducible refine w_ret ?_
  | with_reducible refine w_skip ?_
  | with_reducible refine w_bl ?_
  | with_reducible refine w_tru ?_
  | with_reducible refine w_attr ?_
  | with_reducible refine w_meth ?_
  | with_reducible refine w_chain ?_
  | with_reducible refine w_and ?_
  | with_reducible refine w_or ?_
  | with_reducible refine w_not ?_
  | with_reducible refine w_notT ?_
  | with_reducible refine w_andT ?_
  | with_reducible refine w_orT ?_
  | with_reducible refine w_ifM ?_
  | with_reducible refine w_expr ?_
  | with_reducible refine w_un ?_
  | with_reducible refine w_par2 ?_
  | with_reducible refine w_par3 ?_
  | with_reducible refine w_asg ?_
  | with_reducible refine w_aug ?_
  | with_reducible refine w_sub ?_
  | with_reducible refine w_fld ?_
  | with_reducible refine w_raise ?_
  | with_reducible refine w_raise0 ?_
  | with_reducible refine w_try ?_
  | with_reducible refine w_make ?_
  | with_reducible refine w_tryAs ?_
  | with_reducible refine w_exn ?_
  | ((with_reducible refine o_isx (b := ?bv) ?h1 ?_); (case h1 => exact rfl))
  | with_reducible refine w_superS ?_
  | with_reducible refine w_super ?_
  | with_reducible refine w_star ?_
  | with_reducible refine w_for0 ?_
  | with_reducible refine w_lc0 ?_
  | with_reducible refine w_lc20 ?_
  | with_reducible refine w_seqJ ?_
  | with_reducible refine w_starC ?_
  | with_reducible refine w_spr ?_
  | with_reducible refine w_kwA ?_
  | with_reducible refine w_kwM ?_
  | with_reducible refine w_sprK ?_
  | with_reducible refine w_get ?_
  | with_reducible refine w_makeL ?_
  | with_reducible refine w_tryN ?_
  | ((with_reducible refine o_own0 ?hv ?_); (case hv => exact rfl))
  | ((with_reducible refine o_eqO0 ?hv ?_); (case hv => exact rfl))
  | with_reducible refine w_seqI ?_
  | with_reducible refine w_argI ?_
  | with_reducible refine w_opt ?_
  | with_reducible refine w_sli ?_
  | with_reducible refine w_pure ?_
  | with_reducible refine w_disp ?_
  | with_reducible refine w_pairs1 ?_
  | with_reducible refine w_pairs0 ?_
  | with_reducible refine w_retN ?_
  | with_reducible refine w_cnt ?_
  | with_reducible refine w_brk ?_
  | with_reducible refine o_addI ?_
  | with_reducible refine o_addI' ?_
  | with_reducible refine o_sub ?_
  | with_reducible refine o_lt ?_
  | with_reducible refine o_le ?_
  | with_reducible refine o_gt ?_
  | with_reducible refine o_ge ?_
  | with_reducible refine o_eqI ?_
  | with_reducible refine o_neI ?_
  | with_reducible refine o_eqS ?_
  | with_reducible refine o_neS ?_
  | with_reducible refine o_int ?_
  | with_reducible refine o_intB ?_
  | with_reducible refine o_neg ?_
  | with_reducible refine o_abs ?_
  | with_reducible refine o_newL ?_
  | with_reducible refine o_max2 ?_
  | with_reducible refine o_min2 ?_
  | with_reducible refine o_lenL ?_
  | with_reducible refine o_lenT ?_
  | ((with_reducible refine o_tup ?hv ?_); (case hv => first | exact Nat.le_of_ble_eq_true rfl | assumption))
  | ((with_reducible refine o_lst ?hv ?_); (case hv => first | exact Nat.le_of_ble_eq_true rfl | assumption))
  | ((with_reducible refine o_isi (t := ?tv) (b := ?bv) ?h1 ?h2 ?_); (case h1 => exact rfl); (case h2 => exact rfl))
  | ((with_reducible refine o_fld (C := ?cv) (fs := ?fv) (d := ?dv) ?h1 ?h2 ?h3 ?_); (case h1 => exact rfl); (case h2 => exact rfl); (case h3 => exact rfl))
  | ((with_reducible refine Exists.intro ?kv (And.intro ?ha ?_)); (case ha => exact rfl)))
local macro_rules | `(tactic| wtm_at "body") => `(tactic| (refine w_body rfl rfl ?_; dsimp only [List.length_cons, List.length_nil, List.drop, List.append_nil, List.map_cons, List.map_nil, List.map, List.cons_append, List.nil_append, Nat.reduceAdd, Nat.reduceSub, List.replicate]))
local macro_rules | `(tactic| wtm_at "meth") => `(tactic| refine ⟨_, _, _, rfl, rfl, rfl, ?_⟩)
local macro_rules | `(tactic| wtm_at "w") => `(tactic| first | with_reducible refine w_seq ?_ | wtm_at "e")
local macro_rules | `(tactic| wtm_at "s") => `(tactic| ((repeat wtm_at "e"); (with_reducible refine w_seq ?_)))
local macro_rules | `(tactic| wtm_at "f") => `(tactic| ((repeat wtm_at "e"); (with_reducible show FP _ _)))
/-! orders of other letters -/
section
variable {n : Nat} {b : Int} {s : Sto} {Q : D → Sto → Prop} {E : XT} {ps qs ws : List Nat} {c : Nat → Nat}
def tau (ps qs : List Nat) (i : Nat) : Nat := ((ps.zip qs).lookup i).getD 1
theorem tau_map (nd : ps.Nodup) (h : qs.length = ps.length) : ps.map (tau ps qs) = qs := by
  have e := zip_look (F := fun _ u : Nat => u) nd h
  rw [show ps.map (tau ps qs) = ps.map fun i => ((ps.zip qs).lookup i).getD 1 from rfl, ← e]
  exact List.map_snd_zip (by omega)
theorem tau_mem (h : qs.length = ps.length) {i : Nat} (hi : i ∈ ps) : tau ps qs i ∈ qs := by
  obtain ⟨u, e, hu⟩ := zip_look_mem h hi
  unfold tau
  rw [e]
  exact hu
theorem tau_mono (lp : Lets ps) (lq : Lets qs) (h : qs.length = ps.length) {i j : Nat} (hi : i ∈ ps) (hj : j ∈ ps) (hij : i < j) : tau ps qs i < tau ps qs j := by
  have e := tau_map lp.nodup h
  have pw : (ps.map (tau ps qs)).Pairwise (· < ·) := by rw [e]; exact lq.asc
  rw [List.pairwise_map] at pw
  obtain ⟨a, ha, ea⟩ := List.getElem_of_mem hi
  obtain ⟨k, hk, ek⟩ := List.getElem_of_mem hj
  have hak : a < k := Nat.lt_of_not_le fun z => by
    rcases Nat.lt_or_eq_of_le z with z | z
    · have := List.pairwise_iff_getElem.mp lp.asc k a hk ha z
      omega
    · subst z
      omega
  have := List.pairwise_iff_getElem.mp pw a k ha hk hak
  rw [ea, ek] at this
  exact this
theorem tau_inj (lp : Lets ps) (lq : Lets qs) (h : qs.length = ps.length) {i j : Nat} (hi : i ∈ ps) (hj : j ∈ ps) (e : tau ps qs i = tau ps qs j) : i = j := by
  rcases Nat.lt_trichotomy i j with z | z | z
  · have := tau_mono lp lq h hi hj z
    omega
  · exact z
  · have := tau_mono lp lq h hj hi z
    omega
theorem keysZ_chs : ∀ l : List Nat, keysZ (l.map chD) = some (l.map fun i => (Sum.inr (ch i) : L2.Key))
  | [] => rfl
  | i :: l => by
    show (keysZ (l.map chD)).map _ = _
    rw [keysZ_chs l]
    rfl
theorem o_dictZc (nd : ps.Nodup) (F : Nat → D) (h : Q (.dct (byL ps F)) s) : RP Q E (dictZD false [.lst (ps.map chD), .lst (ps.map F)] s) := by
  unfold dictZD
  dsimp only [frzL]
  rw [keysZ_chs]
  dsimp only
  rw [if_pos (by simp)]
  have e : (ps.map fun i => (Sum.inr (ch i) : L2.Key)).zip (ps.map F) = byL ps F := by
    unfold byL
    rw [List.zip_map', ]
  rw [e, mergeA_new _ _ (by rw [byL_keys]; exact key_nodup nd) (fun _ _ z => (by cases z))]
  exact h
theorem q_other_letters (lp : Lets ps) (p : Pen s n b) (hb : b + 30 ≤ 1000000000) (h : ∀ (qs : List Nat) s', Lets qs → qs.length = ps.length → PH n s s' (b + 26) → Q (.dct (byL ps fun i => chD (tau ps qs i))) s') : RP Q E (m__law_other_letters [.cel n, .dct (byL ps fun i => nD (c i))] s) := by
  have hz : sizeLine = 16777216 := by decide
  have h1 := lp.pos
  have h4 := lp.few
  wtm_at "body"
  unfold b__law_other_letters
  wtm_at "s"
  repeat wtm_at "e"
  refine w_listRg (k := 26) ?_
  repeat wtm_at "e"
  refine ⟨rfl, by decide, by decide, ?_⟩
  repeat wtm_at "e"
  rw [intL_map]
  refine q_shuffled p (by simp; omega) (by simp) fun ms k s1 hp hc hcl ph => ?_
  have ph : PH n s s1 (b + 26) := ph.mono (by simp)
  repeat wtm_at "e"
  refine o_lenXD rfl ?_
  rw [byL_len]
  repeat wtm_at "e"
  have es : sliD false (.cel k) none (some ((ps.length : Nat) : Int)) s1 = .ok (.lst ((ms.take ps.length).map .int)) s1 := by
    unfold sliD
    dsimp only
    have e0 : lstOf s1 (.cel k) = some (ms.map .int) := by
      unfold lstOf lstX
      dsimp only
      rw [hc]
    rw [e0]
    dsimp only
    rw [cut_take (by omega), ← List.map_take, Int.toNat_natCast]
    rfl
  refine RP.of es ?_
  repeat wtm_at "e"
  refine o_sortedI (ns := ms.take ps.length) rfl rfl ?_
  obtain ⟨qs, lq, _, eqs⟩ := sorted_lets (m := ps.length) hp (by omega) (by omega) rfl
  have hql : qs.length = ps.length := by
    have z := congrArg List.length eqs
    rw [List.length_mergeSort, List.length_take, hp.length_eq] at z
    simp at z
    omega
  rw [eqs]
  repeat wtm_at "e"
  refine o_listK (m := byL ps fun i => nD (c i)) rfl ?_
  repeat wtm_at "e"
  rw [show ((byL ps fun i => nD (c i)).map fun p => keyV p.1) = ps.map chD by unfold byL; rw [List.map_map]; rfl]
  rw [List.map_map]
  have h4q := lq.few
  refine w_lcX qs (fun i => .int ((i : Nat) : Int)) (fun i => .str (ch i)) rfl rfl (by omega) (fun i hi => ⟨_, rfl, ?_⟩) ?_
  · repeat wtm_at "e"
    have hi := lq.lt i hi
    rw [abc]
    exact idx_LS (k := i) (p := i) (by decide) rfl (by rw [List.getElem?_eq_getElem (by simpa using hi)]; simp) ⟨rfl, rfl⟩
  · repeat wtm_at "e"
    rw [show (qs.map fun i => D.str (ch i)) = ps.map fun i => chD (tau ps qs i) by
      conv => lhs; rw [← tau_map lp.nodup hql]
      rw [List.map_map]
      rfl]
    exact o_dictZc lp.nodup _ (h qs s1 lq hql ph)
theorem lets_more (lp : Lets ps) {i : Nat} (hi : i < 26) (hn : i ∉ ps) (hl : ps.length < 4) : ∃ qs, Lets qs ∧ (ps ++ [i]).Perm qs := by
  refine ⟨(ps ++ [i]).mergeSort (fun a b => decide (a ≤ b)), ⟨?_, ?_, ?_, ?_⟩, (List.mergeSort_perm _ _).symm⟩
  · rw [List.length_mergeSort, List.length_append]
    exact Nat.le_add_left _ _
  · rw [List.length_mergeSort, List.length_append, List.length_singleton]
    omega
  · intro j hj
    rcases List.mem_append.mp (List.mem_mergeSort.mp hj) with z | z
    · exact lp.lt j z
    · rw [List.mem_singleton.mp z]
      exact hi
  · have h1 := List.pairwise_mergeSort (le := fun a b : Nat => decide (a ≤ b)) (fun a b d h k => by simp only [decide_eq_true_eq] at *; omega) (fun a b => by simp only [Bool.or_eq_true, decide_eq_true_eq]; omega) (ps ++ [i])
    have h2 : ((ps ++ [i]).mergeSort (fun a b => decide (a ≤ b))).Nodup := (List.mergeSort_perm _ _).nodup_iff.mpr (List.nodup_append.mpr ⟨lp.nodup, by simp, fun x hx y hy e => hn (by rw [← List.mem_singleton.mp hy, ← e]; exact hx)⟩)
    refine (h1.and h2).imp ?_
    rintro a b ⟨h, ne⟩
    have h := of_decide_eq_true h
    omega
theorem byL_notin {T : Type} {f : Nat → T} {i : Nat} (h : i ∉ ps) : getK (byL ps f) (.inr (ch i)) = none := by
  unfold getK byL
  rw [List.find?_eq_none.mpr]
  · rfl
  · intro p hp
    obtain ⟨j, hj, rfl⟩ := List.mem_map.mp hp
    simp only [decide_eq_true_eq]
    intro z
    have := ch_inj (Sum.inr.inj z)
    subst this
    exact h hj
theorem q_letter_more (C : CostOk ps c) (p : Pen s n b) (hb : b + 30 ≤ 1000000000) (h : ∀ (qs : List Nat) (d : Nat → Nat) s', CostOk qs d → (∀ i ∈ ps, i ∈ qs ∧ d i = c i) → PH n s s' (b + 2) → Q (.dct (byL qs fun i => nD (d i))) s') : RP Q E (m__law_letter_more [.cel n, .dct (byL ps fun i => nD (c i))] s) := by
  have hz : sizeLine = 16777216 := by decide
  have lp := C.lets
  have h1 := lp.pos
  have h4 := lp.few
  have hn := p.lt
  wtm_at "body"
  unfold b__law_letter_more
  wtm_at "s"
  repeat wtm_at "e"
  refine w_lcY (List.range 26) chD chD (fun j => decide (j ∉ ps)) (by rw [abc, LS_chars]) rfl (by decide) (fun j hj => ⟨_, rfl, ?_, fun _ => ?_⟩) ?_
  · repeat wtm_at "e"
    refine RP.of (a := .bl (decide (j ∉ ps))) (s' := s) ?_ ⟨_, rfl, rfl, rfl⟩
    unfold inD
    rw [show dctOf s (.dct (byL ps fun i => nD (c i))) = some (byL ps fun i => nD (c i)) from rfl]
    dsimp only [keyD]
    by_cases e : j ∈ ps
    · rw [byL_get e, decide_eq_false (by simpa using e)]
      rfl
    · rw [byL_notin e, decide_eq_true e]
      rfl
  · repeat wtm_at "e"
    exact ⟨rfl, rfl⟩
  wtm_at "s"
  repeat wtm_at "e"
  refine o_dictD (k := true) rfl ?_
  refine RP.of (a := .cel s.length) (s' := s ++ [some (.dct (byL ps fun i => nD (c i)))]) rfl ?_
  have pe : PH n s (s ++ [some (.dct (byL ps fun i => nD (c i)))]) b := (PH.of p).app
  have he : (s ++ [some (Ct.dct (byL ps fun i => nD (c i)))])[s.length]? = some (some (.dct (byL ps fun i => nD (c i)))) := by simp
  wtm_at "f"
  with_reducible refine w_mid (fun r s' => ∃ (us qs : List Nat) (d : Nat → Nat), s'[s.length]? = some (some (.dct (byL us fun i => nD (d i)))) ∧ us.Perm qs ∧ CostOk qs d ∧ (∀ i ∈ ps, i ∈ qs ∧ d i = c i) ∧ PH n s s' (b + 2) ∧ ∃ x2 x4 : Option D, r = [some (.cel n), some (.dct (byL ps fun i => nD (c i))), x2, some (.cel s.length), x4]) ?_ ?_
  · repeat wtm_at "e"
    refine o_lenXD rfl ?_
    rw [byL_len]
    repeat wtm_at "e"
    refine ⟨fun z => ?_, fun z => ?_⟩
    · have z := of_decide_eq_true z
      repeat wtm_at "e"
      refine q_pick pe.pen (by omega) (by show 0 < 3; decide) (by show 3 < 1000000; decide) fun dd s2 hd p2 f2 l2 => ?_
      obtain ⟨u, rfl, hu⟩ : ∃ u : Nat, dd = nD u ∧ 1 ≤ u ∧ u ≤ 9 := by
        simp only [List.mem_cons, List.not_mem_nil, or_false] at hd
        rcases hd with rfl | rfl | rfl
        · exact ⟨1, rfl, by decide⟩
        · exact ⟨2, rfl, by decide⟩
        · exact ⟨3, rfl, by decide⟩
      repeat wtm_at "e"
      have hex : 0 < ((List.range 26).filter fun j => decide (j ∉ ps)).length := by
        have : ∃ j, j ∈ (List.range 26).filter fun j => decide (j ∉ ps) := by
          match ps, z with
          | [], _ => exact ⟨0, by simp⟩
          | [a], _ => exact ⟨if a = 0 then 1 else 0, by split <;> simp <;> omega⟩
          | [a, a2], _ => exact ⟨if a ≠ 0 ∧ a2 ≠ 0 then 0 else if a ≠ 1 ∧ a2 ≠ 1 then 1 else 2, by split <;> simp <;> (try split) <;> omega⟩
          | [a, a2, a3], _ => exact ⟨if a ≠ 0 ∧ a2 ≠ 0 ∧ a3 ≠ 0 then 0 else if a ≠ 1 ∧ a2 ≠ 1 ∧ a3 ≠ 1 then 1 else if a ≠ 2 ∧ a2 ≠ 2 ∧ a3 ≠ 2 then 2 else 3, by split <;> simp <;> (try split) <;> (try split) <;> omega⟩
          | _ :: _ :: _ :: _ :: _, z => simp at z; omega
        obtain ⟨j, hj⟩ := this
        exact List.length_pos_of_mem hj
      refine q_pick p2 (by omega) (by rw [List.length_map]; exact hex) (by rw [List.length_map]; have := List.length_filter_le (fun j => decide (j ∉ ps)) (List.range 26); rw [List.length_range] at this; omega) fun dd s3 hd p3 f3 l3 => ?_
      obtain ⟨i, hi, rfl⟩ := List.mem_map.mp hd
      obtain ⟨hi1, hi2⟩ := List.mem_filter.mp hi
      have hi1 := List.mem_range.mp hi1
      have hi2 : i ∉ ps := of_decide_eq_true hi2
      obtain ⟨qs, lq, pq⟩ := lets_more lp hi1 hi2 (by omega)
      have g3 : s3[s.length]? = some (some (.dct (byL ps fun i => nD (c i)))) := by
        have a1 := (List.getElem?_eq_some_iff.mp he).1
        rw [f3.2 s.length (by omega) (by omega), f2.2 s.length (by omega) (by omega)]
        exact he
      have ea : putA (byL ps fun i => nD (c i)) (.inr (ch i)) (nD u) = byL (ps ++ [i]) fun j => nD (if j = i then u else c j) := by
        unfold putA
        rw [if_neg, byL_snoc (f := fun j => nD (c j)) (fun j hj => by rw [if_neg (show ¬ j = i from fun z => hi2 (z ▸ hj))])]
        · rw [if_pos rfl]
        · intro z
          rw [List.any_eq_true] at z
          obtain ⟨q, hq, z⟩ := z
          obtain ⟨j, hj, rfl⟩ := List.mem_map.mp hq
          have := ch_inj (Sum.inr.inj (of_decide_eq_true z))
          subst this
          exact hi2 hj
      refine ⟨s3.set s.length (some (.dct (byL (ps ++ [i]) fun j => nD (if j = i then u else c j)))), ?_, ps ++ [i], qs, fun j => if j = i then u else c j, ?_, pq, ⟨lq, fun j hj => ?_, fun j hj => ?_⟩, fun j hj => ⟨pq.mem_iff.mp (List.mem_append_left _ hj), if_neg (show ¬ j = i from fun z => hi2 (z ▸ hj))⟩, ?_, _, _, rfl⟩
      · unfold putI
        dsimp only
        rw [g3]
        dsimp only [keyD]
        rw [if_pos (by rw [byL_len]; omega), ea]
      · rw [List.getElem?_set_self (List.getElem?_eq_some_iff.mp g3).1]
      · split
        · exact hu.1
        · exact C.pos j ((List.mem_append.mp (pq.mem_iff.mpr hj)).resolve_right fun z => by rename_i k; exact k (List.mem_singleton.mp z))
      · split
        · exact hu.2
        · exact C.few j ((List.mem_append.mp (pq.mem_iff.mpr hj)).resolve_right fun z => by rename_i k; exact k (List.mem_singleton.mp z))
      · exact ((pe.go ⟨p2, f2⟩ (Int.le_refl _)).go ⟨p3, f3⟩ (by omega) : PH n s s3 (b + 2)).set (Nat.le_refl _) hn
    · repeat wtm_at "e"
      exact ⟨ps, ps, c, he, .refl _, C, fun i hi => ⟨hi, rfl⟩, pe.mono (by omega), _, _, rfl⟩
  rintro r s' ⟨us, qs, d, hs', pq, Cd, hd, ph, x2, x4, rfl⟩
  have hdc : dctOf s' (.cel s.length) = some (byL us fun i => nD (d i)) := by
    unfold dctOf
    dsimp only
    rw [hs']
  have h4q := Cd.lets.few
  repeat wtm_at "e"
  refine o_sortedK hdc pq Cd.lets ?_
  repeat wtm_at "e"
  refine w_lcX qs chD (fun i => .tup [chD i, nD (d i)]) rfl rfl (by omega) (fun i hi => ⟨_, rfl, ?_⟩) ?_
  · repeat wtm_at "e"
    refine o_idxD (n := 0) (m := byL us fun i => nD (d i)) hdc rfl (byL_get (pq.mem_iff.mpr hi)) ?_
    repeat wtm_at "e"
    exact ⟨rfl, rfl⟩
  · repeat wtm_at "e"
    refine o_dictP qs (fun i => .inr (ch i)) (fun i => nD (d i)) rfl rfl (key_nodup Cd.lets.nodup) ?_
    exact h qs d s' Cd hd ph
theorem q_turned {t : Nat → Nat} (hw : ∀ w ∈ ws, w ∈ ps) (hl : ws.length ≤ 100000) (h : Q (wD (ws.map t)) s) : RP Q E (m__law_turned [wD ws, .dct (byL ps fun i => chD (t i))] s) := by
  have hz : sizeLine = 16777216 := by decide
  wtm_at "body"
  unfold b__law_turned
  repeat wtm_at "e"
  refine w_bm ?_
  repeat wtm_at "e"
  refine ⟨rfl, ?_⟩
  repeat wtm_at "e"
  rw [LS_chars]
  refine w_lcX ws chD (fun i => chD (t i)) rfl rfl (by omega) (fun i hi => ⟨_, rfl, ?_⟩) ?_
  · repeat wtm_at "e"
    refine o_idxD (n := 0) (m := byL ps fun i => chD (t i)) rfl rfl (byL_get (hw i hi)) ?_
    exact ⟨rfl, rfl⟩
  · repeat wtm_at "e"
    have e3 : (ws.map fun i => chD (t i)) = ((ws.map t).map ch).map .str := by rw [List.map_map, List.map_map]; rfl
    rw [e3]
    refine o_join (ys := (ws.map t).map ch) rfl (by rw [LS_joinlen, List.length_map, List.length_map]; show ws.length + ws.length * 0 ≤ 16777216; omega) ?_
    rw [LS_join]
    exact h
/-- the last one of the letters with the greatest cost -/
def latN (ps : List Nat) (c : Nat → Nat) : Nat := ((ps.filter fun i => decide (c i = mxW ps c)).getLast?).getD 0
theorem lat_ex (C : CostOk ps c) : (ps.filter fun i => decide (c i = mxW ps c)).getLast? = some (latN ps c) ∧ latN ps c ∈ ps := by
  obtain ⟨i, hi, e⟩ := mxW_mem C.lets C.pos
  have hm : i ∈ ps.filter fun i => decide (c i = mxW ps c) := List.mem_filter.mpr ⟨hi, decide_eq_true e⟩
  cases el : (ps.filter fun i => decide (c i = mxW ps c)).getLast? with
  | none => rw [List.getLast?_eq_none_iff.mp el] at hm; cases hm
  | some k =>
    have : latN ps c = k := by unfold latN; rw [el]; rfl
    rw [this]
    exact ⟨rfl, (List.mem_filter.mp (List.mem_of_getLast? el)).1⟩
theorem q_latest (C : CostOk ps c) (h : Q (chD (latN ps c)) s) : RP Q E (m_Order_latest [ordD ps c] s) := by
  have hz : sizeLine = 16777216 := by decide
  have lp := C.lets
  have h1 := lp.pos
  have h4 := lp.few
  wtm_at "body"
  unfold b_Order_latest ordD
  wtm_at "s"
  repeat wtm_at "e"
  refine w_listVals ?_
  repeat wtm_at "e"
  rw [show ((byL ps fun i => nD (c i)).map (·.2)) = (ps.map c).map nD by unfold byL; rw [List.map_map, List.map_map]; rfl]
  repeat wtm_at "e"
  refine o_maxN (by intro z; have := congrArg List.length z; simp at this; subst this; simp at h1) ?_
  repeat wtm_at "e"
  rw [LS_chars]
  refine w_lcY ps chD chD (fun i => decide (c i = mxW ps c)) rfl rfl (by omega) (fun i hi => ⟨_, rfl, ?_, fun _ => ?_⟩) ?_
  · repeat wtm_at "e"
    refine o_idxD (n := 0) (m := byL ps fun i => nD (c i)) rfl rfl (byL_get hi) ?_
    repeat wtm_at "e"
    refine ⟨rfl, ?_⟩
    apply decide_eq_decide.mpr
    show ((c i : Nat) : Int) = ((mxW ps c : Nat) : Int) ↔ _
    omega
  · repeat wtm_at "e"
    exact ⟨rfl, rfl⟩
  repeat wtm_at "e"
  refine idxL_last (d := chD (latN ps c)) ?_ ?_
  · rw [List.getLast?_map, (lat_ex C).1]
    rfl
  exact h
end
end G
set_option Elab.async false
set_option linter.all false
set_option maxRecDepth 100000
set_option maxHeartbeats 4000000
namespace G
open Mp Pl
open PySem (Str sizeLine)
local macro_rules | `(tactic| wtm_at "e") => `(tactic| first
  | with_reducible refine w_set ?_
  | with_reducible refine w_bin ?_
  | ((with_reducible refine w_v (d := ?dv) ?hv ?_); (case hv => exact rfl))
  | with_reducible refine w_c ?_
  | with_reducible refine w_cons ?_
  | with_reducible refine w_nil ?_
  | with_reducible refine w_arg ?_
  | with_reducible refine w_call ?_
  | with_reducible refine w_if ?_
  | with_reducible refine w_ret ?_
  | with_reducible refine w_skip ?_
  | with_reducible refine w_bl ?_
  | with_reducible refine w_tru ?_
  | with_reducible refine w_attr ?_
  | with_reducible refine w_meth ?_
  | with_reducible refine w_chain ?_
  | with_reducible refine w_and ?_
  | with_reducible refine w_or ?_
  | with_reducible refine w_not ?_
  | with_reducible refine w_notT ?_
  | with_reducible refine w_andT ?_
  | with_reducible refine w_orT ?_
  | with_reducible refine w_ifM ?_
  | with_reducible refine w_expr ?_
  | with_reducible refine w_un ?_
  | with_reducible refine w_par2 ?_
  | with_reducible refine w_par3 ?_
  | with_reducible refine w_asg ?_
  | with_reducible refine w_aug ?_
  | with_reducible refine w_sub ?_
  | with_reducible refine w_fld ?_
  | with_reducible refine w_raise ?_
  | with_reducible refine w_raise0 ?_
  | with_reducible refine w_try ?_
  | with_reducible refine w_make ?_
  | with_reducible refine w_tryAs ?_
  | with_reducible refine w_exn ?_
  | ((with_reducible refine o_isx (b := ?bv) ?h1 ?_); (case h1 => exact rfl))
  | with_reducible refine w_superS ?_
  | with_reducible refine w_super ?_
  | with_reducible refine w_star ?_
  | with_reducible refine w_for0 ?_
  | with_reducible refine w_lc0 ?_
  | with_reducible refine w_lc20 ?_
  | with_reducible refine w_seqJ ?_
  | with_reducible refine w_starC ?_
  | with_reducible refine w_spr ?_
  | with_reducible refine w_kwA ?_
  | with_reducible refine w_kwM ?_
  | with_reducible refine w_sprK ?_
  | with_reducible refine w_get ?_
  | with_reducible refine w_makeL ?_
  | with_reducible refine w_tryN ?_
  | ((with_reducible refine o_own0 ?hv ?_); (case hv => exact rfl))
  | ((with_reducible refine o_eqO0 ?hv ?_); (case hv => exact rfl))
  | with_reducible refine w_seqI ?_
  | with_reducible refine w_argI ?_
  | with_reducible refine w_opt ?_
  | with_reducible refine w_sli ?_
  | with_reducible refine w_pure ?_
  | with_reducible refine w_disp ?_
  | with_reducible refine w_pairs1 ?_
  | with_reducible refine w_pairs0 ?_
  | with_reducible refine w_retN ?_
  | with_reducible refine w_cnt ?_
  | with_reducible refine w_brk ?_
  | with_reducible refine o_addI ?_
  | with_reducible refine o_addI' ?_
  | with_reducible refine o_sub ?_
  | with_reducible refine o_lt ?_
  | with_reducible refine o_le ?_
  | with_reducible refine o_gt ?_
  | with_reducible refine o_ge ?_
  | with_reducible refine o_eqI ?_
  | with_reducible refine o_neI ?_
  | with_reducible refine o_eqS ?_
  | with_reducible refine o_neS ?_
  | with_reducible refine o_int ?_
  | with_reducible refine o_intB ?_
  | with_reducible refine o_neg ?_
  | with_reducible refine o_abs ?_
  | with_reducible refine o_newL ?_
  | with_reducible refine o_max2 ?_
  | with_reducible refine o_min2 ?_
  | with_reducible refine o_lenL ?_
  | with_reducible refine o_lenT ?_
  | ((with_reducible refine o_tup ?hv ?_); (case hv => first | exact Nat.le_of_ble_eq_true rfl | assumption))
  | ((with_reducible refine o_lst ?hv ?_); (case hv => first | exact Nat.le_of_ble_eq_true rfl | assumption))
  | ((with_reducible refine o_isi (t := ?tv) (b := ?bv) ?h1 ?h2 ?_); (case h1 => exact rfl); (case h2 => exact rfl))
  | ((with_reducible refine o_fld (C := ?cv) (fs := ?fv) (d := ?dv) ?h1 ?h2 ?h3 ?_); (case h1 => exact rfl); (case h2 => exact rfl); (case h3 => exact rfl))
  | ((with_reducible refine Exists.intro ?kv (And.intro ?ha ?_)); (case ha => exact rfl)))
local macro_rules | `(tactic| wtm_at "body") => `(tactic| (refine w_body rfl rfl ?_; dsimp only [List.length_cons, List.length_nil, List.drop, List.append_nil, List.map_cons, List.map_nil, List.map, List.cons_append, List.nil_append, Nat.reduceAdd, Nat.reduceSub, List.replicate]))
local macro_rules | `(tactic| wtm_at "meth") => `(tactic| refine ⟨_, _, _, rfl, rfl, rfl, ?_⟩)
local macro_rules | `(tactic| wtm_at "w") => `(tactic| first | with_reducible refine w_seq ?_ | wtm_at "e")
local macro_rules | `(tactic| wtm_at "s") => `(tactic| ((repeat wtm_at "e"); (with_reducible refine w_seq ?_)))
local macro_rules | `(tactic| wtm_at "f") => `(tactic| ((repeat wtm_at "e"); (with_reducible show FP _ _)))
/-! orders that are alike -/
section
variable {s : Sto} {Q : D → Sto → Prop} {E : XT} {ps qs ws : List Nat} {c d : Nat → Nat}
theorem lst_emb {f : Nat → Nat} (mono : ∀ i ∈ ps, ∀ j ∈ ps, i < j → f i < f j) : ∀ u v : List Nat, (∀ i ∈ u, i ∈ ps) → (∀ i ∈ v, i ∈ ps) → u < v → u.map f < v.map f
  | _, [], _, _, h => absurd h (List.not_lt_nil _)
  | [], j :: v, _, _, _ => List.nil_lt_cons _ _
  | i :: u, j :: v, hu, hv, h => by
    rw [List.map_cons, List.map_cons]
    rcases List.cons_lt_cons_iff.mp h with z | ⟨e, z⟩
    · exact List.cons_lt_cons_iff.mpr (.inl (mono i (hu i List.mem_cons_self) j (hv j List.mem_cons_self) z))
    · subst e
      exact List.cons_lt_cons_iff.mpr (.inr ⟨rfl, lst_emb mono u v (fun x hx => hu x (List.mem_cons_of_mem _ hx)) (fun x hx => hv x (List.mem_cons_of_mem _ hx)) z⟩)
theorem lt_emb {f : Nat → Nat} {a b : Nat} (ha : 0 < a) (hb : 0 < b) (mono : ∀ i ∈ ps, ∀ j ∈ ps, i < j → f i < f j) (hcost : ∀ u : List Nat, (∀ i ∈ u, i ∈ ps) → costN d (u.map f) * a = costN c u * b) (u v : List Nat) (hu : ∀ i ∈ u, i ∈ ps) (hv : ∀ i ∈ v, i ∈ ps) (h : ltW c u v = true) : ltW d (u.map f) (v.map f) = true := by
  have e1 := hcost u hu
  have e2 := hcost v hv
  unfold ltW at h ⊢
  by_cases e : costN c u = costN c v
  · rw [if_pos e] at h
    rw [if_pos (Nat.eq_of_mul_eq_mul_right ha (by rw [e1, e2, e]))]
    exact decide_eq_true (lst_emb mono u v hu hv (of_decide_eq_true h))
  · rw [if_neg e] at h
    have h := of_decide_eq_true h
    have hl : costN d (u.map f) * a < costN d (v.map f) * a := by
      rw [e1, e2]
      exact Nat.mul_lt_mul_of_pos_right h hb
    have hl := Nat.lt_of_mul_lt_mul_right hl
    rw [if_neg (by omega)]
    exact decide_eq_true hl
theorem tau_back (lp : Lets ps) (lq : Lets qs) (h : qs.length = ps.length) {i : Nat} (hi : i ∈ ps) : tau qs ps (tau ps qs i) = i := by
  have e1 := tau_map lp.nodup h
  have e2 := tau_map lq.nodup h.symm
  have e3 : ps.map (fun i => tau qs ps (tau ps qs i)) = ps.map id := by
    rw [show (fun i => tau qs ps (tau ps qs i)) = tau qs ps ∘ tau ps qs from rfl, ← List.map_map, e1, e2, List.map_id]
  exact List.map_inj_left.mp e3 i hi
/-- the costs of the other letters -/
def othC (ps qs : List Nat) (c : Nat → Nat) (t : Nat) (j : Nat) : Nat := c (tau qs ps j) * t
theorem oth_tau (lp : Lets ps) (lq : Lets qs) (h : qs.length = ps.length) {t i : Nat} (hi : i ∈ ps) : othC ps qs c t (tau ps qs i) = c i * t := by
  unfold othC
  rw [tau_back lp lq h hi]
theorem oth_ok (C : CostOk ps c) (lq : Lets qs) (h : qs.length = ps.length) {t : Nat} (ht : 1 ≤ t) (hf : ∀ i ∈ ps, c i * t ≤ 9) : CostOk qs (othC ps qs c t) := by
  refine ⟨lq, fun j hj => ?_, fun j hj => hf _ (tau_mem h.symm hj)⟩
  have := C.pos _ (tau_mem h.symm hj)
  exact Nat.mul_pos this ht
theorem cost_tau (lp : Lets ps) (lq : Lets qs) (h : qs.length = ps.length) {t : Nat} : ∀ u : List Nat, (∀ i ∈ u, i ∈ ps) → costN (othC ps qs c t) (u.map (tau ps qs)) * 1 = costN c u * t
  | [], _ => by
    show 0 * 1 = 0 * t
    omega
  | i :: u, hu => by
    have ih := cost_tau lp lq h (t := t) u fun x hx => hu x (List.mem_cons_of_mem _ hx)
    rw [List.map_cons, costN_cons, costN_cons, oth_tau lp lq h (hu i List.mem_cons_self), Nat.add_mul, Nat.add_mul, ih]
    omega
theorem cost_sig {t : Nat} : ∀ u : List Nat, costN c (u.map (tau qs ps)) * t = costN (othC ps qs c t) u * 1
  | [] => by
    show 0 * t = 0 * 1
    omega
  | i :: u => by
    have ih := cost_sig (t := t) u
    rw [List.map_cons, costN_cons, costN_cons, Nat.add_mul, ih]
    unfold othC
    omega
theorem map_back (lp : Lets ps) (lq : Lets qs) (h : qs.length = ps.length) {w : List Nat} (hw : ∀ i ∈ w, i ∈ ps) : (w.map (tau ps qs)).map (tau qs ps) = w := by
  rw [List.map_map]
  conv => rhs; rw [← List.map_id w]
  exact List.map_inj_left.mpr fun i hi => tau_back lp lq h (hw i hi)
theorem map_ok (h : qs.length = ps.length) {w : List Nat} (hw : ∀ i ∈ w, i ∈ ps) : ∀ i ∈ w.map (tau ps qs), i ∈ qs := by
  intro i hi
  obtain ⟨j, hj, rfl⟩ := List.mem_map.mp hi
  exact tau_mem h (hw j hj)
theorem iso_pl (C : CostOk ps c) (lq : Lets qs) (h : qs.length = ps.length) {t : Nat} (ht : 1 ≤ t) (hf : ∀ i ∈ ps, c i * t ≤ 9) {w : List Nat} (hw : ∀ i ∈ w, i ∈ ps) : plW qs (othC ps qs c t) (w.map (tau ps qs)) = plW ps c w := by
  have lp := C.lets
  have D := oth_ok C lq h ht hf
  have a1 := pl_emb lp C.pos lq D.pos (fun u => u.map (tau ps qs)) (fun v hv => map_ok h hv) (fun u v hu hv hl => lt_emb (a := 1) (b := t) Nat.one_pos ht (fun i hi j hj => tau_mono lp lq h hi hj) (fun u hu => cost_tau lp lq h u hu) u v hu hv hl) (plW ps c w) w hw rfl
  have a2 := pl_emb lq D.pos lp C.pos (fun u => u.map (tau qs ps)) (fun v hv => map_ok h.symm hv) (fun u v hu hv hl => lt_emb (a := t) (b := 1) ht Nat.one_pos (fun i hi j hj => tau_mono lq lp h.symm hi hj) (fun u _ => cost_sig u) u v hu hv hl) _ (w.map (tau ps qs)) (map_ok h hw) rfl
  rw [map_back lp lq h hw] at a2
  omega
theorem iso_after (C : CostOk ps c) (lq : Lets qs) (h : qs.length = ps.length) {t : Nat} (ht : 1 ≤ t) (hf : ∀ i ∈ ps, c i * t ≤ 9) {w : List Nat} (hw : ∀ i ∈ w, i ∈ ps) : (afterW ps c w).map (tau ps qs) = afterW qs (othC ps qs c t) (w.map (tau ps qs)) := by
  have lp := C.lets
  have D := oth_ok C lq h ht hf
  have hc : ∀ i ∈ ps, 1 ≤ c i ∧ c i ≤ 9 := fun i hi => ⟨C.pos i hi, C.few i hi⟩
  have hd : ∀ i ∈ qs, 1 ≤ othC ps qs c t i ∧ othC ps qs c t i ≤ 9 := fun i hi => ⟨D.pos i hi, D.few i hi⟩
  have m1 := (after_spec lp hc hw).1
  have hw' := map_ok h hw
  refine pl_inj lq D.pos (map_ok h m1) (after_spec lq hd hw').1 ?_
  rw [iso_pl C lq h ht hf m1, after_pl lp hc hw, after_pl lq hd hw', iso_pl C lq h ht hf hw]
theorem cost_wide (hd : ∀ i ∈ ps, i ∈ qs ∧ d i = c i) : ∀ u : List Nat, (∀ i ∈ u, i ∈ ps) → costN d u = costN c u
  | [], _ => rfl
  | i :: u, hu => by
    rw [costN_cons, costN_cons, (hd i (hu i List.mem_cons_self)).2, cost_wide hd u fun x hx => hu x (List.mem_cons_of_mem _ hx)]
theorem lt_wide (hd : ∀ i ∈ ps, i ∈ qs ∧ d i = c i) {u v : List Nat} (hu : ∀ i ∈ u, i ∈ ps) (hv : ∀ i ∈ v, i ∈ ps) : ltW d u v = ltW c u v := by
  unfold ltW
  rw [cost_wide hd u hu, cost_wide hd v hv]
theorem pl_wide (C : CostOk ps c) (D : CostOk qs d) (hd : ∀ i ∈ ps, i ∈ qs ∧ d i = c i) {w : List Nat} (hw : ∀ i ∈ w, i ∈ ps) : plW ps c w ≤ plW qs d w :=
  pl_emb C.lets C.pos D.lets D.pos id (fun v hv i hi => (hd i (hv i hi)).1) (fun u v hu hv h => by rw [id, id, lt_wide hd hu hv]; exact h) _ w hw rfl
theorem srt_same {us vs : List (List Nat)} (hm : ∀ w, w ∈ us ↔ w ∈ vs) (hl : ∀ u ∈ us, ∀ v ∈ us, ltW d u v = ltW c u v) : srtW c us = srtW d vs := by
  have a1 := srtW_asc (c := c) (ws := us)
  have a2 : (srtW d vs).Pairwise fun a b => ltW c a b = true := (srtW_asc (c := d) (ws := vs)).imp_of_mem fun {a b} ha hb h => by
    rw [← hl a ((hm a).mpr (srtW_mem.mp ha)) b ((hm b).mpr (srtW_mem.mp hb))]
    exact h
  have ne : ∀ {l : List (List Nat)}, l.Pairwise (fun a b => ltW c a b = true) → l.Nodup := fun h => h.imp fun {a b} h e => by
    subst e
    rw [ltW_irr] at h
    cases h
  have pm : (srtW c us).Perm (srtW d vs) := (List.perm_ext_iff_of_nodup (ne a1) (ne a2)).mpr fun w => by rw [srtW_mem, srtW_mem, hm]
  exact List.Perm.eq_of_pairwise (le := fun a b => ltW c a b = true) (fun a b _ _ h k => by
    rw [ltW_asym h] at k
    cases k) a1 a2 pm
theorem mx_oth (C : CostOk ps c) (lq : Lets qs) (h : qs.length = ps.length) {t : Nat} (ht : 1 ≤ t) (hf : ∀ i ∈ ps, c i * t ≤ 9) : mxW qs (othC ps qs c t) = mxW ps c * t := by
  have lp := C.lets
  have D := oth_ok C lq h ht hf
  obtain ⟨i, hi, ei⟩ := mxW_mem lp C.pos
  obtain ⟨j, hj, ej⟩ := mxW_mem lq D.pos
  have b1 := mxW_le (c := othC ps qs c t) (tau_mem h hi)
  rw [oth_tau lp lq h hi, ei] at b1
  have b2 := mxW_le (c := c) (tau_mem h.symm hj)
  have b3 : othC ps qs c t j ≤ mxW ps c * t := Nat.mul_le_mul_right t b2
  omega
theorem lat_oth (C : CostOk ps c) (lq : Lets qs) (h : qs.length = ps.length) {t : Nat} (ht : 1 ≤ t) (hf : ∀ i ∈ ps, c i * t ≤ 9) : latN qs (othC ps qs c t) = tau ps qs (latN ps c) := by
  have lp := C.lets
  have e1 : qs.filter (fun j => decide (othC ps qs c t j = mxW qs (othC ps qs c t))) = (ps.filter fun i => decide (c i = mxW ps c)).map (tau ps qs) := by
    rw [mx_oth C lq h ht hf]
    have e0 : ∀ f : Nat → Bool, qs.filter f = (ps.map (tau ps qs)).filter f := fun f => by rw [tau_map lp.nodup h]
    rw [e0, List.filter_map]
    congr 1
    apply List.filter_congr
    intro i hi
    apply decide_eq_decide.mpr
    show othC ps qs c t (tau ps qs i) = _ ↔ _
    rw [oth_tau lp lq h hi]
    exact ⟨fun z => Nat.eq_of_mul_eq_mul_right ht z, fun z => by rw [z]⟩
  have e2 := (lat_ex C).1
  unfold latN
  rw [e1, List.getLast?_map, e2]
  show tau ps qs (latN ps c) = tau ps qs ((ps.filter fun i => decide (c i = mxW ps c)).getLast?.getD 0)
  rw [e2]
  rfl
theorem ls_ok {w : List Nat} (h : ∀ i ∈ w, i < 26) : PySem.PyData.strOk (LS w) = true := by
  refine SOk.iff.mp fun k hk => ?_
  rw [LS_cps] at hk
  obtain ⟨i, hi, rfl⟩ := List.mem_map.mp hk
  have := h i hi
  omega
theorem toPys_wD : ∀ l : List (List Nat), toPys (l.map wD) = some (l.map fun w => PySem.PyData.str (LS w))
  | [] => rfl
  | w :: l => by
    rw [List.map_cons, toPys, toPys_wD l]
    rfl
theorem lay_wD : ∀ {l : List (List Nat)}, (∀ w ∈ l, ∀ i ∈ w, i < 26) → PySem.PyData.canLayAll0 (l.map fun w => PySem.PyData.str (LS w)) = true
  | [], _ => rfl
  | w :: l, h => by
    rw [List.map_cons, PySem.PyData.canLayAll0, lay_wD fun j hj => h j (List.mem_cons_of_mem _ hj), PySem.PyData.canLay0, ls_ok (h w List.mem_cons_self)]
    rfl
theorem dep_wD : ∀ l : List (List Nat), PySem.PyData.depthAll (l.map fun w => PySem.PyData.str (LS w)) = 0
  | [] => rfl
  | w :: l => by
    rw [List.map_cons, PySem.PyData.depthAll, dep_wD l]
    rfl
theorem eqv_wD : ∀ l : List (List Nat), PySem.PyData.eqvAll (l.map fun w => PySem.PyData.str (LS w)) (l.map fun w => PySem.PyData.str (LS w)) = true
  | [] => rfl
  | w :: l => by
    show ((LS w == LS w) && PySem.PyData.eqvAll (l.map fun w => PySem.PyData.str (LS w)) (l.map fun w => PySem.PyData.str (LS w))) = true
    rw [eqv_wD l]
    simp
theorem o_neWs {l : List (List Nat)} (hl : ∀ w ∈ l, ∀ i ∈ w, i < 26) (h : Q (.bl false) s) : RP Q E (neD (.lst (l.map wD)) (.lst (l.map wD)) s) := by
  have e1 : toPy (.lst (l.map wD)) = some (.list (l.map fun w => PySem.PyData.str (LS w))) := by
    rw [toPy, toPys_wD]
    rfl
  have e0 : PySem.SeqAt.shaped (.list (l.map fun w => PySem.PyData.str (LS w))) = true := by
    unfold PySem.SeqAt.shaped
    rw [PySem.PyData.canLay0, lay_wD hl, PySem.PyData.depth, dep_wD]
    rfl
  have e : neD (.lst (l.map wD)) (.lst (l.map wD)) s = .ok (.bl false) s := by
    show eqG0 true (.lst (l.map wD)) (.lst (l.map wD)) s = _
    unfold eqG0
    rw [e1]
    dsimp only
    rw [if_pos (by rw [e0]; rfl)]
    show Res.ok (D.bl (!PySem.PyData.eqvAll (l.map fun w => PySem.PyData.str (LS w)) (l.map fun w => PySem.PyData.str (LS w)))) s = _
    rw [eqv_wD]
    rfl
  rw [e]
  exact h
theorem o_neBl' {x y : Bool} (h : Q (.bl (!decide (x = y))) s) : RP Q E (neD (.bl x) (.bl y) s) := by
  cases x <;> cases y <;> exact h
theorem nox_of {m : DF} {ds : List D} {s s' : Sto} {v : D} (h : m ds s = .ok v s') : noxF m ds s = .ok v s' := by
  unfold noxF
  rw [h]
theorem after_cost (lp : Lets ps) (hc : ∀ i ∈ ps, 1 ≤ c i ∧ c i ≤ 9) {w : List Nat} (hw : ∀ i ∈ w, i ∈ ps) : costN c (afterW ps c w) ≤ costN c w + 9 := by
  have hc1 : ∀ i ∈ ps, 1 ≤ c i := fun i hi => (hc i hi).1
  obtain ⟨h1, h2⟩ := nx_spec lp hc1 w hw
  unfold afterW
  rw [nb_nx]
  cases e : nxW ps c w with
  | some v =>
    have := (h1 v e).cost
    dsimp only
    omega
  | none =>
    dsimp only
    obtain ⟨d, l, ed⟩ := later_ex lp hc hw
    obtain ⟨k1, k2, k3⟩ := later_head ed
    rw [ed]
    dsimp only
    rw [(fill_spec lp hc1 _ _ (Nat.le_refl _) k2).1]
    omega
end
end G
set_option Elab.async false
set_option linter.all false
set_option maxRecDepth 100000
set_option maxHeartbeats 4000000
namespace G
open Mp Pl
open PySem (Str sizeLine)
local macro_rules | `(tactic| wtm_at "e") => `(tactic| first
  | with_reducible refine w_set ?_
  | with_reducible refine w_bin ?_
  | ((with_reducible refine w_v (d := ?dv) ?hv ?_); (case hv => exact rfl))
  | with_reducible refine w_c ?_
  | with_reducible refine w_cons ?_
  | with_reducible refine w_nil ?_
  | with_reducible refine w_arg ?_
  | with_reducible refine w_call ?_
  | with_reducible refine w_if ?_
  | with_reducible refine w_ret ?_
  | with_reducible refine w_skip ?_
  | with_reducible refine w_bl ?_
  | with_reducible refine w_tru ?_
  | with_reducible refine w_attr ?_
  | with_reducible refine w_meth ?_
  | with_reducible refine w_chain ?_
  | with_reducible refine w_and ?_
  | with_reducible refine w_or ?_
  | with_reducible refine w_not ?_
  | with_reducible refine w_notT ?_
  | with_reducible refine w_andT ?_
  | with_reducible refine w_orT ?_
  | with_reducible refine w_ifM ?_
  | with_reducible refine w_expr ?_
  | with_reducible refine w_un ?_
  | with_reducible refine w_par2 ?_
  | with_reducible refine w_par3 ?_
  | with_reducible refine w_asg ?_
  | with_reducible refine w_aug ?_
  | with_reducible refine w_sub ?_
  | with_reducible refine w_fld ?_
  | with_reducible refine w_raise ?_
  | with_reducible refine w_raise0 ?_
  | with_reducible refine w_try ?_
  | with_reducible refine w_make ?_
  | with_reducible refine w_tryAs ?_
  | with_reducible refine w_exn ?_
  | ((with_reducible refine o_isx (b := ?bv) ?h1 ?_); (case h1 => exact rfl))
  | with_reducible refine w_superS ?_
  | with_reducible refine w_super ?_
  | with_reducible refine w_star ?_
  | with_reducible refine w_for0 ?_
  | with_reducible refine w_lc0 ?_
  | with_reducible refine w_lc20 ?_
  | with_reducible refine w_seqJ ?_
  | with_reducible refine w_starC ?_
  | with_reducible refine w_spr ?_
  | with_reducible refine w_kwA ?_
  | with_reducible refine w_kwM ?_
  | with_reducible refine w_sprK ?_
  | with_reducible refine w_get ?_
  | with_reducible refine w_makeL ?_
  | with_reducible refine w_tryN ?_
  | ((with_reducible refine o_own0 ?hv ?_); (case hv => exact rfl))
  | ((with_reducible refine o_eqO0 ?hv ?_); (case hv => exact rfl))
  | with_reducible refine w_seqI ?_
  | with_reducible refine w_argI ?_
  | with_reducible refine w_opt ?_
  | with_reducible refine w_sli ?_
  | with_reducible refine w_pure ?_
  | with_reducible refine w_disp ?_
  | with_reducible refine w_pairs1 ?_
  | with_reducible refine w_pairs0 ?_
  | with_reducible refine w_retN ?_
  | with_reducible refine w_cnt ?_
  | with_reducible refine w_brk ?_
  | with_reducible refine o_addI ?_
  | with_reducible refine o_addI' ?_
  | with_reducible refine o_sub ?_
  | with_reducible refine o_lt ?_
  | with_reducible refine o_le ?_
  | with_reducible refine o_gt ?_
  | with_reducible refine o_ge ?_
  | with_reducible refine o_eqI ?_
  | with_reducible refine o_neI ?_
  | with_reducible refine o_eqS ?_
  | with_reducible refine o_neS ?_
  | with_reducible refine o_int ?_
  | with_reducible refine o_intB ?_
  | with_reducible refine o_neg ?_
  | with_reducible refine o_abs ?_
  | with_reducible refine o_newL ?_
  | with_reducible refine o_max2 ?_
  | with_reducible refine o_min2 ?_
  | with_reducible refine o_lenL ?_
  | with_reducible refine o_lenT ?_
  | ((with_reducible refine o_tup ?hv ?_); (case hv => first | exact Nat.le_of_ble_eq_true rfl | assumption))
  | ((with_reducible refine o_lst ?hv ?_); (case hv => first | exact Nat.le_of_ble_eq_true rfl | assumption))
  | ((with_reducible refine o_isi (t := ?tv) (b := ?bv) ?h1 ?h2 ?_); (case h1 => exact rfl); (case h2 => exact rfl))
  | ((with_reducible refine o_fld (C := ?cv) (fs := ?fv) (d := ?dv) ?h1 ?h2 ?h3 ?_); (case h1 => exact rfl); (case h2 => exact rfl); (case h3 => exact rfl))
  | ((with_reducible refine Exists.intro ?kv (And.intro ?ha ?_)); (case ha => exact rfl)))
local macro_rules | `(tactic| wtm_at "body") => `(tactic| (refine w_body rfl rfl ?_; dsimp only [List.length_cons, List.length_nil, List.drop, List.append_nil, List.map_cons, List.map_nil, List.map, List.cons_append, List.nil_append, Nat.reduceAdd, Nat.reduceSub, List.replicate]))
local macro_rules | `(tactic| wtm_at "meth") => `(tactic| refine ⟨_, _, _, rfl, rfl, rfl, ?_⟩)
local macro_rules | `(tactic| wtm_at "w") => `(tactic| first | with_reducible refine w_seq ?_ | wtm_at "e")
local macro_rules | `(tactic| wtm_at "s") => `(tactic| ((repeat wtm_at "e"); (with_reducible refine w_seq ?_)))
local macro_rules | `(tactic| wtm_at "f") => `(tactic| ((repeat wtm_at "e"); (with_reducible show FP _ _)))
section
theorem law_ok {ns : List Int} : ∃ s', m_law [.rol (ns.map .int)] [] = .ok (.bl true) s' := by
  have hz : sizeLine = 16777216 := by decide
  suffices hw : RP (fun d _ => d = .bl true) noX (m_law [.rol (ns.map .int)] []) by
    obtain ⟨d, s', e, rfl⟩ := hw.ex
    exact ⟨s', e⟩
  wtm_at "body"
  unfold b_law
  wtm_at "s"
  repeat wtm_at "e"
  refine q_pen fun c0 s0 pen0 es0 => ?_
  wtm_at "s"
  repeat wtm_at "e"
  refine w_range1 (by decide) (by decide) ?_
  refine w_for (fun i r s' => Pen s' 0 (1000 * i) ∧ ∃ x2 x3 x4 x5 x6 x7 x8 x9 x10 x11 x12 x13 x14 x15 : Option D, r = [some (.rol (ns.map .int)), some (.cel 0), x2, x3, x4, x5, x6, x7, x8, x9, x10, x11, x12, x13, x14, x15]) rfl ⟨pen0.mono (by simp), _, _, _, _, _, _, _, _, _, _, _, _, _, _, rfl⟩ ?_ ?_
  rotate_left
  · rintro r s' ⟨_, x2, x3, x4, x5, x6, x7, x8, x9, x10, x11, x12, x13, x14, x15, rfl⟩
    repeat wtm_at "e"
    rfl
  rintro i d r s hd ⟨pen, x2, x3, x4, x5, x6, x7, x8, x9, x10, x11, x12, x13, x14, x15, rfl⟩
  obtain ⟨hi, rfl⟩ := intL_get hd
  have hi8 : i < 6 := hi
  have hB := pen.lt
  refine ⟨_, rfl, ?_⟩
  wtm_at "s"
  repeat wtm_at "e"
  refine q_letters pen (by omega) (by decide) (by decide) fun ps s1 lp0 ph1 => ?_
  repeat wtm_at "e"
  refine q_costs lp0 ph1.pen (by omega) fun c s1' C pf1 => ?_
  have ph1 : PH 0 s s1' (1000 * i + 31) := ph1.go ⟨pf1.pen, pf1.fr⟩ (by omega)
  have lp := C.lets
  have h4 := lp.few
  have h1p := lp.pos
  wtm_at "f"
  with_reducible refine w_mid (fun r s' => ∃ t : Nat, 1 ≤ t ∧ (∀ i ∈ ps, c i * t ≤ 9) ∧ PH 0 s s' (1000 * i + 32) ∧ r = [some (.rol (ns.map .int)), some (.cel 0), some (.int (0 + i)), some (.dct (byL ps fun i => nD (c i))), some (nD t), x5, x6, x7, x8, x9, x10, x11, x12, x13, x14, x15]) ?_ ?_
  · repeat wtm_at "e"
    refine w_listVals ?_
    repeat wtm_at "e"
    rw [show ((byL ps fun i => nD (c i)).map (·.2)) = (ps.map c).map nD by unfold byL; rw [List.map_map, List.map_map]; rfl]
    refine o_maxN (by intro z; have := congrArg List.length z; simp at this; subst this; simp at h1p) ?_
    repeat wtm_at "e"
    refine ⟨fun z => ?_, fun z => ?_⟩
    · have z := of_decide_eq_true z
      have z : mxW ps c < 4 := by
        show (ps.map c).foldl max 0 < 4
        omega
      repeat wtm_at "e"
      refine q_pick ph1.pen (by omega) (by show 0 < 2; decide) (by show 2 < 1000000; decide) fun d s2 hd p2 f2 l2 => ?_
      obtain ⟨t, rfl, ht⟩ : ∃ t : Nat, d = nD t ∧ 1 ≤ t ∧ t ≤ 3 := by
        simp only [List.mem_cons, List.not_mem_nil, or_false] at hd
        rcases hd with rfl | rfl
        · exact ⟨2, rfl, by decide⟩
        · exact ⟨3, rfl, by decide⟩
      refine ⟨t, ht.1, fun j hj => ?_, ph1.go ⟨p2, f2⟩ (by omega), rfl⟩
      have := mxW_le (c := c) hj
      exact Nat.le_trans (Nat.mul_le_mul (show c j ≤ 3 by omega) ht.2) (by decide)
    · repeat wtm_at "e"
      exact ⟨1, by decide, fun j hj => by have := C.few j hj; omega, ph1.mono (by omega), rfl⟩
  rintro r s2 ⟨t, ht, hf, ph2, rfl⟩
  wtm_at "s"
  repeat wtm_at "e"
  refine q_other_letters lp ph2.pen (by omega) fun qs s3 lq hql ph3 => ?_
  have ph3 : PH 0 s s3 (1000 * i + 58) := ph2.go ph3 (by omega)
  have Dq := oth_ok C lq hql ht hf
  wtm_at "s"
  repeat wtm_at "e"
  refine q_made_order C ph3.pen (by omega) fun s4 ph4 => ?_
  have ph4 : PH 0 s s4 (1000 * i + 62) := ph3.go ph4 (by omega)
  wtm_at "s"
  repeat wtm_at "e"
  refine w_lcX ps chD (fun i => .tup [chD (tau ps qs i), nD (othC ps qs c t (tau ps qs i))]) (by show (byL ps fun i => nD (c i)).map (fun p => keyV p.1) = _; unfold byL; rw [List.map_map]; rfl) rfl (by omega) (fun j hj => ⟨_, rfl, ?_⟩) ?_
  · have h9 := C.few j hj
    have h9t := hf j hj
    have ht9 : t ≤ 9 := by
      have := C.pos j hj
      exact Nat.le_trans (Nat.le_mul_of_pos_left t this) h9t
    repeat wtm_at "e"
    refine o_idxD (n := 0) (m := byL ps fun i => chD (tau ps qs i)) rfl rfl (byL_get hj) ?_
    repeat wtm_at "e"
    refine o_idxD (n := 0) (m := byL ps fun i => nD (c i)) rfl rfl (byL_get hj) ?_
    repeat wtm_at "e"
    refine o_mul64 (by omega) (by omega) ?_
    repeat wtm_at "e"
    refine ⟨rfl, ?_⟩
    rw [oth_tau lp lq hql hj]
    show _ = D.tup [_, D.int ((c j * t : Nat) : Int)]
    rw [Int.natCast_mul]
  repeat wtm_at "e"
  rw [show (ps.map fun i => D.tup [chD (tau ps qs i), nD (othC ps qs c t (tau ps qs i))]) = qs.map fun j => D.tup [keyV (Sum.inr (ch j)), nD (othC ps qs c t j)] by
    conv => rhs; rw [← tau_map lp.nodup hql]
    rw [List.map_map, tau_map lp.nodup hql]
    rfl]
  refine o_dictP qs (fun i => .inr (ch i)) (fun j => nD (othC ps qs c t j)) rfl rfl (key_nodup lq.nodup) ?_
  repeat wtm_at "e"
  refine q_made_order Dq ph4.pen (by omega) fun s5 ph5 => ?_
  have ph5 : PH 0 s s5 (1000 * i + 66) := ph4.go ph5 (by omega)
  wtm_at "s"
  repeat wtm_at "e"
  refine q_letter_more C ph5.pen (by omega) fun us e s6 U hU ph6 => ?_
  have ph6 : PH 0 s s6 (1000 * i + 68) := ph5.go ph6 (by omega)
  repeat wtm_at "e"
  refine q_made_order U ph6.pen (by omega) fun s7 ph7 => ?_
  have ph7 : PH 0 s s7 (1000 * i + 72) := ph6.go ph7 (by omega)
  wtm_at "s"
  repeat wtm_at "e"
  refine w_bm ?_
  repeat wtm_at "e"
  refine ⟨rfl, ?_⟩
  repeat wtm_at "e"
  refine o_listK (m := byL ps fun i => nD (c i)) rfl ?_
  repeat wtm_at "e"
  rw [show ((byL ps fun i => nD (c i)).map fun p => keyV p.1) = ps.map chD by unfold byL; rw [List.map_map]; rfl]
  refine join_chs ps (by omega) rfl ?_
  wtm_at "s"
  repeat wtm_at "e"
  refine w_range1 (by decide) (by decide) ?_
  refine w_lcD (m := 4) wD (fun w => (∀ i ∈ w, i ∈ ps) ∧ w.length ≤ 30) 33 ph7.pen (by decide) (by decide) (fun j s1' R hj p1 hR => ?_) fun ws s8 hwl hws pf8 => ?_
  · repeat wtm_at "e"
    refine q_pick p1 (by omega) (by show 0 < 3; decide) (by show 3 < 1000000; decide) fun d s2' hd p2 f2 l2 => ?_
    obtain ⟨m, rfl, hm⟩ : ∃ m : Nat, d = nD m ∧ m ≤ 30 := by
      simp only [List.mem_cons, List.not_mem_nil, or_false] at hd
      rcases hd with rfl | rfl | rfl
      · exact ⟨4, rfl, by decide⟩
      · exact ⟨12, rfl, by decide⟩
      · exact ⟨30, rfl, by decide⟩
    repeat wtm_at "e"
    refine q_word p2 (by omega) (by omega) (by omega) (by omega) (by omega) fun ws s3' hwl hws pf => ?_
    exact hR ws s3' ⟨hws, by omega⟩ ((PF.of p1).go' ((⟨p2, f2, l2⟩ : PF 0 _ _ _).go' pf (Int.le_refl _)) (by omega))
  have ph8 : PH 0 s s8 (1000 * i + 210) := ph7.go ⟨pf8.pen, pf8.fr⟩ (by omega)
  have hc : ∀ i ∈ ps, 1 ≤ c i ∧ c i ≤ 9 := fun i hi => ⟨C.pos i hi, C.few i hi⟩
  have hdc : ∀ i ∈ qs, 1 ≤ othC ps qs c t i ∧ othC ps qs c t i ≤ 9 := fun i hi => ⟨Dq.pos i hi, Dq.few i hi⟩
  have cl : ∀ {vs : List Nat} {g : Nat → Nat} {w : List Nat}, CostOk vs g → (∀ i ∈ w, i ∈ vs) → costN g w ≤ 9 * w.length := fun {vs g w} V hw => by
    have h1 := cost_le (c := g) hw
    obtain ⟨k, hk, ek⟩ := mxW_mem V.lets V.pos
    have := V.few k hk
    rw [ek] at this
    exact Nat.le_trans h1 (Nat.mul_le_mul_right _ this)
  have wl : ∀ {w : List Nat}, (∀ i ∈ w, i ∈ ps) → ∀ i ∈ w, i ∈ us := fun hw i hi => (hU i (hw i hi)).1
  wtm_at "f"
  with_reducible refine w_mid (fun r s' => PH 0 s s' (1000 * i + 210) ∧ ∃ x11 x13 : Option D, r = [some (.rol (ns.map .int)), some (.cel 0), some (.int (0 + i)), some (.dct (byL ps fun i => nD (c i))), some (nD t), some (.dct (byL ps fun i => chD (tau ps qs i))), some (ordD ps c), some (ordD qs (othC ps qs c t)), some (ordD us e), some (.str (LS ps)), some (.lst (ws.map wD)), x11, x12, x13, x14, x15]) ?_ ?_
  · repeat wtm_at "e"
    refine w_for (fun j r s' => PH 0 s s' (1000 * i + 210) ∧ ∃ x11 x13 : Option D, r = [some (.rol (ns.map .int)), some (.cel 0), some (.int (0 + i)), some (.dct (byL ps fun i => nD (c i))), some (nD t), some (.dct (byL ps fun i => chD (tau ps qs i))), some (ordD ps c), some (ordD qs (othC ps qs c t)), some (ordD us e), some (.str (LS ps)), some (.lst (ws.map wD)), x11, x12, x13, x14, x15]) rfl ⟨ph8, _, _, rfl⟩ ?_ ?_
    rotate_left
    · rintro r s' ⟨ph, y11, y13, rfl⟩
      exact ⟨ph, _, _, rfl⟩
    rintro j d r s' hd ⟨ph, y11, y13, rfl⟩
    have hd : (ws.map wD)[j]? = some d := hd
    rw [List.getElem?_map] at hd
    cases ew : ws[j]? with
    | none => rw [ew] at hd; cases hd
    | some w =>
      rw [ew] at hd
      cases hd
      obtain ⟨hw, hwl30⟩ := hws w (List.mem_of_getElem? ew)
      have c1 := cl C hw
      have hw' := map_ok hql hw
      have hml : (w.map (tau ps qs)).length = w.length := List.length_map ..
      have c2 := cl Dq hw'
      rw [hml] at c2
      have hwu := wl hw
      have c3 := cl U hwu
      refine ⟨_, rfl, ?_⟩
      wtm_at "s"
      repeat wtm_at "e"
      refine ⟨_, _, _, rfl, rfl, rfl, ?_⟩
      repeat wtm_at "e"
      refine q_number_of lp C.pos hw (by omega) (by omega) fun o1 => ?_
      have ph := ph.app (o := o1)
      repeat wtm_at "e"
      refine ⟨_, _, _, rfl, rfl, rfl, ?_⟩
      repeat wtm_at "e"
      refine q_turned hw (by omega) ?_
      repeat wtm_at "e"
      refine q_number_of lq Dq.pos hw' (by omega) (by omega) fun o2 => ?_
      have ph := ph.app (o := o2)
      rw [iso_pl C lq hql ht hf hw]
      repeat wtm_at "e"
      refine ⟨fun z => absurd z (by simp), fun _ => ?_⟩
      wtm_at "s"
      repeat wtm_at "e"
      refine ⟨_, _, _, rfl, rfl, rfl, ?_⟩
      repeat wtm_at "e"
      refine q_after lp hc hw (by omega) (by omega) fun o3 => ?_
      have ph := ph.app (o := o3)
      have m1 := (after_spec lp hc hw).1
      have al : (afterW ps c w).length ≤ 100000 := by
        have a1 := len_cost C.pos m1
        have a2 := after_cost lp hc hw
        omega
      repeat wtm_at "e"
      refine q_turned m1 al ?_
      repeat wtm_at "e"
      refine ⟨_, _, _, rfl, rfl, rfl, ?_⟩
      repeat wtm_at "e"
      refine q_turned hw (by omega) ?_
      repeat wtm_at "e"
      refine q_after lq hdc hw' (by omega) (by omega) fun o4 => ?_
      have ph := ph.app (o := o4)
      rw [← iso_after C lq hql ht hf hw]
      repeat wtm_at "e"
      refine ⟨fun z => absurd z (by simp), fun _ => ?_⟩
      wtm_at "s"
      repeat wtm_at "e"
      refine ⟨_, _, _, rfl, rfl, rfl, ?_⟩
      repeat wtm_at "e"
      refine q_number_of U.lets U.pos hwu (by omega) (by omega) fun o5 => ?_
      have ph := ph.app (o := o5)
      repeat wtm_at "e"
      refine ⟨_, _, _, rfl, rfl, rfl, ?_⟩
      repeat wtm_at "e"
      refine q_number_of lp C.pos hw (by omega) (by omega) fun o6 => ?_
      have ph := ph.app (o := o6)
      have hpw := pl_wide C U hU hw
      repeat wtm_at "e"
      refine ⟨fun z => absurd (of_decide_eq_true z) (by omega), fun _ => ?_⟩
      repeat wtm_at "e"
      generalize hS : s' ++ [o1] ++ [o2] ++ [o3] ++ [o4] ++ [o5] ++ [o6] = S at ph ⊢
      refine w_for (fun j r s' => s' = S ∧ ∃ x13 : Option D, r = [some (.rol (ns.map .int)), some (.cel 0), some (.int (0 + i)), some (.dct (byL ps fun i => nD (c i))), some (nD t), some (.dct (byL ps fun i => chD (tau ps qs i))), some (ordD ps c), some (ordD qs (othC ps qs c t)), some (ordD us e), some (.str (LS ps)), some (.lst (ws.map wD)), some (wD w), x12, x13, x14, x15]) rfl ⟨rfl, _, rfl⟩ ?_ ?_
      · rintro k d r s2 hd ⟨rfl, y13, rfl⟩
        have hd : (ws.map wD)[k]? = some d := hd
        rw [List.getElem?_map] at hd
        cases ev : ws[k]? with
        | none => rw [ev] at hd; cases hd
        | some v =>
          rw [ev] at hd
          cases hd
          obtain ⟨hv, hvl⟩ := hws v (List.mem_of_getElem? ev)
          refine ⟨_, rfl, ?_⟩
          repeat wtm_at "e"
          refine ⟨_, _, _, rfl, rfl, rfl, ?_⟩
          repeat wtm_at "e"
          refine q_is_before U.lets hwu (by omega) (wl hv) (by omega) ?_
          repeat wtm_at "e"
          refine ⟨_, _, _, rfl, rfl, rfl, ?_⟩
          repeat wtm_at "e"
          refine q_is_before lp hw (by omega) hv (by omega) ?_
          rw [lt_wide hU hw hv]
          repeat wtm_at "e"
          refine o_neBl' ?_
          refine ⟨_, rfl, fun z => absurd z (by simp), fun _ => ?_⟩
          repeat wtm_at "e"
          exact ⟨rfl, _, rfl⟩
      · rintro r s2 ⟨rfl, y13, rfl⟩
        exact ⟨ph, _, _, rfl⟩
  rintro r s9 ⟨ph9, y11, y13, rfl⟩
  obtain ⟨w0, w1, w2, w3, rfl⟩ : ∃ a b d e, ws = [a, b, d, e] := by
    match ws, hwl with
    | [a, b, d, e], _ => exact ⟨a, b, d, e, rfl⟩
  have H : ∀ w ∈ [w0, w1, w2, w3], (∀ i ∈ w, i ∈ ps) ∧ w.length ≤ 160 := fun w hw => ⟨(hws w hw).1, by have := (hws w hw).2; omega⟩
  have hr : ∀ w : List Nat, w ∈ [w3, w2, w1, w0] ↔ w ∈ [w0, w1, w2, w3] := fun w => by
    simp only [List.mem_cons, List.not_mem_nil, or_false]
    constructor <;> (rintro (h | h | h | h) <;> simp [h])
  have H2 : ∀ w ∈ [w3, w2, w1, w0], (∀ i ∈ w, i ∈ us) ∧ w.length ≤ 160 := fun w hw => ⟨wl (H w ((hr w).mp hw)).1, (H w ((hr w).mp hw)).2⟩
  wtm_at "s"
  repeat wtm_at "e"
  refine ⟨_, _, _, rfl, rfl, rfl, ?_⟩
  repeat wtm_at "e"
  refine o_idxL (k := 0) rfl rfl ?_
  repeat wtm_at "e"
  refine o_idxL (k := 1) rfl rfl ?_
  repeat wtm_at "e"
  refine o_idxL (k := 2) rfl rfl ?_
  repeat wtm_at "e"
  refine o_idxL (k := 3) rfl rfl ?_
  repeat wtm_at "e"
  refine q_sorted_words lp (ws := [w0, w1, w2, w3]) H (by simp) ?_
  wtm_at "s"
  repeat wtm_at "e"
  refine ⟨_, _, _, rfl, rfl, rfl, ?_⟩
  repeat wtm_at "e"
  refine o_idxL (k := 3) rfl rfl ?_
  repeat wtm_at "e"
  refine o_idxL (k := 2) rfl rfl ?_
  repeat wtm_at "e"
  refine o_idxL (k := 1) rfl rfl ?_
  repeat wtm_at "e"
  refine o_idxL (k := 0) rfl rfl ?_
  repeat wtm_at "e"
  refine q_sorted_words U.lets (ws := [w3, w2, w1, w0]) H2 (by simp) ?_
  rw [← srt_same (c := c) (d := e) (us := [w0, w1, w2, w3]) (vs := [w3, w2, w1, w0]) (fun w => (hr w).symm) fun u hu v hv => lt_wide hU (H u hu).1 (H v hv).1]
  refine o_neWs (fun w hw i hi => lp.lt i ((H w (srtW_mem.mp hw)).1 i hi)) ?_
  refine ⟨_, rfl, fun z => (by cases z), fun _ => ?_⟩
  repeat wtm_at "e"
  refine o_prop (m := noxF m_Order_latest) rfl rfl ?_
  refine RP.of (nox_of (q_latest (Q := fun v t2 => t2 = s9 ∧ v = chD (latN ps c)) (E := noX) C ⟨rfl, rfl⟩).eqn) ?_
  repeat wtm_at "e"
  rw [LS_chars]
  have hL := (lat_ex C).2
  refine w_lcY ps chD chD (fun i => decide (tau ps qs i = tau ps qs (latN ps c))) rfl rfl (by omega) (fun j hj => ⟨_, rfl, ?_, fun _ => ?_⟩) ?_
  · repeat wtm_at "e"
    refine o_idxD (n := 0) (m := byL ps fun i => chD (tau ps qs i)) rfl rfl (byL_get hj) ?_
    repeat wtm_at "e"
    refine o_prop (m := noxF m_Order_latest) rfl rfl ?_
    refine RP.of (nox_of (q_latest (Q := fun v t2 => t2 = s9 ∧ v = chD (latN qs (othC ps qs c t))) (E := noX) Dq ⟨rfl, rfl⟩).eqn) ?_
    rw [lat_oth C lq hql ht hf]
    repeat wtm_at "e"
    refine ⟨rfl, ?_⟩
    apply decide_eq_decide.mpr
    exact ⟨fun z => ch_inj z, fun z => by rw [z]⟩
  · repeat wtm_at "e"
    exact ⟨rfl, rfl⟩
  repeat wtm_at "e"
  have hmL : latN ps c ∈ ps.filter fun i => decide (tau ps qs i = tau ps qs (latN ps c)) := List.mem_filter.mpr ⟨hL, decide_eq_true rfl⟩
  obtain ⟨l, el⟩ : ∃ l, (ps.filter fun i => decide (tau ps qs i = tau ps qs (latN ps c))) = latN ps c :: l := by
    cases el : ps.filter fun i => decide (tau ps qs i = tau ps qs (latN ps c)) with
    | nil => rw [el] at hmL; cases hmL
    | cons x l =>
      have hx : x ∈ ps.filter fun i => decide (tau ps qs i = tau ps qs (latN ps c)) := by rw [el]; exact List.mem_cons_self
      obtain ⟨hx1, hx2⟩ := List.mem_filter.mp hx
      have := tau_inj lp lq hql hx1 hL (of_decide_eq_true hx2)
      subst this
      exact ⟨l, rfl⟩
  rw [el]
  refine o_idxL (k := 0) rfl rfl ?_
  repeat wtm_at "e"
  refine ⟨fun z => absurd z (by simp), fun _ => ?_⟩
  repeat wtm_at "e"
  exact ⟨ph9.pen.mono (by rw [Int.natCast_succ]; omega), _, _, _, _, _, _, _, _, _, _, _, _, _, _, rfl⟩
end
end G
set_option Elab.async false
set_option linter.all false
set_option maxRecDepth 100000
set_option maxHeartbeats 0
theorem PySem.Challenge.cw_firstanswers_k15_whole_orders_of_other_l_holds : PySem.Challenge.rw_firstanswers_k15_whole_orders_of_other_l.Holds := by
  exact G.fin G.m_law (fun Z => G.f_law Z) fun ns => G.law_ok
