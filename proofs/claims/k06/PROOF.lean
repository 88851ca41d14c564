import PyProof.Rows.All
import Wide.All
import OpenK.AllK
import Wide.FinOn
import HandS.ForMost
import HandS.ForExc
import HandS.Wide
import HandS.Zip
import HandS.CallSlots
import HandS.HeadHook1
import HandS.HeadHook2
import HandS.Lambda
import HandS.Flow
import HandS.TupAny
import HandS.IsInst
import HandS.Style
import HandS.Property
import HandS.Star
import HandS.ExcInit
import HandS.TryMany
import HandS.HeadWalk
import KE.KExcInit
import HandS.ExcField
import KE.KSuper
import HandS.NestedK
import HandS.RaiseMore
import HandS.Deep
import HandS.Ends
import HandS.EndBits
import HandS.Head0
import HandS.Head1
import HandS.Head2
import HandS.HeadEnd
import HandS.ExcIs
import HandS.DictComp
import HandS.SortInts
import HandS.More
import HandS.Dict
import HandS.Conv
import HandS.HeadNt
import PyProof.DictUpdate
import HandS.SlotsOwn
import HandS.TupMul
import HandS.DictEq
import PyProof.Rows.SortShellAny
import KE.SortKeyHeap
import HandS.Exc
import HandS.ExcValue
import HandS.TupLe
import HandS.ListItems
import KE.KDictList
import PyProof.Rows.StrOr
import PyProof.ReprRoads
import OpenK.KOwn
import KE.GoesRaise
import PyProof.EnumMake
import PyProof.Draws
import KE.GoesMore
import KE.GoesZip
import KE.GoesEnum
import HandS.Replace
import PyProof.ListStr
import KE.KDictZip
import HandS.FStr
import HandS.DeepEq
import PyProof.StrReplace2
import PyProof.FString
import HandS.DictTup
import KE.DataMinMax
import HandS.New0
import PySem.Challenge.RW_firstanswers_k06_numbers_refused
set_option Elab.async false
set_option linter.all false
set_option maxRecDepth 100000
set_option maxHeartbeats 4000000
/-! Mp: data trees over the hand layer. A def's text becomes a plain function on data; this part: data, worlds, what is wanted behind a computation. -/
namespace Mp
open PySem PySem.Spec PyProof.Rows L2
/-! ### data -/
/-- a lambda's text -/
structure LamT where
  q : Str
  params : Arguments
  body : Expr
  scope : Scope
inductive D where
  | non | bl (b : Bool) | int (i : Int) | str (z : Str)
  | ty (n : String)
  | glo (x : Str)
  | tup (l : List D) | lst (l : List D) | rol (l : List D)
  | dct (l : List (Key × D))
  | ins (C : Str) (fs : List (Str × D))
  | exn (a : Addr) (d : Option Addr) (C : Str) (fs : List (Str × D))
  | cel (n : Nat)
  | clo (f c : Addr) (q : Str) (t : L2.St) (r : List (Option D))
  | kot (l : List D)
  | lam (k : Nat) (T : LamT) (cl : List (Str × Addr))
/-- what a mutable cell holds -/
inductive Ct where
  | lst (l : List D) | dct (l : List (Key × D)) | ins (C : Str) (fs : List (Str × D)) | rod (l : List (Key × D)) | tab (x : Str) | dtt (l : List (List Key × D))
abbrev Sto := List (Option Ct)
abbrev En := List (Option D)
inductive Res (T : Type) where
  | ok (a : T) (s : Sto) | exc (C : Str) (fs : List (Str × D)) (s : Sto) | bad
abbrev DM (T : Type) := En → Sto → Res T
abbrev DE := DM D
inductive Fl where
  | nx (r : En) (s : Sto) | rt (d : D) (s : Sto) | bk (r : En) (s : Sto) | ct (r : En) (s : Sto)
  | exc (C : Str) (fs : List (Str × D)) (r : En) (s : Sto) | bad
abbrev DS := En → Sto → Fl
abbrev DG := D → En → Sto → Option (En × Sto)
def bindM {T U : Type} (m : DM T) (f : T → DM U) : DM U := fun r s => match m r s with
  | .ok a s' => f a r s'
  | .exc C fs s' => .exc C fs s'
  | .bad => .bad
def pureM {T : Type} (a : T) : DM T := fun _ s => .ok a s
/-! ### worlds -/
structure Wd where
  A : Nat → Option Addr
  Z : Addr → Prop
  P : Addr → Prop
  H : Hp
abbrev Frag := PySem.W.Frag
/-- a written list, tuple -/
def KL (K : Frag) (a : Addr) (xs : List V) : Prop := ∃ (o : Obj) (its : Array Value) (n : Nat), K.lookup a = some o ∧ o.cls = .type "list" ∧ o.dict = none ∧ o.data = .seq its n ∧ its.size ≤ sizeLine ∧ Vals xs its.toList
def KT (K : Frag) (a : Addr) (xs : List V) : Prop := ∃ (o : Obj) (its : Array Value) (n : Nat), K.lookup a = some o ∧ o.cls = .type "tuple" ∧ o.data = .seq its n ∧ its.size ≤ sizeLine ∧ Vals xs its.toList
def LAt (K : Frag) (w : Wd) (a : Addr) (xs : List V) : Prop := (w.Z a ∧ Rd w.H a (.lst xs)) ∨ KL K a xs
def TAt (_K : Frag) (w : Wd) (a : Addr) (xs : List V) : Prop := w.Z a ∧ w.H a = some (.tup xs)
theorem LAt.sq {K : Frag} {w : Wd} {a : Addr} {xs : List V} (h : LAt K w a xs) : SqL K w.H a xs := h.elim (fun h => .inl h.2) .inr
theorem TAt.sq {K : Frag} {w : Wd} {a : Addr} {xs : List V} (h : TAt K w a xs) : SqT K w.H a xs := .inl (Rd.of h.2)
/-- all that Rep leans on is kept -/
structure Ex0 (w w' : Wd) : Prop where
  A : ∀ n a, w.A n = some a → w'.A n = some a
  Z : ∀ a, w.Z a → w'.Z a
  H : ∀ a, w.Z a → w'.H a = w.H a
/-- .. and what is pinned -/
structure Ext (w w' : Wd) : Prop extends Ex0 w w' where
  P : ∀ a, w.P a → w'.P a
  HP : ∀ a, w.P a → w'.H a = w.H a
theorem Ext.refl (w : Wd) : Ext w w := ⟨⟨fun _ _ h => h, fun _ h => h, fun _ _ => rfl⟩, fun _ h => h, fun _ _ => rfl⟩
theorem Ext.trans {a b c : Wd} (h : Ext a b) (k : Ext b c) : Ext a c := ⟨⟨fun n x e => k.A n x (h.A n x e), fun x e => k.Z x (h.Z x e), fun x e => (k.H x (h.Z x e)).trans (h.H x e)⟩, fun x e => k.P x (h.P x e), fun x e => (k.HP x (h.P x e)).trans (h.HP x e)⟩
theorem Ex0.rd {w w' : Wd} (e : Ex0 w w') {a : Addr} {u : HO} (z : w.Z a) (h : Rd w.H a u) : Rd w'.H a u := by
  unfold Rd at h ⊢
  rw [e.H a z]
  exact h
theorem LAt.ex0 {K : Frag} {w w' : Wd} (e : Ex0 w w') {a : Addr} {xs : List V} (h : LAt K w a xs) : LAt K w' a xs := h.elim (fun h => .inl ⟨e.Z a h.1, e.rd h.1 h.2⟩) .inr
theorem TAt.ex0 {K : Frag} {w w' : Wd} (e : Ex0 w w') {a : Addr} {xs : List V} (h : TAt K w a xs) : TAt K w' a xs := ⟨e.Z a h.1, (e.H a h.1).trans h.2⟩
theorem LAt.ext {K : Frag} {w w' : Wd} (e : Ext w w') {a : Addr} {xs : List V} (h : LAt K w a xs) : LAt K w' a xs := h.ex0 e.toEx0
theorem TAt.ext {K : Frag} {w w' : Wd} (e : Ext w w') {a : Addr} {xs : List V} (h : TAt K w a xs) : TAt K w' a xs := h.ex0 e.toEx0
/-- a lambda that is kept: its object, closed over cells -/
abbrev lamOb (T : LamT) (cl : List (Str × Addr)) (pm : Value) (c : Addr) (ctv : Value) : Obj := PySem.W.kla_obj "<lambda>" T.q T.params T.body T.scope cl pm c ctv
mutual
inductive Rep (K : Frag) (w : Wd) : V → D → Prop
  | non : Rep K w .non .non
  | bl (b : Bool) : Rep K w (.bl b) (.bl b)
  | int (i : Int) : Rep K w (.int i) (.int i)
  | str (z : Str) : Rep K w (.str z) (.str z)
  | ty (n : String) : Rep K w (.ty n) (.ty n)
  | glo (x : Str) : Rep K w (.ref (He.ga K x)) (.glo x)
  | tup {a : Addr} {vs : List V} {ds : List D} : TAt K w a vs → Reps K w vs ds → Rep K w (.ref a) (.tup ds)
  | lst {a : Addr} {vs : List V} {ds : List D} : w.Z a → w.H a = some (.lst vs) → Reps K w vs ds → Rep K w (.ref a) (.lst ds)
  | rol {a : Addr} {vs : List V} {ds : List D} : LAt K w a vs → Reps K w vs ds → Rep K w (.ref a) (.rol ds)
  | dct {a : Addr} {o : Obj} {ks : List Key} {vs : List V} {ds : List D} : w.Z a → w.H a = some (.frz o (.dK (ks.zip vs))) → ks.length = vs.length → Reps K w vs ds → Rep K w (.ref a) (.dct (ks.zip ds))
  | ins {a dx : Addr} {C : Str} {ks : List Str} {vs : List V} {ds : List D} : w.Z a → w.H a = some (.ins (He.ga K C) dx (ks.zip vs)) → ks.length = vs.length → Reps K w vs ds → Rep K w (.ref a) (.ins C (ks.zip ds))
  | exn0 {a : Addr} {C : Str} : Rep K w (.ref a) (.exn a none C [])
  | exn {a dx : Addr} {C : Str} {ks : List Str} {vs : List V} {ds : List D} : w.Z dx → w.H dx = some (.xd (ks.zip vs)) → ks.length = vs.length → Reps K w vs ds → Rep K w (.ref a) (.exn a (some dx) C (ks.zip ds))
  | cel {n : Nat} {a : Addr} : w.A n = some a → Rep K w (.ref a) (.cel n)
  | clo {f c : Addr} {q : Str} {t : L2.St} {r : List (Option D)} : w.Z c → w.H c = some (LamX.CodeO c q) → RepE K w t r → Rep K w (.ref f) (.clo f c q t r)
  | kot {a : Addr} {vs : List V} {ds : List D} : KT K a vs → Reps K w vs ds → Rep K w (.ref a) (.kot ds)
  | lam {a c : Addr} {k : Nat} {T : LamT} {cl : List (Str × Addr)} {pm ctv : Value} {u : HO} : w.Z a → w.H a = some (.frz (lamOb T cl pm c ctv) u) → w.Z c → w.H c = some (LamX.CodeO c T.q) → Rep K w (.ref a) (.lam k T cl)
inductive Reps (K : Frag) (w : Wd) : List V → List D → Prop
  | nil : Reps K w [] []
  | cons {v : V} {d : D} {vs : List V} {ds : List D} : Rep K w v d → Reps K w vs ds → Reps K w (v :: vs) (d :: ds)
inductive RepE (K : Frag) (w : Wd) : List (Option V) → List (Option D) → Prop
  | nil : RepE K w [] []
  | non {v : Option V} {t : List (Option V)} {r : List (Option D)} : RepE K w t r → RepE K w (v :: t) (none :: r)
  | som {v : V} {d : D} {t : List (Option V)} {r : List (Option D)} : Rep K w v d → RepE K w t r → RepE K w (some v :: t) (some d :: r)
end
mutual
theorem Rep.ex0 {K : Frag} {w w' : Wd} (e : Ex0 w w') : ∀ {v : V} {d : D}, Rep K w v d → Rep K w' v d
  | _, _, .non => .non
  | _, _, .bl b => .bl b
  | _, _, .int i => .int i
  | _, _, .str z => .str z
  | _, _, .ty n => .ty n
  | _, _, .glo x => .glo x
  | _, _, .tup h r => .tup (h.ex0 e) (r.ex0 e)
  | _, _, .lst z h r => .lst (e.Z _ z) ((e.H _ z).trans h) (r.ex0 e)
  | _, _, .rol h r => .rol (h.ex0 e) (r.ex0 e)
  | _, _, .dct z h l r => .dct (e.Z _ z) ((e.H _ z).trans h) l (r.ex0 e)
  | _, _, .ins z h l r => .ins (e.Z _ z) ((e.H _ z).trans h) l (r.ex0 e)
  | _, _, .exn0 => .exn0
  | _, _, .exn z h l r => .exn (e.Z _ z) ((e.H _ z).trans h) l (r.ex0 e)
  | _, _, .cel h => .cel (e.A _ _ h)
  | _, _, .clo z h r => .clo (e.Z _ z) ((e.H _ z).trans h) (r.ex0 e)
  | _, _, .kot h r => .kot h (r.ex0 e)
  | _, _, .lam z h z2 h2 => .lam (e.Z _ z) ((e.H _ z).trans h) (e.Z _ z2) ((e.H _ z2).trans h2)
theorem Reps.ex0 {K : Frag} {w w' : Wd} (e : Ex0 w w') : ∀ {vs : List V} {ds : List D}, Reps K w vs ds → Reps K w' vs ds
  | _, _, .nil => .nil
  | _, _, .cons h r => .cons (h.ex0 e) (r.ex0 e)
theorem RepE.ex0 {K : Frag} {w w' : Wd} (e : Ex0 w w') : ∀ {t : List (Option V)} {r : List (Option D)}, RepE K w t r → RepE K w' t r
  | _, _, .nil => .nil
  | _, _, .non h => .non (h.ex0 e)
  | _, _, .som h r => .som (h.ex0 e) (r.ex0 e)
end
theorem Rep.ext {K : Frag} {w w' : Wd} (e : Ext w w') {v : V} {d : D} (h : Rep K w v d) : Rep K w' v d := h.ex0 e.toEx0
theorem Reps.ext {K : Frag} {w w' : Wd} (e : Ext w w') {v : List V} {d : List D} (h : Reps K w v d) : Reps K w' v d := h.ex0 e.toEx0
theorem Reps.length {K : Frag} {w : Wd} : ∀ {vs : List V} {ds : List D}, Reps K w vs ds → vs.length = ds.length
  | _, _, .nil => rfl
  | _, _, .cons _ r => congrArg (· + 1) r.length
theorem Reps.get {K : Frag} {w : Wd} : ∀ {vs : List V} {ds : List D} {i : Nat} {d : D}, Reps K w vs ds → ds[i]? = some d → ∃ v, vs[i]? = some v ∧ Rep K w v d
  | _, _, _, _, .nil, h => by simp at h
  | _, _, 0, _, .cons h _, e => by
    simp at e
    subst e
    exact ⟨_, rfl, h⟩
  | _, _, i + 1, _, .cons _ r, e => by
    simp at e
    obtain ⟨v, h1, h2⟩ := r.get e
    exact ⟨v, by simpa using h1, h2⟩
theorem Reps.append {K : Frag} {w : Wd} : ∀ {vs us : List V} {ds es : List D}, Reps K w vs ds → Reps K w us es → Reps K w (vs ++ us) (ds ++ es)
  | _, _, _, _, .nil, r => r
  | _, _, _, _, .cons h t, r => .cons h (t.append r)
theorem Reps.set {K : Frag} {w : Wd} {v : V} {d : D} (r : Rep K w v d) : ∀ {vs : List V} {ds : List D} (i : Nat), Reps K w vs ds → Reps K w (vs.set i v) (ds.set i d)
  | _, _, _, .nil => .nil
  | _, _, 0, .cons _ t => .cons r t
  | _, _, i + 1, .cons h t => .cons h (t.set r i)
theorem Reps.drop {K : Frag} {w : Wd} : ∀ {vs : List V} {ds : List D} (n : Nat), Reps K w vs ds → Reps K w (vs.drop n) (ds.drop n)
  | _, _, 0, r => r
  | _, _, _ + 1, .nil => .nil
  | _, _, n + 1, .cons _ t => t.drop n
theorem Reps.take {K : Frag} {w : Wd} : ∀ {vs : List V} {ds : List D} (n : Nat), Reps K w vs ds → Reps K w (vs.take n) (ds.take n)
  | _, _, 0, _ => .nil
  | _, _, _ + 1, .nil => .nil
  | _, _, n + 1, .cons h t => .cons h (t.take n)
/-! ### pairs -/
inductive KVR (K : Frag) (w : Wd) {T : Type} : List (T × V) → List (T × D) → Prop
  | nil : KVR K w [] []
  | cons {k : T} {v : V} {d : D} {l : List (T × V)} {m : List (T × D)} : Rep K w v d → KVR K w l m → KVR K w ((k, v) :: l) ((k, d) :: m)
section
variable {K : Frag} {w w' : Wd} {T : Type}
theorem KVR.ex0 (e : Ex0 w w') : ∀ {l : List (T × V)} {m : List (T × D)}, KVR K w l m → KVR K w' l m
  | _, _, .nil => .nil
  | _, _, .cons h r => .cons (h.ex0 e) (r.ex0 e)
theorem KVR.ext (e : Ext w w') {l : List (T × V)} {m : List (T × D)} (h : KVR K w l m) : KVR K w' l m := h.ex0 e.toEx0
theorem KVR.of_zip : ∀ {ks : List T} {vs : List V} {ds : List D}, ks.length = vs.length → Reps K w vs ds → KVR K w (ks.zip vs) (ks.zip ds)
  | [], _, _, _, _ => .nil
  | k :: ks, _, _, hl, .nil => by cases hl
  | k :: ks, _, _, hl, .cons h r => .cons h (KVR.of_zip (by simpa using hl) r)
theorem KVR.to_zip : ∀ {l : List (T × V)} {m : List (T × D)}, KVR K w l m → ∃ (ks : List T) (vs : List V) (ds : List D), l = ks.zip vs ∧ m = ks.zip ds ∧ ks.length = vs.length ∧ Reps K w vs ds
  | _, _, .nil => ⟨[], [], [], rfl, rfl, rfl, .nil⟩
  | _, _, .cons (k := k) h r => by
    obtain ⟨ks, vs, ds, rfl, rfl, hl, hr⟩ := r.to_zip
    exact ⟨k :: ks, _ :: vs, _ :: ds, rfl, rfl, by simp [hl], .cons h hr⟩
theorem KVR.length : ∀ {l : List (T × V)} {m : List (T × D)}, KVR K w l m → l.length = m.length
  | _, _, .nil => rfl
  | _, _, .cons _ r => congrArg (· + 1) r.length
theorem KVR.keys : ∀ {l : List (T × V)} {m : List (T × D)}, KVR K w l m → l.map (·.1) = m.map (·.1)
  | _, _, .nil => rfl
  | _, _, .cons _ r => by simp [r.keys]
theorem KVR.vals : ∀ {l : List (T × V)} {m : List (T × D)}, KVR K w l m → Reps K w (l.map (·.2)) (m.map (·.2))
  | _, _, .nil => .nil
  | _, _, .cons h r => .cons h r.vals
theorem Rep.insK {a dx : Addr} {C : Str} {l : List (Str × V)} {m : List (Str × D)} (z : w.Z a) (h : w.H a = some (.ins (He.ga K C) dx l)) (r : KVR K w l m) : Rep K w (.ref a) (.ins C m) := by
  obtain ⟨ks, vs, ds, rfl, rfl, hl, hr⟩ := r.to_zip
  exact .ins z h hl hr
theorem Rep.dct_inv {v : V} {m : List (Key × D)} (h : Rep K w v (.dct m)) : ∃ a o l, v = .ref a ∧ w.Z a ∧ w.H a = some (.frz o (.dK l)) ∧ KVR K w l m := by
  cases h with
  | dct z h hl r => exact ⟨_, _, _, rfl, z, h, KVR.of_zip hl r⟩
theorem Rep.ins_inv {v : V} {C : Str} {m : List (Str × D)} (h : Rep K w v (.ins C m)) : ∃ a dx l, v = .ref a ∧ w.Z a ∧ w.H a = some (.ins (He.ga K C) dx l) ∧ KVR K w l m := by
  cases h with
  | ins z h hl r => exact ⟨_, _, _, rfl, z, h, KVR.of_zip hl r⟩
end
/-! ### the store, the slots -/
/-- the code object of a def of the module, its table, the name of the lambdas in it -/
def codeV (K : Frag) (x : Str) : Value := match K.lookup (He.ga K x) with
  | some ⟨_, _, .func fd, _⟩ => fd.code
  | _ => .none
def codeA (K : Frag) (x : Str) : Addr := match codeV K x with
  | .ref c => c
  | _ => 0
def tabA (K : Frag) (x : Str) : Addr := match K.lookup (codeA K x) with
  | some ⟨_, _, .fields vs, _⟩ => (match (vs[11]? : Option Value) with
    | some (.ref P) => P
    | _ => 0)
  | _ => 0
def lamQ (x : Str) : Str := x ++ ".<locals>." ++ "<lambda>"
def CtR (K : Frag) (w : Wd) (a : Addr) : Ct → Prop
  | .lst ds => ∃ vs, w.H a = some (.lst vs) ∧ Reps K w vs ds
  | .dct m => ∃ l, w.H a = some (.dK l) ∧ KVR K w l m
  | .ins C m => ∃ (dx : Addr) (l : List (Str × V)), w.H a = some (.ins (He.ga K C) dx l) ∧ KVR K w l m
  | .rod m => ∃ (o : Obj) (l : List (Key × V)), w.Z a ∧ w.H a = some (.frz o (.dK l)) ∧ KVR K w l m
  | .dtt m => ∃ l, w.H a = some (.dT l) ∧ KVR K w l m
  | .tab x => a = tabA K x ∧ ∃ ps : Array Value, w.H a = some (.tbl ps) ∧ TriplesOk ps.toList ∧ ∀ (pos : Pos) (cv : Value), codeAmong pos ps.toList = some cv → ∃ c, cv = .ref c ∧ w.Z c ∧ w.H c = some (LamX.CodeO c (lamQ x))
/-- but for read-only ones, cells are not frozen -/
def NZ (w : Wd) (a : Addr) : Ct → Prop
  | .rod _ => True
  | _ => ¬ w.Z a
theorem NZ.mono {w w' : Wd} {a : Addr} (k : w'.Z a → w.Z a) : ∀ {c : Ct}, NZ w a c → NZ w' a c
  | .lst _, h => fun z => h (k z)
  | .dct _, h => fun z => h (k z)
  | .ins _ _, h => fun z => h (k z)
  | .tab _, h => fun z => h (k z)
  | .dtt _, h => fun z => h (k z)
  | .rod _, _ => trivial
theorem NZ.of {w : Wd} {a : Addr} (h : ¬ w.Z a) : ∀ {c : Ct}, NZ w a c
  | .lst _ => h
  | .dct _ => h
  | .ins _ _ => h
  | .tab _ => h
  | .dtt _ => h
  | .rod _ => trivial
structure StR (K : Frag) (w : Wd) (s : Sto) : Prop where
  at_ : ∀ n ct, s[n]? = some (some ct) → ∃ a, w.A n = some a ∧ NZ w a ct ∧ CtR K w a ct
  np : ∀ n ct a, s[n]? = some (some ct) → w.A n = some a → ¬ w.P a
  pz : ∀ a, w.P a → ¬ w.Z a ∧ w.H a ≠ none
  inj : ∀ n m a c d, s[n]? = some (some c) → s[m]? = some (some d) → w.A n = some a → w.A m = some a → n = m
  fz : ∀ a, w.Z a → w.H a ≠ none
  new : ∀ n, s.length ≤ n → w.A n = none
  pt : ∀ a, w.P a → ∀ xs, w.H a ≠ some (.tup xs)
theorem StR.ptk {K : Frag} {w w' : Wd} {s : Sto} (st : StR K w s) (hP : ∀ a, w'.P a → w.P a) (hH : ∀ a, w'.P a → w'.H a = w.H a) : ∀ a, w'.P a → ∀ xs, w'.H a ≠ some (.tup xs) := fun a z xs q => st.pt a (hP a z) xs ((hH a z).symm.trans q)
def EnvR (K : Frag) (w : Wd) (r : En) (t : L2.St) : Prop := r.length = t.length ∧ ∀ (i : Nat) (d : D), r[i]? = some (some d) → ∃ v, t[i]? = some (some v) ∧ Rep K w v d
theorem EnvR.ex0 {K : Frag} {w w' : Wd} (e : Ex0 w w') {r : En} {t : L2.St} (h : EnvR K w r t) : EnvR K w' r t := ⟨h.1, fun i d q => let ⟨v, h1, h2⟩ := h.2 i d q; ⟨v, h1, h2.ex0 e⟩⟩
theorem EnvR.ext {K : Frag} {w w' : Wd} (e : Ext w w') {r : En} {t : L2.St} (h : EnvR K w r t) : EnvR K w' r t := h.ex0 e.toEx0
theorem EnvR.set {K : Frag} {w : Wd} {r : En} {t : L2.St} (h : EnvR K w r t) {v : V} {d : D} (q : Rep K w v d) (i : Nat) : EnvR K w (r.set i (some d)) (t.set i (some v)) := by
  refine ⟨by rw [List.length_set, List.length_set, h.1], fun j e hj => ?_⟩
  by_cases hij : i = j
  · subst hij
    by_cases hl : i < r.length
    · rw [List.getElem?_set_self hl] at hj
      cases hj
      exact ⟨v, by rw [List.getElem?_set_self (h.1 ▸ hl)], q⟩
    · rw [List.getElem?_eq_none (by rw [List.length_set]; omega)] at hj
      cases hj
  · rw [List.getElem?_set_ne hij] at hj
    obtain ⟨u, h1, h2⟩ := h.2 j e hj
    exact ⟨u, by rw [List.getElem?_set_ne hij]; exact h1, h2⟩
theorem EnvR.unset {K : Frag} {w : Wd} {r : En} {t : L2.St} (h : EnvR K w r t) (i : Nat) : EnvR K w (r.set i none) (t.set i none) := by
  refine ⟨by rw [List.length_set, List.length_set, h.1], fun j e hj => ?_⟩
  by_cases hij : i = j
  · subst hij
    by_cases hl : i < r.length
    · rw [List.getElem?_set_self hl] at hj
      cases hj
    · rw [List.getElem?_eq_none (by rw [List.length_set]; omega)] at hj
      cases hj
  · rw [List.getElem?_set_ne hij] at hj
    obtain ⟨u, h1, h2⟩ := h.2 j e hj
    exact ⟨u, by rw [List.getElem?_set_ne hij]; exact h1, h2⟩
/-! ### worlds that go on -/
/-- a new object, frozen at once -/
def Wd.frz (w : Wd) (p : Addr) (o : HO) : Wd := ⟨w.A, fun a => w.Z a ∨ a = p, w.P, upd w.H p o⟩
theorem Wd.frz_ext {K : Frag} {w : Wd} {s : Sto} (st : StR K w s) {p : Addr} {o : HO} (h : w.H p = none) : Ext w (w.frz p o) :=
  ⟨⟨fun _ _ h => h, fun _ h => .inl h, fun a z => upd_ne fun e => st.fz a z (e ▸ h)⟩, fun _ h => h, fun a z => upd_ne fun e => (st.pz a z).2 (e ▸ h)⟩
theorem CtR.sam0 {K : Frag} {w w' : Wd} (e : Ex0 w w') {a : Addr} (h : w'.H a = w.H a) : ∀ {c : Ct}, CtR K w a c → CtR K w' a c
  | .lst _, ⟨vs, h1, h2⟩ => ⟨vs, h.trans h1, h2.ex0 e⟩
  | .dct _, ⟨l, h1, h2⟩ => ⟨l, h.trans h1, h2.ex0 e⟩
  | .ins _ _, ⟨dx, l, h1, h2⟩ => ⟨dx, l, h.trans h1, h2.ex0 e⟩
  | .rod _, ⟨o, l, z, h1, h2⟩ => ⟨o, l, e.Z _ z, h.trans h1, h2.ex0 e⟩
  | .dtt _, ⟨l, h1, h2⟩ => ⟨l, h.trans h1, h2.ex0 e⟩
  | .tab _, ⟨e0, ps, h1, h2, h3⟩ => ⟨e0, ps, h.trans h1, h2, fun pos cv hc => let ⟨c, c1, c2, c3⟩ := h3 pos cv hc; ⟨c, c1, e.Z _ c2, (e.H _ c2).trans c3⟩⟩
theorem CtR.same {K : Frag} {w w' : Wd} (e : Ext w w') {a : Addr} (h : w'.H a = w.H a) {c : Ct} (q : CtR K w a c) : CtR K w' a c := q.sam0 e.toEx0 h
theorem CtR.some {K : Frag} {w : Wd} {a : Addr} : ∀ {c : Ct}, CtR K w a c → ∃ o, w.H a = some o ∧ True
  | .lst _, ⟨_, h, _⟩ => ⟨_, h, trivial⟩
  | .dct _, ⟨_, h, _⟩ => ⟨_, h, trivial⟩
  | .ins _ _, ⟨_, _, h, _⟩ => ⟨_, h, trivial⟩
  | .rod _, ⟨_, _, _, h, _⟩ => ⟨_, h, trivial⟩
  | .dtt _, ⟨_, h, _⟩ => ⟨_, h, trivial⟩
  | .tab _, ⟨_, _, h, _⟩ => ⟨_, h, trivial⟩
theorem Wd.frz_st {K : Frag} {w : Wd} {s : Sto} (st : StR K w s) {p : Addr} {o : HO} (h : w.H p = none) : StR K (w.frz p o) s := by
  have e := Wd.frz_ext st (o := o) h
  refine ⟨fun n ct q => ?_, st.np, fun a z => ?_, st.inj, fun a z => ?_, st.new, st.ptk (fun _ h => h) e.HP⟩
  · obtain ⟨a, h1, h2, h3⟩ := st.at_ n ct q
    obtain ⟨ob, ho, _⟩ := h3.some
    have ne : a ≠ p := ne_of_none ho h
    exact ⟨a, h1, h2.mono (w' := w.frz p o) fun (z : w.Z a ∨ a = p) => Or.elim z id fun q => absurd q ne, h3.same e (upd_ne ne)⟩
  · have ne : a ≠ p := fun q => (st.pz a z).2 (q ▸ h)
    exact ⟨fun q => q.elim (st.pz a z).1 ne, by rw [show (w.frz p o).H a = w.H a from upd_ne ne]; exact (st.pz a z).2⟩
  · by_cases hp : a = p
    · show upd w.H p o a ≠ none
      rw [hp, upd_same]
      exact fun z => nomatch z
    · show upd w.H p o a ≠ none
      rw [upd_ne hp]
      exact st.fz a (z.elim id fun z => absurd z hp)
theorem Wd.frz_z {w : Wd} {p : Addr} {o : HO} : (w.frz p o).Z p := .inr rfl
theorem Wd.frz_h {w : Wd} {p : Addr} {o : HO} : (w.frz p o).H p = some o := upd_same
/-- a new object that is nobody's (an own dict) -/
def Wd.put (w : Wd) (p : Addr) (o : HO) : Wd := ⟨w.A, w.Z, w.P, upd w.H p o⟩
theorem Wd.put_ext {K : Frag} {w : Wd} {s : Sto} (st : StR K w s) {p : Addr} {o : HO} (h : w.H p = none) : Ext w (w.put p o) :=
  ⟨⟨fun _ _ h => h, fun _ h => h, fun a z => upd_ne fun e => st.fz a z (e ▸ h)⟩, fun _ h => h, fun a z => upd_ne fun e => (st.pz a z).2 (e ▸ h)⟩
theorem Wd.put_st {K : Frag} {w : Wd} {s : Sto} (st : StR K w s) {p : Addr} {o : HO} (h : w.H p = none) : StR K (w.put p o) s := by
  have e := Wd.put_ext st (o := o) h
  refine ⟨fun n ct q => ?_, st.np, fun a z => ?_, st.inj, fun a z => ?_, st.new, st.ptk (fun _ h => h) e.HP⟩
  · obtain ⟨a, h1, h2, h3⟩ := st.at_ n ct q
    obtain ⟨ob, ho, _⟩ := h3.some
    have ne : a ≠ p := ne_of_none ho h
    exact ⟨a, h1, h2, h3.same e (upd_ne ne)⟩
  · have ne : a ≠ p := fun q => (st.pz a z).2 (q ▸ h)
    exact ⟨(st.pz a z).1, by rw [show (w.put p o).H a = w.H a from upd_ne ne]; exact (st.pz a z).2⟩
  · show upd w.H p o a ≠ none
    by_cases hp : a = p
    · rw [hp, upd_same]
      exact fun z => nomatch z
    · rw [upd_ne hp]
      exact st.fz a z
/-- a cell's object is changed -/
theorem Wd.mut_ext {w : Wd} {a : Addr} {o : HO} (h : ¬ w.Z a) (hP : ¬ w.P a) : Ext w (w.put a o) :=
  ⟨⟨fun _ _ h => h, fun _ h => h, fun b z => upd_ne fun e => h (e ▸ z)⟩, fun _ h => h, fun b z => upd_ne fun e => hP (e ▸ z)⟩
theorem Wd.mut_st {K : Frag} {w : Wd} {s : Sto} (st : StR K w s) {n : Nat} {c c' : Ct} {a : Addr} {o : HO} (hn : s[n]? = some (some c)) (ha : w.A n = some a) (hz : ¬ w.Z a) (hc : CtR K (w.put a o) a c') : StR K (w.put a o) (s.set n (some c')) := by
  obtain ⟨a', h1, h2, h3⟩ := st.at_ n c hn
  have ea : a' = a := Option.some.inj (h1.symm.trans ha)
  subst ea
  have hl : n < s.length := (List.getElem?_eq_some_iff.mp hn).1
  have hP := st.np n c a' hn ha
  have e : Ext w (w.put a' o) := Wd.mut_ext hz hP
  have back : ∀ m d, (s.set n (some c'))[m]? = some (some d) → ∃ d', s[m]? = some (some d') := fun m d q => by
    by_cases hm : n = m
    · subst hm
      exact ⟨c, hn⟩
    · rw [List.getElem?_set_ne hm] at q
      exact ⟨d, q⟩
  refine ⟨fun m ct q => ?_, fun m ct b q hb => (back m ct q).elim fun d' q' => st.np m d' b q' hb, fun b z => ⟨(st.pz b z).1, ?_⟩, fun m k b x y qm qk => ?_, fun b z => ?_, fun m hm => st.new m (by rw [List.length_set] at hm; exact hm), st.ptk (fun _ h => h) e.HP⟩
  · by_cases hm : n = m
    · subst hm
      rw [List.getElem?_set_self hl] at q
      cases q
      exact ⟨a', ha, NZ.of hz, hc⟩
    · rw [List.getElem?_set_ne hm] at q
      obtain ⟨b, k1, k2, k3⟩ := st.at_ m ct q
      have ne : b ≠ a' := fun z => hm (st.inj n m a' c ct hn q ha (z ▸ k1))
      exact ⟨b, k1, k2, k3.same e (upd_ne ne)⟩
  · rw [show (w.put a' o).H b = w.H b from upd_ne fun q => hP (q ▸ z)]
    exact (st.pz b z).2
  · obtain ⟨x', qx⟩ := back m x qm
    obtain ⟨y', qy⟩ := back k y qk
    exact st.inj m k b x' y' qx qy
  · show upd w.H a' o b ≠ none
    by_cases hb : b = a'
    · rw [hb, upd_same]
      exact fun z => nomatch z
    · rw [upd_ne hb]
      exact st.fz b z
/-- a new cell -/
def Wd.cell (w : Wd) (n : Nat) (p : Addr) (o : HO) : Wd := ⟨fun m => if m = n then some p else w.A m, w.Z, w.P, upd w.H p o⟩
theorem Wd.cell_ext {K : Frag} {w : Wd} {s : Sto} (st : StR K w s) {p : Addr} {o : HO} (h : w.H p = none) : Ext w (w.cell s.length p o) :=
  ⟨⟨fun m a q => by
    have ne : ¬ m = s.length := fun z => by
      rw [st.new m (by omega)] at q
      exact nomatch q
    show (if m = s.length then some p else w.A m) = some a
    rw [if_neg ne]
    exact q, fun _ h => h, fun a z => upd_ne fun e => st.fz a z (e ▸ h)⟩, fun _ h => h, fun a z => upd_ne fun e => (st.pz a z).2 (e ▸ h)⟩
theorem Wd.cell_st {K : Frag} {w : Wd} {s : Sto} (st : StR K w s) {p : Addr} {o : HO} {c : Ct} (h : w.H p = none) (hc : CtR K (w.cell s.length p o) p c) : StR K (w.cell s.length p o) (s ++ [some c]) := by
  have e := Wd.cell_ext st (o := o) h
  have old : ∀ m ct, m < s.length → s[m]? = some (some ct) → ∃ a, w.A m = some a ∧ NZ w a ct ∧ CtR K w a ct ∧ a ≠ p := fun m ct _ q => by
    obtain ⟨a, h1, h2, h3⟩ := st.at_ m ct q
    obtain ⟨ob, ho, _⟩ := h3.some
    exact ⟨a, h1, h2, h3, ne_of_none ho h⟩
  have at' : ∀ m ct, (s ++ [some c])[m]? = some (some ct) → (m < s.length ∧ s[m]? = some (some ct)) ∨ (m = s.length ∧ ct = c) := fun m ct q => by
    by_cases hm : m < s.length
    · rw [List.getElem?_append_left hm] at q
      exact .inl ⟨hm, q⟩
    · rw [List.getElem?_append_right (by omega)] at q
      by_cases h0 : m - s.length = 0
      · rw [h0] at q
        exact .inr ⟨by omega, by simpa using q.symm⟩
      · rw [List.getElem?_eq_none (by simp; omega)] at q
        cases q
  have nz : ¬ w.Z p := fun z => st.fz p z h
  have AtN : (w.cell s.length p o).A s.length = some p := if_pos rfl
  have AtO : ∀ m, m < s.length → (w.cell s.length p o).A m = w.A m := fun m hm => if_neg (by omega)
  refine ⟨fun m ct q => ?_, fun m ct b q hb => ?_, fun b z => ⟨(st.pz b z).1, ?_⟩, fun m k b x y qm qk hm hk => ?_, fun b z => ?_, fun m hm => ?_, st.ptk (fun _ h => h) e.HP⟩
  · rcases at' m ct q with ⟨hm, q⟩ | ⟨rfl, rfl⟩
    · obtain ⟨a, h1, h2, h3, ne⟩ := old m ct hm q
      exact ⟨a, (AtO m hm).trans h1, h2, h3.same e (upd_ne ne)⟩
    · exact ⟨p, AtN, NZ.of nz, hc⟩
  · rcases at' m ct q with ⟨lm, q'⟩ | ⟨rfl, rfl⟩
    · rw [AtO m lm] at hb
      exact st.np m ct b q' hb
    · rw [AtN] at hb
      cases hb
      exact fun z => (st.pz p z).2 h
  · rw [show (w.cell s.length p o).H b = w.H b from upd_ne fun q => (st.pz b z).2 (q ▸ h)]
    exact (st.pz b z).2
  · rcases at' m x qm with ⟨lm, qm'⟩ | ⟨rfl, rfl⟩
    · rcases at' k y qk with ⟨lk, qk'⟩ | ⟨rfl, rfl⟩
      · rw [AtO m lm] at hm
        rw [AtO k lk] at hk
        exact st.inj m k b x y qm' qk' hm hk
      · obtain ⟨a, h1, _, _, ne⟩ := old m x lm qm'
        rw [AtO m lm, h1] at hm
        rw [AtN] at hk
        exact absurd ((Option.some.inj hm).trans (Option.some.inj hk).symm) ne
    · rcases at' k y qk with ⟨lk, qk'⟩ | ⟨rfl, rfl⟩
      · obtain ⟨a, h1, _, _, ne⟩ := old k y lk qk'
        rw [AtO k lk, h1] at hk
        rw [AtN] at hm
        exact absurd ((Option.some.inj hk).trans (Option.some.inj hm).symm) ne
      · rfl
  · show upd w.H p o b ≠ none
    by_cases hb : b = p
    · rw [hb, upd_same]
      exact fun z => nomatch z
    · rw [upd_ne hb]
      exact st.fz b z
  · have hm' : s.length + 1 ≤ m := by
      rw [List.length_append] at hm
      exact hm
    show (if m = s.length then some p else w.A m) = none
    rw [if_neg (by omega)]
    exact st.new m (by omega)
/-- a cell is frozen -/
def Wd.ice (w : Wd) (a : Addr) : Wd := ⟨w.A, fun b => w.Z b ∨ b = a, w.P, w.H⟩
theorem Wd.ice_ext {w : Wd} {a : Addr} : Ext w (w.ice a) := ⟨⟨fun _ _ h => h, fun _ h => .inl h, fun _ _ => rfl⟩, fun _ h => h, fun _ _ => rfl⟩
theorem Wd.ice_st {K : Frag} {w : Wd} {s : Sto} (st : StR K w s) {n : Nat} {c : Ct} {a : Addr} (hn : s[n]? = some (some c)) (ha : w.A n = some a) : StR K (w.ice a) (s.set n none) := by
  obtain ⟨a', h1, h2, h3⟩ := st.at_ n c hn
  have ea : a' = a := Option.some.inj (h1.symm.trans ha)
  subst ea
  have hl : n < s.length := (List.getElem?_eq_some_iff.mp hn).1
  have back : ∀ m d, (s.set n none)[m]? = some (some d) → m ≠ n ∧ s[m]? = some (some d) := fun m d q => by
    by_cases hm : n = m
    · subst hm
      rw [List.getElem?_set_self hl] at q
      cases q
    · rw [List.getElem?_set_ne hm] at q
      exact ⟨fun z => hm z.symm, q⟩
  refine ⟨fun m ct q => ?_, fun m ct b q => st.np m ct b (back m ct q).2, fun b z => ⟨fun q => q.elim (st.pz b z).1 fun e => st.np n c a' hn ha (e ▸ z), (st.pz b z).2⟩, fun m k b x y qm qk => st.inj m k b x y (back m x qm).2 (back k y qk).2, fun b z => ?_, fun m hm => st.new m (by rw [List.length_set] at hm; exact hm), st.ptk (fun _ h => h) (fun _ _ => rfl)⟩
  · obtain ⟨hm, q⟩ := back m ct q
    obtain ⟨b, k1, k2, k3⟩ := st.at_ m ct q
    have ne : b ≠ a' := fun z => hm (st.inj m n a' ct c q hn (z ▸ k1) ha)
    exact ⟨b, k1, k2.mono (w' := w.ice a') fun (z : w.Z b ∨ b = a') => Or.elim z id fun q => absurd q ne, k3.same Wd.ice_ext rfl⟩
  · rcases z with z | z
    · exact st.fz b z
    · obtain ⟨ob, ho, _⟩ := h3.some
      show w.H b ≠ none
      rw [z, ho]
      exact fun z => nomatch z
/-- a cell is locked: read by everybody, written by nobody -/
def Wd.lock (w : Wd) (a : Addr) (o : HO) : Wd := ⟨w.A, fun b => w.Z b ∨ b = a, w.P, upd w.H a o⟩
theorem Wd.lock_ext {w : Wd} {a : Addr} {o : HO} (h : ¬ w.Z a) (hP : ¬ w.P a) : Ext w (w.lock a o) :=
  ⟨⟨fun _ _ h => h, fun _ h => .inl h, fun b z => upd_ne fun e => h (e ▸ z)⟩, fun _ h => h, fun b z => upd_ne fun e => hP (e ▸ z)⟩
theorem Wd.lock_st {K : Frag} {w : Wd} {s : Sto} (st : StR K w s) {n : Nat} {c : Ct} {m : List (Key × D)} {a : Addr} {o : HO} (hn : s[n]? = some (some c)) (ha : w.A n = some a) (hz : ¬ w.Z a) (hc : CtR K (w.lock a o) a (.rod m)) : StR K (w.lock a o) (s.set n (some (.rod m))) := by
  have hl : n < s.length := (List.getElem?_eq_some_iff.mp hn).1
  have hP := st.np n c a hn ha
  have e : Ext w (w.lock a o) := Wd.lock_ext hz hP
  have back : ∀ m' d, (s.set n (some (.rod m)))[m']? = some (some d) → ∃ d', s[m']? = some (some d') := fun m' d q => by
    by_cases hm : n = m'
    · subst hm
      exact ⟨c, hn⟩
    · rw [List.getElem?_set_ne hm] at q
      exact ⟨d, q⟩
  refine ⟨fun m' ct q => ?_, fun m' ct b q hb => (back m' ct q).elim fun d' q' => st.np m' d' b q' hb, fun b z => ⟨fun q => Or.elim q (st.pz b z).1 fun e => hP (e ▸ z), ?_⟩, fun m' k b x y qm qk => ?_, fun b z => ?_, fun m' hm => st.new m' (by rw [List.length_set] at hm; exact hm), st.ptk (fun _ h => h) e.HP⟩
  · by_cases hm : n = m'
    · subst hm
      rw [List.getElem?_set_self hl] at q
      cases q
      exact ⟨a, ha, trivial, hc⟩
    · rw [List.getElem?_set_ne hm] at q
      obtain ⟨b, k1, k2, k3⟩ := st.at_ m' ct q
      have ne : b ≠ a := fun z => hm (st.inj n m' a c ct hn q ha (z ▸ k1))
      exact ⟨b, k1, k2.mono (w' := w.lock a o) fun (z : w.Z b ∨ b = a) => Or.elim z id fun q => absurd q ne, k3.same e (upd_ne ne)⟩
  · rw [show (w.lock a o).H b = w.H b from upd_ne fun q => hP (q ▸ z)]
    exact (st.pz b z).2
  · obtain ⟨x', qx⟩ := back m' x qm
    obtain ⟨y', qy⟩ := back k y qk
    exact st.inj m' k b x' y' qx qy
  · show upd w.H a o b ≠ none
    by_cases hb : b = a
    · rw [hb, upd_same]
      exact fun z => nomatch z
    · rw [upd_ne hb]
      exact st.fz b (Or.elim z id fun q => absurd q hb)
/-! ### what is wanted behind -/
/-- an exception's own dict: its fields -/
def ExR (K : Frag) (w : Wd) : Option Addr → List (Str × D) → Prop
  | none, fs => fs = []
  | some a, fs => w.Z a ∧ ∃ l, w.H a = some (.xd l) ∧ KVR K w l fs
theorem Rep.exnK {K : Frag} {w : Wd} {a : Addr} {C : Str} : ∀ {d : Option Addr} {fs : List (Str × D)}, ExR K w d fs → Rep K w (.ref a) (.exn a d C fs)
  | none, _, h => by
    cases h
    exact .exn0
  | some dx, fs, ⟨z, l, h, r⟩ => by
    obtain ⟨ks, vs, ds, rfl, rfl, hl, hr⟩ := r.to_zip
    exact .exn z h hl hr
theorem Rep.exn_inv {K : Frag} {w : Wd} {v : V} {a : Addr} {C : Str} {d : Option Addr} {fs : List (Str × D)} (h : Rep K w v (.exn a d C fs)) : v = .ref a ∧ ExR K w d fs := by
  cases h with
  | exn0 => exact ⟨rfl, rfl⟩
  | exn z h hl r => exact ⟨rfl, z, _, h, KVR.of_zip hl r⟩
def Post {T U : Type} (K : Frag) (R : Wd → U → T → Prop) (w : Wd) (E : XK) (Q : U → Hp → Prop) : Res T → Prop
  | .ok a s' => ∀ x w', Ext w w' → StR K w' s' → R w' x a → Q x w'.H
  | .exc C fs s' => ∀ ed w', Ext w w' → StR K w' s' → ExR K w' ed fs → E (.ref (He.ga K C)) ed w'.H
  | .bad => False
theorem Post.ext {T U : Type} {K : Frag} {R : Wd → U → T → Prop} {w w1 : Wd} {E : XK} {Q : U → Hp → Prop} (e : Ext w w1) : ∀ {r : Res T}, Post K R w E Q r → Post K R w1 E Q r
  | .ok _ _, h => fun x w' e' => h x w' (e.trans e')
  | .exc _ _ _, h => fun x w' e' => h x w' (e.trans e')
  | .bad, h => h
def tM {T U : Type} (K : Frag) (R : Wd → U → T → Prop) (W : WX) (m : DM T) : L2.St → Hp → (U → Hp → Prop) → Prop := fun t H Q =>
  ∃ r s w, w.H = H ∧ EnvR K w r t ∧ StR K w s ∧ Post K R w (fun c d H' => W c d t H') Q (m r s)
abbrev tE (K : Frag) (W : WX) (m : DE) : TE := tM K (Rep K) W m
abbrev tT (K : Frag) (W : WX) (m : DM Bool) : TT := tM K (fun _ (b c : Bool) => b = c) W m
abbrev tA (K : Frag) (W : WX) (m : DM (List D)) : TA := tM K (Reps K) W m
theorem Post.bind {T T' U U' : Type} {K : Frag} {R : Wd → U → T → Prop} {R' : Wd → U' → T' → Prop} {w : Wd} {r : En} {t : L2.St} {s : Sto} {W : WX} {Q : U' → Hp → Prop} {P : U → Hp → Prop} {m : DM T} {f : T → DM T'}
    (hp : Post K R' w (fun c d H' => W c d t H') Q (bindM m f r s)) (env : EnvR K w r t) (st : StR K w s)
    (k : ∀ x a s1 w1, Ext w w1 → StR K w1 s1 → R w1 x a → Post K R' w1 (fun c d H' => W c d t H') Q (f a r s1) → P x w1.H) : tM K R W m t w.H P := by
  refine ⟨r, s, w, rfl, env, st, ?_⟩
  unfold bindM at hp
  cases e : m r s with
  | ok a s1 =>
    rw [e] at hp
    exact fun x w1 e1 st1 r1 => k x a s1 w1 e1 st1 r1 (Post.ext e1 hp)
  | exc C fs s1 =>
    rw [e] at hp
    exact hp
  | bad =>
    rw [e] at hp
    exact hp
theorem Post.pure {T U : Type} {K : Frag} {R : Wd → U → T → Prop} {w : Wd} {E : XK} {Q : U → Hp → Prop} {a : T} {s : Sto} {x : U} (hp : Post K R w E Q (.ok a s)) (st : StR K w s) (h : R w x a) : Q x w.H := hp x w (Ext.refl w) st h
section
variable {X : Cx} {e : Expr} {es : List Expr}
theorem PE.imp {t t' : TE} (h : PE X e t) (i : ∀ σ H Q, t' σ H Q → t σ H Q) : PE X e t' := ⟨fun pins s σ H Q I q => h.run pins s σ H Q I (i _ _ _ q)⟩
theorem PT.imp {t t' : TT} (h : PT X e t) (i : ∀ σ H Q, t' σ H Q → t σ H Q) : PT X e t' := ⟨fun pins s σ H Q I q => h.run pins s σ H Q I (i _ _ _ q)⟩
theorem PA.imp {t t' : TA} (h : PA X es t) (i : ∀ σ H Q, t' σ H Q → t σ H Q) : PA X es t' := ⟨fun pos pins s σ H Q I q => h.run pos pins s σ H Q I (i _ _ _ q)⟩
theorem PS.imp {st : Stmt} {t t' : TS} (h : PS X st t) (i : ∀ D σ H, t' D σ H → t D σ H) : PS X st t' := ⟨fun pins s σ H D I q => h.run pins s σ H D I (i _ _ _ q)⟩
theorem PSs.imp {st : List Stmt} {t t' : TS} (h : PSs X st t) (i : ∀ D σ H, t' D σ H → t D σ H) : PSs X st t' := ⟨fun pins s σ H D I q => h.run pins s σ H D I (i _ _ _ q)⟩
theorem OpR.or {f : Value → Value → Sem Value} {r1 r2 : R2} (h1 : OpR X f r1) (h2 : OpR X f r2) : OpR X f (fun x y H Q => r1 x y H Q ∨ r2 x y H Q) := fun pins s σ H x y v u Q I rx ry h =>
  h.elim (h1 pins s σ H x y v u Q I rx ry) (h2 pins s σ H x y v u Q I rx ry)
theorem CallR.or {f : Value} {r1 r2 : List V → Hp → VK → Prop} (h1 : CallR X f r1) (h2 : CallR X f r2) : CallR X f (fun x H Q => r1 x H Q ∨ r2 x H Q) := fun pins s σ H x v Q I rx h =>
  h.elim (h1 pins s σ H x v Q I rx) (h2 pins s σ H x v Q I rx)
theorem PE.or {t1 t2 : TE} (h1 : PE X e t1) (h2 : PE X e t2) : PE X e (fun σ H Q => t1 σ H Q ∨ t2 σ H Q) := ⟨fun pins s σ H Q I q => q.elim (h1.run pins s σ H Q I) (h2.run pins s σ H Q I)⟩
end
/-! ### statements -/
def PostS (K : Frag) (w : Wd) (W : WX) (E : Ends) : Fl → Prop
  | .nx r' s' => ∀ t' w', Ext w w' → EnvR K w' r' t' → StR K w' s' → E.nx t' w'.H
  | .rt d s' => ∀ v w', Ext w w' → StR K w' s' → Rep K w' v d → E.rt v w'.H
  | .bk r' s' => ∀ t' w', Ext w w' → EnvR K w' r' t' → StR K w' s' → E.bk t' w'.H
  | .ct r' s' => ∀ t' w', Ext w w' → EnvR K w' r' t' → StR K w' s' → E.ct t' w'.H
  | .exc C fs r' s' => ∀ t' ed w', Ext w w' → EnvR K w' r' t' → StR K w' s' → ExR K w' ed fs → W (.ref (He.ga K C)) ed t' w'.H
  | .bad => False
theorem PostS.ext {K : Frag} {w w1 : Wd} {W : WX} {E : Ends} (e : Ext w w1) : ∀ {r : Fl}, PostS K w W E r → PostS K w1 W E r
  | .nx _ _, h => fun x w' e' => h x w' (e.trans e')
  | .rt _ _, h => fun x w' e' => h x w' (e.trans e')
  | .bk _ _, h => fun x w' e' => h x w' (e.trans e')
  | .ct _ _, h => fun x w' e' => h x w' (e.trans e')
  | .exc _ _ _ _, h => fun x y w' e' => h x y w' (e.trans e')
  | .bad, h => h
def tS (K : Frag) (W : WX) (m : DS) : TS := fun E t H => ∃ r s w, w.H = H ∧ EnvR K w r t ∧ StR K w s ∧ PostS K w W E (m r s)
/-- a statement that goes on with what an expression gives -/
def thenS {T : Type} (m : DM T) (f : T → DS) : DS := fun r s => match m r s with
  | .ok a s' => f a r s'
  | .exc C fs s' => .exc C fs r s'
  | .bad => .bad
theorem PostS.bind {T U : Type} {K : Frag} {R : Wd → U → T → Prop} {w : Wd} {r : En} {t : L2.St} {s : Sto} {W : WX} {E : Ends} {P : U → Hp → Prop} {m : DM T} {f : T → DS}
    (hp : PostS K w W E (thenS m f r s)) (env : EnvR K w r t) (st : StR K w s)
    (k : ∀ x a s1 w1, Ext w w1 → StR K w1 s1 → R w1 x a → PostS K w1 W E (f a r s1) → P x w1.H) : tM K R W m t w.H P := by
  refine ⟨r, s, w, rfl, env, st, ?_⟩
  unfold thenS at hp
  cases e : m r s with
  | ok a s1 =>
    rw [e] at hp
    exact fun x w1 e1 st1 r1 => k x a s1 w1 e1 st1 r1 (PostS.ext e1 hp)
  | exc C fs s1 =>
    rw [e] at hp
    exact fun ed w1 e1 st1 x1 => hp t ed w1 e1 (env.ext e1) st1 x1
  | bad =>
    rw [e] at hp
    exact hp
end Mp
set_option Elab.async false
set_option linter.all false
set_option maxRecDepth 100000
set_option maxHeartbeats 4000000
/-! Mp: expressions without own objects. -/
namespace Mp
open PySem PySem.Spec PyProof.Rows L2
/-! ### on data -/
def vM (i : Nat) : DE := fun r s => match r[i]? with
  | some (some d) => .ok d s
  | _ => .bad
def cM (d : D) : DE := fun _ s => .ok d s
def binM (f : D → D → Sto → Res D) (a b : DE) : DE := bindM a fun x => bindM b fun y => fun _ s => f x y s
def unM (f : D → Sto → Res D) (a : DE) : DE := bindM a fun x => fun _ s => f x s
/-- a list of one's own: frozen, a cell's -/
def lstX (s : Sto) : D → Option (List D)
  | .lst l => some l
  | .cel n => (match s[n]? with
    | some (some (.lst l)) => some l
    | _ => none)
  | _ => none
/-- a list that is read -/
def lstOf (s : Sto) : D → Option (List D)
  | .rol l => some l
  | x => lstX s x
def dctOf (s : Sto) : D → Option (List (Key × D))
  | .dct l => some l
  | .cel n => (match s[n]? with
    | some (some (.dct l)) => some l
    | some (some (.rod l)) => some l
    | _ => none)
  | _ => none
def insOf (s : Sto) : D → Option (Str × List (Str × D))
  | .ins C l => some (C, l)
  | .cel n => (match s[n]? with
    | some (some (.ins C l)) => some (C, l)
    | _ => none)
  | _ => none
def addD (x y : D) (s : Sto) : Res D := match x with
  | .int i => (match y with
    | .int j => .ok (.int (i + j)) s
    | _ => .bad)
  | .str i => (match y with
    | .str j => if i.length + j.length ≤ sizeLine then .ok (.str (i ++ j)) s else .bad
    | _ => .bad)
  | .tup i => (match y with
    | .tup j => if i.length + j.length ≤ sizeLine then .ok (.tup (i ++ j)) s else .bad
    | _ => .bad)
  | x => (match lstX s x with
    | some i => (match lstX s y with
      | some j => if i.length + j.length ≤ sizeLine then .ok (.lst (i ++ j)) s else .bad
      | none => .bad)
    | none => .bad)
def subD (x y : D) (s : Sto) : Res D := match x with
  | .int i => (match y with
    | .int j => .ok (.int (i - j)) s
    | _ => .bad)
  | _ => .bad
def mulC (i j : Int) : Bool := decide (i.natAbs.log2 + j.natAbs.log2 < 1000000)
@[irreducible] def mulD (x y : D) (s : Sto) : Res D := match x with
  | .int i => (match y with
    | .int j => if mulC i j = true then .ok (.int (i * j)) s else .bad
    | _ => .bad)
  | x => (match lstX s x with
    | none => .bad
    | some l => match y with
    | .int k => if 0 ≤ k ∧ k < 2 ^ 62 ∧ l.length * k.toNat ≤ sizeLine then .ok (.lst (List.replicate k.toNat l).flatten) s else .bad
    | _ => .bad)
@[irreducible] def divD (x y : D) (s : Sto) : Res D := match x with
  | .int i => (match y with
    | .int j => if 0 < j ∧ j.natAbs.log2 < 9000 then .ok (.int (i / j)) s else if j < 0 ∧ j.natAbs.log2 < 9000 then .ok (.int (i.fdiv j)) s else .bad
    | _ => .bad)
  | _ => .bad
def modD (x y : D) (s : Sto) : Res D := match x with
  | .int i => (match y with
    | .int j => if 0 < j then .ok (.int (i % j)) s else if j < 0 then .ok (.int (i.fmod j)) s else .bad
    | _ => .bad)
  | _ => .bad
@[irreducible] def powD (x y : D) (s : Sto) : Res D := match x with
  | .int i => (match y with
    | .int j => if 0 ≤ j ∧ j ≤ 1000000 ∧ i.natAbs < 2 ^ 64 then .ok (.int (i ^ j.toNat)) s else .bad
    | _ => .bad)
  | _ => .bad
def negD (x : D) (s : Sto) : Res D := match x with
  | .int i => .ok (.int (-i)) s
  | _ => .bad
/-- truth -/
def truD (s : Sto) : D → Option Bool
  | .non => some false
  | .bl b => some b
  | .int i => some (i != 0)
  | .str z => if z.length ≤ sizeLine then some ((z.length : Int) != 0) else none
  | .tup l => some (!l.isEmpty)
  | x => (lstOf s x).map fun l => !l.isEmpty
def truM (a : DE) : DM Bool := bindM a fun x => fun _ s => match truD s x with
  | some b => .ok b s
  | none => .bad
def notV (a : DE) : DE := bindM (truM a) fun b => pureM (.bl (!b))
def andV (a b : DE) : DE := bindM a fun x => bindM (truM (cM x)) fun k => if k = true then b else pureM x
def orV (a b : DE) : DE := bindM a fun x => bindM (truM (cM x)) fun k => if k = true then pureM x else b
def notT (a : DM Bool) : DM Bool := bindM a fun b => pureM (!b)
def andT (a b : DM Bool) : DM Bool := bindM a fun k => if k = true then b else pureM false
def orT (a b : DM Bool) : DM Bool := bindM a fun k => if k = true then pureM true else b
def ifM (c : DM Bool) (a b : DE) : DE := bindM c fun k => if k = true then a else b
/-- a test that a value's own bool makes -/
def blM (a : DE) : DM Bool := bindM a fun x => fun _ s => match x with
  | .bl b => .ok b s
  | _ => .bad
def ltD (g : Int → Int → Bool) (h : List Nat → List Nat → Bool) (x y : D) (s : Sto) : Res D := match x with
  | .int i => (match y with
    | .int j => .ok (.bl (g i j)) s
    | _ => .bad)
  | .str i => (match y with
    | .str j => .ok (.bl (h i.cps.toList j.cps.toList)) s
    | _ => .bad)
  | _ => .bad
abbrev ltI : D → D → Sto → Res D := ltD (fun i j => decide (i < j)) (fun i j => decide (i < j))
abbrev leI : D → D → Sto → Res D := ltD (fun i j => decide (i ≤ j)) (fun i j => !decide (j < i))
abbrev gtI : D → D → Sto → Res D := ltD (fun i j => decide (j < i)) (fun i j => decide (j < i))
abbrev geI : D → D → Sto → Res D := ltD (fun i j => decide (j ≤ i)) (fun i j => !decide (i < j))
/-! ### soundness -/
section
variable {K : Frag} {w : Wd} {s : Sto} {x : V} {d : D}
theorem lstX_ok {l : List D} (st : StR K w s) (r : Rep K w x d) (h : lstX s d = some l) : ∃ p vs, x = .ref p ∧ w.H p = some (.lst vs) ∧ Reps K w vs l := by
  cases r with
  | lst z hh rs =>
    cases h
    exact ⟨_, _, rfl, hh, rs⟩
  | @cel n a0 ha =>
    have h' : (match s[n]? with
      | some (some (.lst l)) => some l
      | _ => none) = some l := h
    cases e : s[n]? with
    | none => rw [e] at h'; cases h'
    | some o =>
      rw [e] at h'
      cases o with
      | none => cases h'
      | some c =>
        cases c with
        | lst l1 =>
          cases h'
          obtain ⟨a1, h1, _, vs, hh, rs⟩ := st.at_ n _ e
          have ea : a1 = a0 := Option.some.inj (h1.symm.trans ha)
          subst ea
          exact ⟨_, vs, rfl, hh, rs⟩
        | _ => cases h'
  | _ => cases h
theorem lstOf_ok {l : List D} (st : StR K w s) (r : Rep K w x d) (h : lstOf s d = some l) : ∃ p vs, x = .ref p ∧ SqL K w.H p vs ∧ Reps K w vs l := by
  have key : lstX s d = some l → ∃ p vs, x = .ref p ∧ SqL K w.H p vs ∧ Reps K w vs l := fun h => by
    obtain ⟨p, vs, h1, h2, h3⟩ := lstX_ok st r h
    exact ⟨p, vs, h1, SqL.of h2, h3⟩
  cases d with
  | rol l1 =>
    cases h
    cases r with
    | rol hh rs => exact ⟨_, _, rfl, hh.sq, rs⟩
  | _ => exact key h
theorem dctOf_ok {m : List (Key × D)} (st : StR K w s) (r : Rep K w x d) (h : dctOf s d = some m) : ∃ p l, x = .ref p ∧ Rd w.H p (.dK l) ∧ KVR K w l m := by
  cases d with
  | dct m1 =>
    cases h
    obtain ⟨a, o, l, rfl, _, h1, h2⟩ := r.dct_inv
    exact ⟨a, l, rfl, .inr ⟨o, h1⟩, h2⟩
  | cel n =>
    have h' : (match s[n]? with
      | some (some (.dct l)) => some l
      | some (some (.rod l)) => some l
      | _ => none) = some m := h
    cases r with
    | cel ha =>
      cases e : s[n]? with
      | none => rw [e] at h'; cases h'
      | some o =>
        rw [e] at h'
        cases o with
        | none => cases h'
        | some c =>
          cases c with
          | dct l1 =>
            cases h'
            obtain ⟨a1, h1, _, l, hh, rs⟩ := st.at_ n _ e
            have ea := Option.some.inj (h1.symm.trans ha)
            subst ea
            exact ⟨_, l, rfl, .inl hh, rs⟩
          | rod l1 =>
            cases h'
            obtain ⟨a1, h1, _, o, l, _, hh, rs⟩ := st.at_ n _ e
            have ea := Option.some.inj (h1.symm.trans ha)
            subst ea
            exact ⟨_, l, rfl, .inr ⟨o, hh⟩, rs⟩
          | _ => cases h'
  | _ => cases h
theorem insOf_ok {C : Str} {m : List (Str × D)} (st : StR K w s) (r : Rep K w x d) (h : insOf s d = some (C, m)) : ∃ p dx l, x = .ref p ∧ w.H p = some (.ins (He.ga K C) dx l) ∧ KVR K w l m := by
  cases d with
  | ins C1 m1 =>
    cases h
    obtain ⟨a, dx, l, rfl, _, h1, h2⟩ := r.ins_inv
    exact ⟨a, dx, l, rfl, h1, h2⟩
  | cel n =>
    have h' : (match s[n]? with
      | some (some (.ins C l)) => some (C, l)
      | _ => none) = some (C, m) := h
    cases r with
    | cel ha =>
      cases e : s[n]? with
      | none => rw [e] at h'; cases h'
      | some o =>
        rw [e] at h'
        cases o with
        | none => cases h'
        | some c =>
          cases c with
          | ins C1 l1 =>
            cases h'
            obtain ⟨a1, h1, _, dx, l, hh, rs⟩ := st.at_ n _ e
            have ea := Option.some.inj (h1.symm.trans ha)
            subst ea
            exact ⟨_, dx, l, rfl, hh, rs⟩
          | _ => cases h'
  | _ => cases h
end
section
variable {X : Cx} {W : WX} {a b c : Expr} {pos : Pos} {ma mb mc : DE}
theorem e_var {i : Nat} {x : Str} (hN : X.N[i]? = some x) (hv : Vis X.env.scope x) (hd : (x == ("__debug__" : Str)) = false) (hcd : (x == ("__classdict__" : Str)) = false) : PE X (.Name x pos) (tE X.K W (vM i)) :=
  PE.imp (pe_var hN hv hd hcd) fun t H Q h => by
    obtain ⟨r, s, w, rfl, env, st, hp⟩ := h
    unfold vM at hp
    cases e : r[i]? with
    | none =>
      rw [e] at hp
      exact hp.elim
    | some o =>
      cases o with
      | none =>
        rw [e] at hp
        exact hp.elim
      | some d =>
        rw [e] at hp
        obtain ⟨v, h1, h2⟩ := env.2 i d e
        exact ⟨v, h1, hp.pure st h2⟩
theorem ev (i : Nat) {x : Str} (hN : X.N[i]? = some x := by rfl) (hv : Vis X.env.scope x := by first | exact Or.inl rfl | exact Or.inr (Or.inl rfl) | exact Or.inr (Or.inr rfl)) (hd : (x == ("__debug__" : Str)) = false := by decide)
    (hcd : (x == ("__classdict__" : Str)) = false := by decide) : PE X (.Name x pos) (tE X.K W (vM i)) := e_var hN hv hd hcd
theorem e_c {e : Expr} {v : V} {d : D} (h : PE X e (tC v)) (hr : ∀ w, Rep X.K w v d) : PE X e (tE X.K W (cM d)) := PE.imp h fun t H Q h => by
  obtain ⟨r, s, w, rfl, env, st, hp⟩ := h
  exact hp.pure st (hr w)
theorem e_int {i : Int} {j : Nat} : PE X (.Constant (.int i) j pos) (tE X.K W (cM (.int i))) := e_c pe_int fun _ => .int i
theorem e_bl {i : Bool} {j : Nat} : PE X (.Constant (.bool i) j pos) (tE X.K W (cM (.bl i))) := e_c pe_bl fun _ => .bl i
theorem e_non {j : Nat} : PE X (.Constant .none j pos) (tE X.K W (cM .non)) := e_c pe_non fun _ => .non
theorem e_str {z : Str} {j : Nat} : PE X (.Constant (.str z) j pos) (tE X.K W (cM (.str z))) := e_c pe_str fun _ => .str z
theorem e_gint {x : Str} {i : Int} (hg : Gl X x) (hm : ∃ t, X.mg x = some (.int i t)) (hd : (x == ("__debug__" : Str)) = false := by decide) : PE X (.Name x pos) (tE X.K W (cM (.int i))) := by
  obtain ⟨t, hm⟩ := hm
  exact e_c (pe_glob (v := .int i) hg hm ⟨_, rfl⟩ hd) fun _ => .int i
theorem e_glo {x : Str} (hg : Gl X x) (hm : X.mg x = some (.ref (He.ga X.K x))) (hd : (x == ("__debug__" : Str)) = false := by decide) : PE X (.Name x pos) (tE X.K W (cM (.glo x))) :=
  e_c (pe_glob (v := .ref (He.ga X.K x)) hg hm rfl hd) fun _ => .glo x
/-- a written tuple of the top -/
theorem e_gtup {x : Str} {vs : List V} {ds : List D} (hg : Gl X x) (hm : X.mg x = some (.ref (He.ga X.K x))) (hk : KT X.K (He.ga X.K x) vs) (hr : ∀ w, Reps X.K w vs ds) (hd : (x == ("__debug__" : Str)) = false := by decide) : PE X (.Name x pos) (tE X.K W (cM (.kot ds))) :=
  e_c (pe_glob (v := .ref (He.ga X.K x)) hg hm rfl hd) fun w => .kot hk (hr w)
/-- a built-in class as a value -/
theorem e_ty {x : Str} {n : String} (hg : Gl X x) (hm : X.mg x = none) (hv : bootBuiltins x = some (.type n)) (hn : x ≠ "__name__" := by decide) (hd : (x == ("__debug__" : Str)) = false := by decide) : PE X (.Name x pos) (tE X.K W (cM (.ty n))) :=
  e_c (pe_bltn (v := .ty n) hg hm hv rfl hn hd) fun _ => .ty n
/-- what an operation on values asks, from what the data's operation gives -/
def VR2 (K : Frag) (r : R2) (f : D → D → Sto → Res D) : Prop := ∀ w s x y a b Q E, StR K w s → Rep K w x a → Rep K w y b → Post K (Rep K) w E Q (f a b s) → r x y w.H Q
theorem e_bin {op : Operator} {f : D → D → Sto → Res D} {r : R2} (ho : OpR X (binaryOp op) r) (hv : VR2 X.K r f) (ha : PE X a (tE X.K W ma)) (hb : PE X b (tE X.K W mb)) : PE X (.BinOp a op b pos) (tE X.K W (binM f ma mb)) :=
  PE.imp (pe_op ho ha hb) fun t H Q h => by
    obtain ⟨r, s, w, rfl, env, st, hp⟩ := h
    exact hp.bind env st fun x d s1 w1 e1 st1 r1 hp1 => hp1.bind (env.ext e1) st1 fun y d2 s2 w2 e2 st2 r2 hp2 => hv w2 s2 x y d d2 Q _ st2 (r1.ext e2) r2 hp2
theorem e_cmp {op : CmpOp} {f : D → D → Sto → Res D} {r : R2} (ho : OpR X (compareOp op) r) (hv : VR2 X.K r f) (ha : PE X a (tE X.K W ma)) (hb : PE X b (tE X.K W mb)) (hm : behindInMarks op b = false) : PE X (.Compare a [op] [b] pos) (tE X.K W (binM f ma mb)) :=
  PE.imp (pe_cmpR ho ha hb hm) fun t H Q h => by
    obtain ⟨r, s, w, rfl, env, st, hp⟩ := h
    exact hp.bind env st fun x d s1 w1 e1 st1 r1 hp1 => hp1.bind (env.ext e1) st1 fun y d2 s2 w2 e2 st2 r2 hp2 => hv w2 s2 x y d d2 Q _ st2 (r1.ext e2) r2 hp2
/-- the value of a comparison is a bool -/
theorem Post.toBl {K : Frag} {w : Wd} {E : XK} {Q : Bool → Hp → Prop} {x : D} {s : Sto} (hp : Post K (fun _ (b c : Bool) => b = c) w E Q (match x with | .bl b => .ok b s | _ => .bad)) : Post K (Rep K) w E (fun v H' => ∃ k, v = V.bl k ∧ Q k H') (.ok x s) := fun v w' e st r => by
  cases r with
  | bl b => exact ⟨b, rfl, hp b w' e st rfl⟩
  | _ => exact hp.elim
theorem bind_assoc {T U Z : Type} (m : DM T) (f : T → DM U) (g : U → DM Z) : bindM (bindM m f) g = bindM m fun x => bindM (f x) g := by
  funext r s
  unfold bindM
  cases m r s <;> rfl
theorem t_cmp {op : CmpOp} {f : D → D → Sto → Res D} {r : R2} (ho : OpR X (compareOp op) r) (hv : VR2 X.K r f) (ha : PE X a (tE X.K W ma)) (hb : PE X b (tE X.K W mb)) (hm : behindInMarks op b = false) : PT X (.Compare a [op] [b] pos) (tT X.K W (blM (binM f ma mb))) :=
  PT.imp (pt_cmpR ho ha hb hm) fun t H Q h => by
    obtain ⟨r, s, w, rfl, env, st, hp⟩ := h
    have hp' : Post X.K (fun _ (b c : Bool) => b = c) w (fun c d H' => W c d t H') Q (bindM ma (fun x => bindM mb fun y => bindM (fun _ s => f x y s) fun z => fun _ s => match z with | .bl b => .ok b s | _ => .bad) r s) := by
      have e : blM (binM f ma mb) = bindM ma (fun x => bindM mb fun y => bindM (fun _ s => f x y s) fun z => fun _ s => match z with | .bl b => .ok b s | _ => .bad) := by
        unfold blM binM
        rw [bind_assoc]
        congr 1
        funext x
        rw [bind_assoc]
      rw [← e]
      exact hp
    exact hp'.bind env st fun x d s1 w1 e1 st1 r1 hp1 => hp1.bind (env.ext e1) st1 fun y d2 s2 w2 e2 st2 r2 hp2 => hv w2 s2 x y d d2 _ (fun c d H' => W c d t H') st2 (r1.ext e2) r2 (by
      unfold bindM at hp2
      dsimp only at hp2
      cases e : f d d2 s2 with
      | ok z s3 =>
        rw [e] at hp2
        exact Post.toBl hp2
      | exc C fs s3 =>
        rw [e] at hp2
        exact hp2
      | bad =>
        rw [e] at hp2
        exact hp2)
theorem tru_ok {w : Wd} {s : Sto} {x : V} {d : D} {k : Bool} (st : StR X.K w s) (r : Rep X.K w x d) (h : truD s d = some k) : TruV X.K x w.H k := by
  have seq : (lstOf s d).map (fun l => !l.isEmpty) = some k → TruV X.K x w.H k := fun h => by
    cases e : lstOf s d with
    | none => rw [e] at h; cases h
    | some l =>
      rw [e] at h
      obtain ⟨p, vs, rfl, hs, rs⟩ := lstOf_ok st r e
      refine .inl ⟨vs, hs, ?_⟩
      rw [← Option.some.inj h]
      cases rs <;> rfl
  cases d with
  | non =>
    cases r
    exact (Option.some.inj h).symm
  | bl b =>
    cases r
    exact (Option.some.inj h).symm
  | int i =>
    cases r
    exact (Option.some.inj h).symm
  | str z =>
    cases r
    have h' : (if z.length ≤ sizeLine then some ((z.length : Int) != 0) else none) = some k := h
    by_cases hl : z.length ≤ sizeLine
    · rw [if_pos hl] at h'
      exact ⟨hl, (Option.some.inj h').symm⟩
    · rw [if_neg hl] at h'
      cases h'
  | tup l =>
    cases r with
    | tup hh rs =>
      refine .inr (.inl ⟨_, hh.sq, ?_⟩)
      rw [← Option.some.inj h]
      cases rs <;> rfl
  | _ => exact seq h
theorem truM_bind {w : Wd} {r : En} {s : Sto} {t : L2.St} {d : D} {x : V} {T U : Type} {R : Wd → U → T → Prop} {E : XK} {Q : U → Hp → Prop} {f : Bool → DM T} (st : StR X.K w s) (hr : Rep X.K w x d) (hp : Post X.K R w E Q (bindM (truM (cM d)) f r s)) :
    ∃ k, TruV X.K x w.H k ∧ Post X.K R w E Q (f k r s) := by
  unfold truM bindM cM at hp
  dsimp only at hp
  cases e : truD s d with
  | none =>
    rw [e] at hp
    exact hp.elim
  | some k =>
    rw [e] at hp
    exact ⟨k, tru_ok st hr e, hp⟩
theorem t_truth (ha : PE X a (tE X.K W ma)) (he : ∀ whole, isTrue a X.env whole = (do let v ← whole; standAt a.pos; holding [v] (truthy v)) := by intro _; rfl) : PT X a (tT X.K W (truM ma)) :=
  PT.imp (pt_truth ha he) fun t H Q h => by
    obtain ⟨r, s, w, rfl, env, st, hp⟩ := h
    exact hp.bind env st fun x d s1 w1 e1 st1 r1 hp1 => by
      cases e : truD s1 d with
      | none =>
        rw [e] at hp1
        exact hp1.elim
      | some k =>
        rw [e] at hp1
        exact ⟨k, tru_ok st1 r1 e, hp1 k w1 (Ext.refl w1) st1 rfl⟩
theorem t_not {mt : DM Bool} (ha : PT X a (tT X.K W mt)) : PT X (.UnaryOp .Not a pos) (tT X.K W (notT mt)) := PT.imp (pt_not ha) fun t H Q h => by
  obtain ⟨r, s, w, rfl, env, st, hp⟩ := h
  exact hp.bind env st fun x d s1 w1 e1 st1 r1 hp1 => by
    subst r1
    exact hp1 _ w1 (Ext.refl w1) st1 rfl
theorem w_and1 {mt : DM Bool} (ha : PT X a (tT X.K W mt)) : PW X (.BoolOp .And [a] pos) (tT X.K W mt) := pw_and1 ha
theorem w_or1 {mt : DM Bool} (ha : PT X a (tT X.K W mt)) : PW X (.BoolOp .Or [a] pos) (tT X.K W mt) := pw_or1 ha
theorem PW.imp {e : Expr} {t t' : TT} (h : PW X e t) (i : ∀ σ H Q, t' σ H Q → t σ H Q) : PW X e t' := ⟨fun whole pins s σ H Q I q => h.run whole pins s σ H Q I (i _ _ _ q)⟩
theorem w_and {rest : List Expr} {mt mu : DM Bool} (ha : PT X a (tT X.K W mt)) (hb : PW X (.BoolOp .And (b :: rest) pos) (tT X.K W mu)) : PW X (.BoolOp .And (a :: b :: rest) pos) (tT X.K W (andT mt mu)) := PW.imp (pw_and ha hb) fun t H Q h => by
  obtain ⟨r, s, w, rfl, env, st, hp⟩ := h
  exact hp.bind env st fun x d s1 w1 e1 st1 r1 hp1 => by
    subst r1
    cases x with
    | true => exact ⟨r, s1, w1, rfl, env.ext e1, st1, hp1⟩
    | false => exact hp1 _ w1 (Ext.refl w1) st1 rfl
theorem w_or {rest : List Expr} {mt mu : DM Bool} (ha : PT X a (tT X.K W mt)) (hb : PW X (.BoolOp .Or (b :: rest) pos) (tT X.K W mu)) : PW X (.BoolOp .Or (a :: b :: rest) pos) (tT X.K W (orT mt mu)) := PW.imp (pw_or ha hb) fun t H Q h => by
  obtain ⟨r, s, w, rfl, env, st, hp⟩ := h
  exact hp.bind env st fun x d s1 w1 e1 st1 r1 hp1 => by
    subst r1
    cases x with
    | true => exact hp1 _ w1 (Ext.refl w1) st1 rfl
    | false => exact ⟨r, s1, w1, rfl, env.ext e1, st1, hp1⟩
theorem e_not (ha : PE X a (tE X.K W ma)) : PE X (.UnaryOp .Not a pos) (tE X.K W (notV ma)) := PE.imp (pe_notT ha) fun t H Q h => by
  obtain ⟨r, s, w, rfl, env, st, hp⟩ := h
  have e : notV ma = bindM ma fun x => bindM (truM (cM x)) fun b => pureM (.bl (!b)) := by
    unfold notV truM
    rw [bind_assoc]
    rfl
  rw [e] at hp
  exact hp.bind env st fun x d s1 w1 e1 st1 r1 hp1 => by
    obtain ⟨k, h1, h2⟩ := truM_bind (t := t) st1 r1 hp1
    exact ⟨k, h1, h2.pure st1 (.bl _)⟩
theorem e_one {op : BoolOp} (ha : PE X a (tE X.K W ma)) : PE X (.BoolOp op [a] pos) (tE X.K W ma) := pe_one ha
theorem e_and {rest : List Expr} (ha : PE X a (tE X.K W ma)) (hb : PE X (.BoolOp .And (b :: rest) pos) (tE X.K W mb)) : PE X (.BoolOp .And (a :: b :: rest) pos) (tE X.K W (andV ma mb)) := PE.imp (pe_andT ha hb) fun t H Q h => by
  obtain ⟨r, s, w, rfl, env, st, hp⟩ := h
  exact hp.bind env st fun x d s1 w1 e1 st1 r1 hp1 => by
    obtain ⟨k, h1, h2⟩ := truM_bind (t := t) st1 r1 hp1
    refine ⟨k, h1, ?_⟩
    cases k with
    | true => exact ⟨r, s1, w1, rfl, env.ext e1, st1, h2⟩
    | false => exact h2.pure st1 r1
theorem e_if {mt : DM Bool} (hc : PT X c (tT X.K W mt)) (ha : PE X a (tE X.K W ma)) (hb : PE X b (tE X.K W mb)) : PE X (.IfExp c a b pos) (tE X.K W (ifM mt ma mb)) := PE.imp (pe_ifExp hc ha hb) fun t H Q h => by
  obtain ⟨r, s, w, rfl, env, st, hp⟩ := h
  exact hp.bind env st fun x d s1 w1 e1 st1 r1 hp1 => by
    subst r1
    cases x with
    | true => exact ⟨r, s1, w1, rfl, env.ext e1, st1, hp1⟩
    | false => exact ⟨r, s1, w1, rfl, env.ext e1, st1, hp1⟩
end
end Mp
set_option Elab.async false
set_option linter.all false
set_option maxRecDepth 100000
set_option maxHeartbeats 4000000
/-! Mp: operators on data. -/
namespace Mp
open PySem PySem.Spec PyProof.Rows L2
section
variable {X : Cx} {W : WX} {a b c : Expr} {pos : Pos} {ma mb mc : DE}
/-- a new frozen object -/
theorem Post.frz {K : Frag} {w : Wd} {s : Sto} {E : XK} {Q : VK} {d : D} (hp : Post K (Rep K) w E Q (.ok d s)) (st : StR K w s) {o : HO} (h : ∀ p, w.H p = none → Rep K (w.frz p o) (.ref p) d) : ∀ p, w.H p = none → Q (.ref p) (upd w.H p o) :=
  fun p np => hp (.ref p) (w.frz p o) (Wd.frz_ext st np) (Wd.frz_st st np) (h p np)
theorem rep_newL {K : Frag} {w : Wd} {s : Sto} (st : StR K w s) {vs : List V} {ds : List D} (r : Reps K w vs ds) {p : Addr} (np : w.H p = none) : Rep K (w.frz p (.lst vs)) (.ref p) (.lst ds) :=
  .lst Wd.frz_z Wd.frz_h (r.ext (Wd.frz_ext st np))
theorem rep_newT {K : Frag} {w : Wd} {s : Sto} (st : StR K w s) {vs : List V} {ds : List D} (r : Reps K w vs ds) {p : Addr} (np : w.H p = none) : Rep K (w.frz p (.tup vs)) (.ref p) (.tup ds) :=
  .tup ⟨Wd.frz_z, Wd.frz_h⟩ (r.ext (Wd.frz_ext st np))
theorem v_add : VR2 X.K (fun x y H Q => (rI0 fun i j => .int (i + j)) x y H Q ∨ (∃ i j, x = .str i ∧ y = .str j ∧ i.length + j.length ≤ sizeLine ∧ Q (.str (i ++ j)) H) ∨ rCat x y H Q ∨ rCatA X.K x y H Q) addD := fun w s x y d e Q E st rx ry hp => by
  unfold addD at hp
  cases d with
  | int i =>
    cases rx
    cases ry with
    | int j => exact .inl ⟨i, j, rfl, rfl, hp.pure st (.int _)⟩
    | _ => exact hp.elim
  | str i =>
    cases rx
    cases ry with
    | str j =>
      dsimp only at hp
      split at hp
      · exact .inr (.inl ⟨i, j, rfl, rfl, by assumption, hp.pure st (.str _)⟩)
      · exact hp.elim
    | _ => exact hp.elim
  | tup l1 =>
    cases rx with | tup h1 r1 =>
    cases ry with
    | tup h2 r2 =>
      dsimp only at hp
      split at hp
      · rename_i hl
        rw [← r1.length, ← r2.length] at hl
        refine .inr (.inr (.inr ⟨_, _, _, _, rfl, rfl, h1.sq, h2.sq, hl, fun e => ?_, fun e0 e => ?_, fun e1 e2 => ?_⟩))
        · subst e
          cases r1
          exact hp.pure st (.tup h2 r2)
        · subst e
          cases r2
          exact hp.pure st (by rw [List.append_nil]; exact .tup h1 r1)
        · exact hp.frz st fun p np => rep_newT st (r1.append r2) np
      · exact hp.elim
    | _ => exact hp.elim
  | _ =>
    dsimp only at hp
    split at hp
    · rename_i e1
      split at hp
      · rename_i e2
        split at hp
        · rename_i hl
          obtain ⟨p1, v1, rfl, h1, r1⟩ := lstX_ok st rx e1
          obtain ⟨p2, v2, rfl, h2, r2⟩ := lstX_ok st ry e2
          rw [← r1.length, ← r2.length] at hl
          exact .inr (.inr (.inl ⟨_, _, _, _, rfl, rfl, h1, h2, hl, hp.frz st fun p np => rep_newL st (r1.append r2) np⟩))
        · exact hp.elim
      · exact hp.elim
    · exact hp.elim
theorem e_add (ha : PE X a (tE X.K W ma)) (hb : PE X b (tE X.K W mb)) : PE X (.BinOp a .Add b pos) (tE X.K W (binM addD ma mb)) := e_bin (OpR.or op_add (OpR.or op_add_str (OpR.or op_cat op_catA))) v_add ha hb
theorem v_sub : VR2 X.K (rI0 fun i j => .int (i - j)) subD := fun w s x y d e Q E st rx ry hp => by
  unfold subD at hp
  cases rx with
  | int i =>
    cases ry with
    | int j => exact ⟨i, j, rfl, rfl, hp.pure st (.int _)⟩
    | _ => exact hp.elim
  | _ => exact hp.elim
theorem e_sub (ha : PE X a (tE X.K W ma)) (hb : PE X b (tE X.K W mb)) : PE X (.BinOp a .Sub b pos) (tE X.K W (binM subD ma mb)) := e_bin op_sub v_sub ha hb
theorem reps_rep {K : Frag} {w : Wd} {vs : List V} {ds : List D} (r : Reps K w vs ds) : ∀ n : Nat, Reps K w (List.replicate n vs).flatten (List.replicate n ds).flatten
  | 0 => .nil
  | n + 1 => by
    rw [List.replicate_succ, List.replicate_succ, List.flatten_cons, List.flatten_cons]
    exact r.append (reps_rep r n)
theorem v_mul : VR2 X.K (fun x y H Q => (rI CMulW fun i j => .int (i * j)) x y H Q ∨ rRep x y H Q) mulD := fun w s x y d e Q E st rx ry hp => by
  unfold mulD at hp
  cases d with
  | int i =>
    cases rx
    cases ry with
    | int j =>
      dsimp only at hp
      split at hp
      · rename_i hc
        exact .inl ⟨i, j, rfl, rfl, of_decide_eq_true (p := i.natAbs.log2 + j.natAbs.log2 < 1000000) hc, hp.pure st (.int _)⟩
      · exact hp.elim
    | _ => exact hp.elim
  | _ =>
    dsimp only at hp
    split at hp
    · exact hp.elim
    · rename_i e1
      obtain ⟨p1, v1, rfl, h1, r1⟩ := lstX_ok st rx e1
      cases ry with
      | int k =>
        dsimp only at hp
        split at hp
        · rename_i hc
          rw [← r1.length] at hc
          exact .inr ⟨_, k, _, rfl, rfl, h1, by omega, by omega, hc.2.2, hp.frz st fun p np => rep_newL st (reps_rep r1 _) np⟩
        · exact hp.elim
      | _ => exact hp.elim
theorem e_mul (ha : PE X a (tE X.K W ma)) (hb : PE X b (tE X.K W mb)) : PE X (.BinOp a .Mult b pos) (tE X.K W (binM mulD ma mb)) := e_bin (OpR.or op_mulW op_rep) v_mul ha hb
def CDivX (_ j : Int) : Prop := j ≠ 0 ∧ j.natAbs.log2 < 9000
theorem op_fdivX : OpR X (binaryOp .FloorDiv) (rI CDivX fun i j => .int (i.fdiv j)) := opI fun _ _ _ _ _ _ _ hc q => floordiv_int hc.1 q (.inl (PyProof.noPylong_of_log2 hc.2))
theorem v_div : VR2 X.K (fun x y H Q => (rI CDivW fun i j => .int (i / j)) x y H Q ∨ (rI CDivX fun i j => .int (i.fdiv j)) x y H Q) divD := fun w s x y d e Q E st rx ry hp => by
  unfold divD at hp
  cases rx with
  | int i =>
    cases ry with
    | int j =>
      dsimp only at hp
      split at hp
      · rename_i hc
        exact .inl ⟨i, j, rfl, rfl, hc, hp.pure st (.int _)⟩
      · split at hp
        · rename_i hc
          exact .inr ⟨i, j, rfl, rfl, ⟨by omega, hc.2⟩, hp.pure st (.int _)⟩
        · exact hp.elim
    | _ => exact hp.elim
  | _ => exact hp.elim
theorem e_div (ha : PE X a (tE X.K W ma)) (hb : PE X b (tE X.K W mb)) : PE X (.BinOp a .FloorDiv b pos) (tE X.K W (binM divD ma mb)) := e_bin (OpR.or op_fdivW op_fdivX) v_div ha hb
theorem v_mod : VR2 X.K (fun x y H Q => (rI (fun _ j => 0 < j) fun i j => .int (i % j)) x y H Q ∨ (rI (fun _ j => j ≠ 0) fun i j => .int (i.fmod j)) x y H Q) modD := fun w s x y d e Q E st rx ry hp => by
  unfold modD at hp
  cases rx with
  | int i =>
    cases ry with
    | int j =>
      dsimp only at hp
      split at hp
      · rename_i hc
        exact .inl ⟨i, j, rfl, rfl, hc, hp.pure st (.int _)⟩
      · split at hp
        · rename_i hc
          exact .inr ⟨i, j, rfl, rfl, (by omega), hp.pure st (.int _)⟩
        · exact hp.elim
    | _ => exact hp.elim
  | _ => exact hp.elim
theorem e_mod (ha : PE X a (tE X.K W ma)) (hb : PE X b (tE X.K W mb)) : PE X (.BinOp a .Mod b pos) (tE X.K W (binM modD ma mb)) := e_bin (OpR.or op_mod op_modN) v_mod ha hb
theorem v_pow : VR2 X.K (rI CPow fun i j => .int (i ^ j.toNat)) powD := fun w s x y d e Q E st rx ry hp => by
  unfold powD at hp
  cases rx with
  | int i =>
    cases ry with
    | int j =>
      dsimp only at hp
      split at hp
      · rename_i hc
        exact ⟨i, j, rfl, rfl, hc, hp.pure st (.int _)⟩
      · exact hp.elim
    | _ => exact hp.elim
  | _ => exact hp.elim
theorem e_pow (ha : PE X a (tE X.K W ma)) (hb : PE X b (tE X.K W mb)) : PE X (.BinOp a .Pow b pos) (tE X.K W (binM powD ma mb)) := e_bin op_pow v_pow ha hb
theorem e_neg (ha : PE X a (tE X.K W ma)) : PE X (.UnaryOp .USub a pos) (tE X.K W (unM negD ma)) := PE.imp (pe_un un_neg ha) fun t H Q h => by
  obtain ⟨r, s, w, rfl, env, st, hp⟩ := h
  exact hp.bind env st fun x d s1 w1 e1 st1 r1 hp1 => by
    unfold negD at hp1
    cases r1 with
    | int i => exact ⟨i, rfl, hp1.pure st1 (.int _)⟩
    | _ => exact hp1.elim
/-! ### order -/
theorem v_ord {g : Int → Int → Bool} {k : List Nat → List Nat → Bool} : VR2 X.K (fun x y H Q => (rI0 fun i j => .bl (g i j)) x y H Q ∨ ∃ i j, x = .str i ∧ y = .str j ∧ Q (.bl (k i.cps.toList j.cps.toList)) H) (ltD g k) := fun w s x y d e Q E st rx ry hp => by
  unfold ltD at hp
  cases rx with
  | int i =>
    cases ry with
    | int j => exact .inl ⟨i, j, rfl, rfl, hp.pure st (.bl _)⟩
    | _ => exact hp.elim
  | str i =>
    cases ry with
    | str j => exact .inr ⟨i, j, rfl, rfl, hp.pure st (.bl _)⟩
    | _ => exact hp.elim
  | _ => exact hp.elim
theorem o_lt : OpR X (compareOp .Lt) (fun x y H Q => (rI0 fun i j => .bl (decide (i < j))) x y H Q ∨ ∃ i j, x = .str i ∧ y = .str j ∧ Q (.bl (decide (i.cps.toList < j.cps.toList))) H) := OpR.or op_lt op_lt_str
theorem o_le : OpR X (compareOp .LtE) (fun x y H Q => (rI0 fun i j => .bl (decide (i ≤ j))) x y H Q ∨ ∃ i j, x = .str i ∧ y = .str j ∧ Q (.bl (!decide (j.cps.toList < i.cps.toList))) H) := OpR.or op_le op_le_str
theorem o_gt : OpR X (compareOp .Gt) (fun x y H Q => (rI0 fun i j => .bl (decide (j < i))) x y H Q ∨ ∃ i j, x = .str i ∧ y = .str j ∧ Q (.bl (decide (j.cps.toList < i.cps.toList))) H) := OpR.or op_gt op_gt_str
theorem o_ge : OpR X (compareOp .GtE) (fun x y H Q => (rI0 fun i j => .bl (decide (j ≤ i))) x y H Q ∨ ∃ i j, x = .str i ∧ y = .str j ∧ Q (.bl (!decide (i.cps.toList < j.cps.toList))) H) := OpR.or op_ge op_ge_str
theorem e_lt (ha : PE X a (tE X.K W ma)) (hb : PE X b (tE X.K W mb)) : PE X (.Compare a [.Lt] [b] pos) (tE X.K W (binM ltI ma mb)) := e_cmp o_lt v_ord ha hb (nomark _)
theorem t_lt (ha : PE X a (tE X.K W ma)) (hb : PE X b (tE X.K W mb)) : PT X (.Compare a [.Lt] [b] pos) (tT X.K W (blM (binM ltI ma mb))) := t_cmp o_lt v_ord ha hb (nomark _)
theorem t_gt (ha : PE X a (tE X.K W ma)) (hb : PE X b (tE X.K W mb)) : PT X (.Compare a [.Gt] [b] pos) (tT X.K W (blM (binM gtI ma mb))) := t_cmp o_gt v_ord ha hb (nomark _)
theorem t_ge (ha : PE X a (tE X.K W ma)) (hb : PE X b (tE X.K W mb)) : PT X (.Compare a [.GtE] [b] pos) (tT X.K W (blM (binM geI ma mb))) := t_cmp o_ge v_ord ha hb (nomark _)
/-! ### None -/
end
/-! ### equality of plain data -/
mutual
def toPy : D → Option PyData
  | .non => some .none
  | .bl b => some (.bool b)
  | .int i => some (.int i)
  | .str z => some (.str z)
  | .tup l => (toPys l).map .tuple
  | .lst l => (toPys l).map .list
  | .rol l => (toPys l).map .list
  | .ty _ => none
  | .glo _ => none
  | .dct _ => none
  | .ins _ _ => none
  | .exn _ _ _ _ => none
  | .cel _ => none
  | .clo _ _ _ _ _ => none
  | .kot _ => none
  | .lam _ _ _ => none
def toPys : List D → Option (List PyData)
  | [] => some []
  | d :: r => (toPy d).bind fun x => (toPys r).map fun y => x :: y
end
mutual
theorem Rep.dp {K : Frag} {w : Wd} : ∀ {d : D} {v : V} {p : PyData}, Rep K w v d → toPy d = some p → Dp K w.H v p
  | .non, _, _, h, e => by
    cases h
    rw [toPy] at e
    cases e
    exact .non
  | .bl b, _, _, h, e => by
    cases h
    rw [toPy] at e
    cases e
    exact .bl b
  | .int i, _, _, h, e => by
    cases h
    rw [toPy] at e
    cases e
    exact .int i
  | .str z, _, _, h, e => by
    cases h
    rw [toPy] at e
    cases e
    exact .str z
  | .tup l, _, _, h, e => by
    cases h with
    | tup h1 r =>
      rw [toPy] at e
      cases q : toPys l with
      | none => rw [q] at e; cases e
      | some ps =>
        rw [q] at e
        cases e
        exact .tup h1.sq (Reps.dp r q)
  | .lst l, _, _, h, e => by
    cases h with
    | lst z h1 r =>
      rw [toPy] at e
      cases q : toPys l with
      | none => rw [q] at e; cases e
      | some ps =>
        rw [q] at e
        cases e
        exact .lst (SqL.of h1) (Reps.dp r q)
  | .rol l, _, _, h, e => by
    cases h with
    | rol h1 r =>
      rw [toPy] at e
      cases q : toPys l with
      | none => rw [q] at e; cases e
      | some ps =>
        rw [q] at e
        cases e
        exact .lst h1.sq (Reps.dp r q)
  | .ty _, _, _, _, e => by rw [toPy] at e; cases e
  | .glo _, _, _, _, e => by rw [toPy] at e; cases e
  | .dct _, _, _, _, e => by rw [toPy] at e; cases e
  | .ins _ _, _, _, _, e => by rw [toPy] at e; cases e
  | .exn _ _ _ _, _, _, _, e => by rw [toPy] at e; cases e
  | .cel _, _, _, _, e => by rw [toPy] at e; cases e
  | .clo _ _ _ _ _, _, _, _, e => by rw [toPy] at e; cases e
  | .kot _, _, _, _, e => by rw [toPy] at e; cases e
  | .lam _ _ _, _, _, _, e => by rw [toPy] at e; cases e
theorem Reps.dp {K : Frag} {w : Wd} : ∀ {ds : List D} {vs : List V} {ps : List PyData}, Reps K w vs ds → toPys ds = some ps → DpAll K w.H vs ps
  | [], _, _, h, e => by
    cases h
    rw [toPys] at e
    cases e
    exact .nil
  | d :: r, _, _, h, e => by
    cases h with
    | cons h1 h2 =>
      rw [toPys] at e
      cases q1 : toPy d with
      | none => rw [q1] at e; cases e
      | some p =>
        cases q2 : toPys r with
        | none => rw [q1, q2] at e; cases e
        | some ps =>
          rw [q1, q2] at e
          cases e
          exact .cons (Rep.dp h1 q1) (Reps.dp h2 q2)
end
def eqG0 (neg : Bool) (x y : D) (s : Sto) : Res D := match toPy x with
  | none => .bad
  | some p => match toPy y with
    | none => .bad
    | some q => if (SeqAt.shaped p && SeqAt.shaped q) = true then .ok (.bl (if neg then !PyData.eqv p q else PyData.eqv p q)) s else .bad
def eqG (neg : Bool) (x y : D) (s : Sto) : Res D := match x with
  | .int i => (match y with
    | .int j => .ok (.bl (if neg then !decide (i = j) else decide (i = j))) s
    | y => eqG0 neg (.int i) y s)
  | .str i => (match y with
    | .str j => .ok (.bl (if neg then !decide (i = j) else decide (i = j))) s
    | y => eqG0 neg (.str i) y s)
  | .cel n => (match s[n]? with
    | some (some (.lst l)) => eqG0 neg (.lst l) y s
    | _ => .bad)
  | x => eqG0 neg x y s
abbrev eqD : D → D → Sto → Res D := eqG false
abbrev neD : D → D → Sto → Res D := eqG true
section
variable {X : Cx} {W : WX} {a b c : Expr} {pos : Pos} {ma mb mc : DE}
theorem v_eqG0 {neg : Bool} : VR2 X.K (fun x y H Q => ∃ d e, Dp X.K H x d ∧ Dp X.K H y e ∧ SeqAt.shaped d = true ∧ SeqAt.shaped e = true ∧ Q (.bl (if neg then !PyData.eqv d e else PyData.eqv d e)) H) (eqG0 neg) := fun w s x y d e Q E st rx ry hp => by
  unfold eqG0 at hp
  cases e1 : toPy d with
  | none => rw [e1] at hp; exact hp.elim
  | some p =>
    rw [e1] at hp
    dsimp only at hp
    cases e2 : toPy e with
    | none => rw [e2] at hp; exact hp.elim
    | some q =>
      rw [e2] at hp
      dsimp only at hp
      split at hp
      · rename_i hs
        obtain ⟨h1, h2⟩ := Bool.and_eq_true_iff.mp hs
        exact ⟨p, q, Rep.dp rx e1, Rep.dp ry e2, h1, h2, hp.pure st (.bl _)⟩
      · exact hp.elim
theorem v_eqG {neg : Bool} : VR2 X.K (fun x y H Q => (scal x y = true ∧ Q (.bl (if neg then !decide (x = y) else decide (x = y))) H) ∨ ∃ d e, Dp X.K H x d ∧ Dp X.K H y e ∧ SeqAt.shaped d = true ∧ SeqAt.shaped e = true ∧ Q (.bl (if neg then !PyData.eqv d e else PyData.eqv d e)) H) (eqG neg) := fun w s x y d e Q E st rx ry hp => by
  have key : Post X.K (Rep X.K) w E Q (eqG0 neg d e s) → _ := fun h => v_eqG0 w s x y d e Q E st rx ry h
  unfold eqG at hp
  cases d with
  | int i =>
    cases e with
    | int j =>
      cases rx
      cases ry
      refine .inl ⟨rfl, ?_⟩
      rw [show decide (V.int i = V.int j) = decide (i = j) from decide_eq_decide.mpr ⟨fun z => by cases z; rfl, fun z => by rw [z]⟩]
      exact hp.pure st (.bl _)
    | _ => exact .inr (key hp)
  | str i =>
    cases e with
    | str j =>
      cases rx
      cases ry
      refine .inl ⟨rfl, ?_⟩
      rw [show decide (V.str i = V.str j) = decide (i = j) from decide_eq_decide.mpr ⟨fun z => by cases z; rfl, fun z => by rw [z]⟩]
      exact hp.pure st (.bl _)
    | _ => exact .inr (key hp)
  | cel n =>
    dsimp only at hp
    split at hp
    · rename_i _ l el
      cases rx with
      | @cel _ a0 hA =>
        obtain ⟨a1, h1, _, vs, hh, rs⟩ := st.at_ n _ el
        have ea : a1 = a0 := Option.some.inj (h1.symm.trans hA)
        subst ea
        unfold eqG0 at hp
        cases e1 : toPys l with
        | none => rw [toPy, e1] at hp; exact hp.elim
        | some ps =>
          rw [toPy, e1] at hp
          dsimp only [Option.map] at hp
          cases e2 : toPy e with
          | none => rw [e2] at hp; exact hp.elim
          | some q =>
            rw [e2] at hp
            dsimp only at hp
            split at hp
            · rename_i hs
              obtain ⟨k1, k2⟩ := Bool.and_eq_true_iff.mp hs
              exact .inr ⟨.list ps, q, .lst (SqL.of hh) (Reps.dp rs e1), Rep.dp ry e2, k1, k2, hp.pure st (.bl _)⟩
            · exact hp.elim
    · exact hp.elim
  | _ => exact .inr (key hp)
theorem e_eq (hu : X.A.units + 64 < cLine) (ha : PE X a (tE X.K W ma)) (hb : PE X b (tE X.K W mb)) : PE X (.Compare a [.Eq] [b] pos) (tE X.K W (binM eqD ma mb)) := e_cmp (OpR.or op_eq (op_eqD hu)) v_eqG ha hb (nomark _)
theorem t_eq (hu : X.A.units + 64 < cLine) (ha : PE X a (tE X.K W ma)) (hb : PE X b (tE X.K W mb)) : PT X (.Compare a [.Eq] [b] pos) (tT X.K W (blM (binM eqD ma mb))) := t_cmp (OpR.or op_eq (op_eqD hu)) v_eqG ha hb (nomark _)
theorem t_ne (hu : X.A.units + 64 < cLine) (ha : PE X a (tE X.K W ma)) (hb : PE X b (tE X.K W mb)) : PT X (.Compare a [.NotEq] [b] pos) (tT X.K W (blM (binM neD ma mb))) := t_cmp (OpR.or op_ne (op_neD hu)) v_eqG ha hb (nomark _)
end
end Mp
set_option Elab.async false
set_option linter.all false
set_option maxRecDepth 100000
set_option maxHeartbeats 4000000
/-! Mp: displays, subscripts, slices, membership, built-in calls. -/
namespace Mp
open PySem PySem.Spec PyProof.Rows L2
/-! ### new lists: frozen, or a cell -/
def newL (c : Bool) (ds : List D) (s : Sto) : Res D := if c = true then .ok (.cel s.length) (s ++ [some (.lst ds)]) else .ok (.lst ds) s
theorem Post.newL {K : Frag} {w : Wd} {s : Sto} {E : XK} {Q : VK} {c : Bool} {ds : List D} {vs : List V} (hp : Post K (Rep K) w E Q (newL c ds s)) (st : StR K w s) (r : Reps K w vs ds) : ∀ p, w.H p = none → Q (.ref p) (upd w.H p (.lst vs)) := by
  cases c with
  | false => exact Post.frz (d := .lst ds) hp st fun p np => rep_newL st r np
  | true =>
    intro p np
    have e := Wd.cell_ext st (o := .lst vs) np
    have hp' : Post K (Rep K) w E Q (.ok (.cel s.length) (s ++ [some (.lst ds)])) := hp
    exact hp' (.ref p) (w.cell s.length p (.lst vs)) e (Wd.cell_st st np ⟨vs, upd_same, r.ext e⟩) (.cel (if_pos rfl))
def argM (f : List D → Sto → Res D) (a : DM (List D)) : DE := bindM a fun ds => fun _ s => f ds s
def nilA : DM (List D) := pureM []
def consA (a : DE) (b : DM (List D)) : DM (List D) := bindM a fun x => bindM b fun r => pureM (x :: r)
def lstD (c : Bool) (ds : List D) (s : Sto) : Res D := if ds.length ≤ sizeLine then newL c ds s else .bad
def tupD (ds : List D) (s : Sto) : Res D := if ds.length ≤ sizeLine then .ok (.tup ds) s else .bad
def getK {T U : Type} [DecidableEq T] (l : List (T × U)) (k : T) : Option U := (l.find? fun p => decide (p.1 = k)).map (·.2)
def keyD : D → Option Key
  | .int i => some (.inl i)
  | .str z => some (.inr z)
  | _ => none
def okO {T : Type} (s : Sto) : Option T → Res T
  | some d => .ok d s
  | none => .bad
def idxD (x y : D) (s : Sto) : Res D := match dctOf s x with
  | some m => (match keyD y with
    | some k => okO s (getK m k)
    | none => .bad)
  | none => (match y with
    | .int i => (match x with
      | .str z => if z.length ≤ sizeLine then okO s ((atI z.cps.toList i).map fun c => .str ⟨#[c]⟩) else .bad
      | .tup l => okO s (atI l i)
      | x => (match lstOf s x with
        | some l => okO s (atI l i)
        | none => .bad))
    | _ => .bad)
def optM (a : DE) : DM (Option Int) := bindM a fun x => fun _ s => match x with
  | .int i => .ok (some i) s
  | _ => .bad
def cutD (xs : List D) (lo hi : Option Int) : List D := (xs.drop (HT.sIx xs.length 0 lo)).take (HT.sIx xs.length xs.length hi - HT.sIx xs.length 0 lo)
def sliD (c : Bool) (x : D) (lo hi : Option Int) (s : Sto) : Res D := match x with
  | .str z => if z.length ≤ sizeLine then .ok (.str (cutS z lo hi)) s else .bad
  | .tup l => .ok (.tup (cutD l lo hi)) s
  | x => (match lstOf s x with
    | some l => newL c (cutD l lo hi) s
    | none => .bad)
def sliM (c : Bool) (a : DE) (l h : DM (Option Int)) : DE := bindM a fun x => bindM l fun lo => bindM h fun hi => fun _ s => sliD c x lo hi s
def eqF : D → D → Bool
  | .non, .non => true
  | .bl a, .bl b => a == b
  | .bl a, .int b => (if a then 1 else 0) == b
  | .int a, .bl b => a == (if b then 1 else 0)
  | .int a, .int b => a == b
  | .str a, .str b => a == b
  | _, _ => false
def inF (x : D) (xs : List D) : Bool := xs.any fun y => eqF y x
def seqOf (s : Sto) : D → Option (List D)
  | .tup l => some l
  | x => lstOf s x
/-! ### soundness -/
section
variable {K : Frag} {w : Wd}
theorem getK_ok {T : Type} [DecidableEq T] {k : T} : ∀ {l : List (T × V)} {m : List (T × D)}, KVR K w l m → (match getK m k with | some d => ∃ v, valV l k = some v ∧ Rep K w v d | none => valV l k = none)
  | _, _, .nil => rfl
  | _, _, .cons (k := j) h r => by
    have ih := getK_ok (k := k) r
    by_cases e : j = k
    · rw [valV_pos e]
      simp only [getK, List.find?_cons, e, decide_true, Option.map_some]
      exact ⟨_, rfl, h⟩
    · rw [valV_neg e]
      simp only [getK, List.find?_cons, e, decide_false]
      exact ih
theorem cutD_ok {xs : List V} {ds : List D} (r : Reps K w xs ds) (lo hi : Option Int) : Reps K w (cutV xs lo hi) (cutD ds lo hi) := by
  unfold cutV cutD
  rw [r.length]
  exact (r.drop _).take _
theorem atI_ok {xs : List V} {ds : List D} (r : Reps K w xs ds) {i : Int} {d : D} (h : atI ds i = some d) : ∃ v, atI xs i = some v ∧ Rep K w v d := by
  unfold atI at h ⊢
  rw [r.length]
  cases e : ixN ds.length i with
  | none => rw [e] at h; cases h
  | some j =>
    rw [e] at h
    exact r.get h
theorem seqOf_ok {s : Sto} {x : V} {d : D} {l : List D} (st : StR K w s) (r : Rep K w x d) (h : seqOf s d = some l) : ∃ p vs, x = .ref p ∧ (SqL K w.H p vs ∨ SqT K w.H p vs) ∧ Reps K w vs l := by
  have key : lstOf s d = some l → ∃ p vs, x = .ref p ∧ (SqL K w.H p vs ∨ SqT K w.H p vs) ∧ Reps K w vs l := fun h => by
    obtain ⟨p, vs, h1, h2, h3⟩ := lstOf_ok st r h
    exact ⟨p, vs, h1, .inl h2, h3⟩
  cases d with
  | tup l1 =>
    cases h
    cases r with
    | tup hh rs => exact ⟨_, _, rfl, .inr hh.sq, rs⟩
  | _ => exact key h
theorem keyD_ok {y : V} {d : D} {k : Key} (r : Rep K w y d) (h : keyD d = some k) : y = kV k := by
  cases r <;> first | (cases h; done) | (cases h; rfl)
end
section
variable {X : Cx} {W : WX} {a b c : Expr} {es : List Expr} {pos : Pos} {ma mb mc : DE} {mr : DM (List D)}
theorem a_nil : PA X [] (tA X.K W nilA) := PA.imp pa_nil fun t H Q h => by
  obtain ⟨r, s, w, rfl, env, st, hp⟩ := h
  exact hp.pure st .nil
theorem a_cons (ha : PE X a (tE X.K W ma)) (hr : PA X es (tA X.K W mr)) (hs : starEach (a :: es) X.env = (false, eval a X.env) :: starEach es X.env := by rfl) : PA X (a :: es) (tA X.K W (consA ma mr)) := PA.imp (pa_cons ha hr hs) fun t H Q h => by
  obtain ⟨r, s, w, rfl, env, st, hp⟩ := h
  exact hp.bind env st fun x d s1 w1 e1 st1 r1 hp1 => hp1.bind (env.ext e1) st1 fun y d2 s2 w2 e2 st2 r2 hp2 => hp2.pure st2 (.cons (r1.ext e2) r2)
theorem e_tup {x1 : Nat} (hr : PA X es (tA X.K W mr)) : PE X (.Tuple es x1 pos) (tE X.K W (argM tupD mr)) := PE.imp (pe_tup hr) fun t H Q h => by
  obtain ⟨r, s, w, rfl, env, st, hp⟩ := h
  exact hp.bind env st fun x d s1 w1 e1 st1 r1 hp1 => by
    unfold tupD at hp1
    split at hp1
    · rename_i hl
      exact ⟨by rw [r1.length]; exact hl, hp1.frz st1 fun p np => rep_newT st1 r1 np⟩
    · exact hp1.elim
theorem e_lst (k : Bool) (hr : PA X es (tA X.K W mr)) : PE X (.List es pos) (tE X.K W (argM (lstD k) mr)) := PE.imp (pe_lst hr) fun t H Q h => by
  obtain ⟨r, s, w, rfl, env, st, hp⟩ := h
  exact hp.bind env st fun x d s1 w1 e1 st1 r1 hp1 => by
    unfold lstD at hp1
    split at hp1
    · rename_i hl
      exact ⟨by rw [r1.length]; exact hl, hp1.newL st1 r1⟩
    · exact hp1.elim
theorem ix_dict (hu : X.A.units + 1 < cLine) : IxR X (fun x y H Q => ∃ a v, x = .ref a ∧ DGet H a y (some v) ∧ Q v H) := fun value slice pins s t H x y v u Q I rx ry h hs => by
  obtain ⟨p, v', rfl, g, q⟩ := h
  obtain rfl : v = Value.ref p := rx
  exact tail_any (dict_typeIs I g) PySem.F.slot_dict_getitem.lookup (d_getItem hu I g ry fun z s3 I3 rz => ⟨v', H, I3, rz, q⟩) hs
theorem v_idx : VR2 X.K (fun x y H Q => rIx X.K x y H Q ∨ ∃ a v, x = .ref a ∧ DGet H a y (some v) ∧ Q v H) idxD := fun w s x y d e Q E st rx ry hp => by
  unfold idxD at hp
  split at hp
  · rename_i m hm
    obtain ⟨p, l, rfl, hd, kv⟩ := dctOf_ok st rx hm
    split at hp
    · rename_i k hk
      have ey := keyD_ok ry hk
      have g := getK_ok (k := k) kv
      cases eg : getK m k with
      | none => rw [eg] at hp; exact hp.elim
      | some d3 =>
        rw [eg] at g hp
        obtain ⟨v, hv, rv⟩ := g
        exact .inr ⟨p, v, rfl, .inl ⟨l, k, hd, ey, hv.symm⟩, hp.pure st rv⟩
    · exact hp.elim
  · rename_i nd
    cases ry with
    | int i =>
      dsimp only at hp
      cases d with
      | str z =>
        cases rx
        dsimp only at hp
        split at hp
        · rename_i hl
          cases ec : atI z.cps.toList i with
          | none => rw [ec] at hp; exact hp.elim
          | some c0 =>
            rw [ec] at hp
            exact .inl (.inr (.inr ⟨z, i, c0, rfl, rfl, hl, ec, hp.pure st (.str _)⟩))
        · exact hp.elim
      | tup l =>
        cases rx with
        | tup hh rs =>
          dsimp only at hp
          cases ec : atI l i with
          | none => rw [ec] at hp; exact hp.elim
          | some d3 =>
            rw [ec] at hp
            obtain ⟨v, hv, rv⟩ := atI_ok rs ec
            exact .inl (.inr (.inl ⟨_, _, i, v, rfl, rfl, hh.sq, hv, hp.pure st rv⟩))
      | _ =>
        dsimp only at hp
        split at hp
        · rename_i l el
          obtain ⟨p, vs, rfl, hh, rs⟩ := lstOf_ok st rx el
          cases ec : atI l i with
          | none => rw [ec] at hp; exact hp.elim
          | some d3 =>
            rw [ec] at hp
            obtain ⟨v, hv, rv⟩ := atI_ok rs ec
            exact .inl (.inl ⟨_, _, i, v, rfl, rfl, hh, hv, hp.pure st rv⟩)
        · exact hp.elim
    | _ => exact hp.elim
theorem e_idx (hu : X.A.units + 1 < cLine) (ha : PE X a (tE X.K W ma)) (hb : PE X b (tE X.K W mb)) (hs : PlainIx b := by exact fun _ _ => rfl) : PE X (.Subscript a b pos) (tE X.K W (binM idxD ma mb)) :=
  PE.imp (pe_ix (IxR.or ix_seq (ix_dict hu)) ha hb hs) fun t H Q h => by
    obtain ⟨r, s, w, rfl, env, st, hp⟩ := h
    exact hp.bind env st fun x d s1 w1 e1 st1 r1 hp1 => hp1.bind (env.ext e1) st1 fun y d2 s2 w2 e2 st2 r2 hp2 => v_idx w2 s2 x y d d2 Q _ st2 (r1.ext e2) r2 hp2
/-! ### slices -/
abbrev tO (K : Frag) (W : WX) (m : DM (Option Int)) : TO := tM K (fun _ (b c : Option Int) => b = c) W m
theorem PO.imp {e : Option Expr} {t t' : TO} (h : PO X e t) (i : ∀ σ H Q, t' σ H Q → t σ H Q) : PO X e t' := ⟨fun pins s σ H Q I q => h.run pins s σ H Q I (i _ _ _ q)⟩
theorem o_none : PO X none (tO X.K W (pureM none)) := PO.imp po_none fun t H Q h => by
  obtain ⟨r, s, w, rfl, env, st, hp⟩ := h
  exact hp.pure st rfl
theorem o_some (ha : PE X a (tE X.K W ma)) : PO X (some a) (tO X.K W (optM ma)) := PO.imp (po_some ha) fun t H Q h => by
  obtain ⟨r, s, w, rfl, env, st, hp⟩ := h
  exact hp.bind env st fun x d s1 w1 e1 st1 r1 hp1 => by
    cases r1 with
    | int i => exact ⟨i, rfl, hp1.pure st1 rfl⟩
    | _ => exact hp1.elim
theorem SlR.or {r r' : V → Option Int → Option Int → Hp → VK → Prop} (h : SlR X r) (h' : SlR X r') : SlR X (fun x l u H Q => r x l u H Q ∨ r' x l u H Q) := by
  unfold SlR at h h' ⊢
  intros
  rename_i q
  rcases q with q | q
  · apply h <;> assumption
  · apply h' <;> assumption
theorem e_sli {lo hi : Option Expr} {p2 : Pos} {ml mh : DM (Option Int)} (k : Bool) (ha : PE X a (tE X.K W ma)) (hl : PO X lo (tO X.K W ml)) (hh : PO X hi (tO X.K W mh)) : PE X (.Subscript a (.Slice lo hi none p2) pos) (tE X.K W (sliM k ma ml mh)) :=
  PE.imp (pe_slice (SlR.or sl_list (SlR.or sl_tupA sl_str)) ha hl hh) fun t H Q h => by
    obtain ⟨r, s, w, rfl, env, st, hp⟩ := h
    exact hp.bind env st fun x d s1 w1 e1 st1 r1 hp1 => hp1.bind (env.ext e1) st1 fun lo1 lo2 s2 w2 e2 st2 r2 hp2 => hp2.bind ((env.ext e1).ext e2) st2 fun hi1 hi2 s3 w3 e3 st3 r3 hp3 => by
      subst r2 r3
      have rx := (r1.ext e2).ext e3
      unfold sliD at hp3
      cases d with
      | str z =>
        cases rx
        dsimp only at hp3
        split at hp3
        · rename_i hl
          exact .inr (.inr ⟨z, rfl, hl, hp3.pure st3 (.str _)⟩)
        · exact hp3.elim
      | tup l =>
        cases rx with
        | tup hq rs =>
          refine .inr (.inl ⟨_, _, rfl, hq.sq, fun e => ?_, fun e => ?_⟩)
          · refine hp3.pure st3 (.tup hq ?_)
            have q := cutD_ok rs lo1 hi1
            unfold cutV at q
            rw [e.1, e.2, Nat.sub_zero, List.drop_zero, List.take_length] at q
            exact q
          · exact hp3.frz st3 fun p np => rep_newT st3 (cutD_ok rs lo1 hi1) np
      | _ =>
        dsimp only at hp3
        split at hp3
        · rename_i l el
          obtain ⟨p, vs, rfl, hq, rs⟩ := lstOf_ok st3 rx el
          exact .inl ⟨p, vs, rfl, hq, hp3.newL st3 (cutD_ok rs lo1 hi1)⟩
        · exact hp3.elim
/-! ### in, not in -/
end
end Mp
set_option Elab.async false
set_option linter.all false
set_option maxRecDepth 100000
set_option maxHeartbeats 4000000
/-! Mp: statements, loops. -/
namespace Mp
open PySem PySem.Spec PyProof.Rows L2
/-! ### on data -/
def seqS (a b : DS) : DS := fun r s => match a r s with
  | .nx r' s' => b r' s'
  | f => f
def skipS : DS := fun r s => .nx r s
def brkS : DS := fun r s => .bk r s
def cntS : DS := fun r s => .ct r s
def setS (i : Nat) (m : DE) : DS := thenS m fun d => fun r s => .nx (r.set i (some d)) s
def exprS (m : DE) : DS := thenS m fun _ => fun r s => .nx r s
def retS (m : DE) : DS := thenS m fun d => fun _ s => .rt d s
def retN : DS := fun _ s => .rt .non s
def ifS (c : DM Bool) (a b : DS) : DS := thenS c fun k => if k = true then a else b
def nameG (i : Nat) : DG := fun d r s => some (r.set i (some d), s)
abbrev DGs := List D → En → Sto → Option (En × Sto)
def nilG : DGs := fun ds r s => match ds with
  | [] => some (r, s)
  | _ => none
def consG (g : DG) (h : DGs) : DGs := fun ds r s => match ds with
  | d :: l => (g d r s).bind fun p => h l p.1 p.2
  | [] => none
def tupG (n : Nat) (h : DGs) : DG := fun d r s => match seqOf s d with
  | some l => if l.length = n then h l r s else none
  | none => none
def asgS (m : DE) (g : DG) : DS := thenS m fun d => fun r s => match g d r s with
  | some p => .nx p.1 p.2
  | none => .bad
def par2S (i j : Nat) (m : DM (List D)) : DS := thenS m fun ds => fun r s => match ds with
  | [a, b] => .nx ((r.set i (some a)).set j (some b)) s
  | _ => .bad
def par3S (i j l : Nat) (m : DM (List D)) : DS := thenS m fun ds => fun r s => match ds with
  | [a, b, c] => .nx (((r.set i (some a)).set j (some b)).set l (some c)) s
  | _ => .bad
def augS (i : Nat) (f : D → D → Sto → Res D) (m : DE) : DS := thenS (binM f (vM i) m) fun d => fun r s => .nx (r.set i (some d)) s
def whileF (t : DM Bool) (b : DS) : Nat → DS
  | 0 => fun _ _ => .bad
  | n + 1 => fun r s => match t r s with
    | .ok k s1 => if k = true then (match b r s1 with
      | .nx r' s' => whileF t b n r' s'
      | .ct r' s' => whileF t b n r' s'
      | .bk r' s' => .nx r' s'
      | .rt d s' => .rt d s'
      | .exc C fs r' s' => .exc C fs r' s'
      | .bad => .bad) else .nx r s1
    | .exc C fs s1 => .exc C fs r s1
    | .bad => .bad
open Classical in
noncomputable def whileS (t : DM Bool) (b : DS) : DS := fun r s => if h : ∃ n, whileF t b n r s ≠ .bad then whileF t b (Classical.choose h) r s else .bad
/-- what a loop walks: its items; a cell that must stay as it is meanwhile -/
structure Src where
  its : List D
  cel : Option Nat
def SrcOk (c : Src) (s : Sto) : Prop := match c.cel with
  | none => True
  | some n => s[n]? = some (some (.lst c.its))
open Classical in
noncomputable def forF (c : Src) (g : DG) (b : DS) : List D → DS
  | [] => fun r s => if SrcOk c s then .nx r s else .bad
  | d :: l => fun r s => if SrcOk c s then (match g d r s with
    | none => .bad
    | some p => (match b p.1 p.2 with
      | .nx r' s' => forF c g b l r' s'
      | .ct r' s' => forF c g b l r' s'
      | .bk r' s' => .nx r' s'
      | .rt d s' => .rt d s'
      | .exc C fs r' s' => .exc C fs r' s'
      | .bad => .bad)) else .bad
noncomputable def forS (m : DM Src) (g : DG) (b : DS) : DS := thenS m fun c => forF c g b c.its
theorem whileF_mono {t : DM Bool} {b : DS} : ∀ {n : Nat} {r : En} {s : Sto}, whileF t b n r s ≠ .bad → ∀ m, n ≤ m → whileF t b m r s = whileF t b n r s
  | 0, _, _, h, _, _ => absurd rfl h
  | n + 1, r, s, h, 0, hm => by omega
  | n + 1, r, s, h, m + 1, hm => by
    unfold whileF at h ⊢
    cases e : t r s with
    | ok k s1 =>
      simp only [e] at h ⊢
      cases k with
      | false => rfl
      | true =>
        simp only [if_true] at h ⊢
        cases e2 : b r s1 with
        | nx r' s' =>
          simp only [e2] at h ⊢
          exact whileF_mono h m (by omega)
        | ct r' s' =>
          simp only [e2] at h ⊢
          exact whileF_mono h m (by omega)
        | _ => rfl
    | _ => rfl
theorem whileS_of {t : DM Bool} {b : DS} {n : Nat} {r : En} {s : Sto} (h : whileF t b n r s ≠ .bad) : whileS t b r s = whileF t b n r s := by
  unfold whileS
  have hx : ∃ n, whileF t b n r s ≠ .bad := ⟨n, h⟩
  rw [dif_pos hx]
  have h2 := Classical.choose_spec hx
  rcases Nat.le_total n (Classical.choose hx) with q | q
  · exact whileF_mono h _ q
  · exact (whileF_mono h2 _ q).symm
/-- one turn -/
theorem whileS_eq {t : DM Bool} {b : DS} {r : En} {s : Sto} : whileS t b r s = (match t r s with
    | .ok k s1 => if k = true then (match b r s1 with
      | .nx r' s' => whileS t b r' s'
      | .ct r' s' => whileS t b r' s'
      | .bk r' s' => .nx r' s'
      | .rt d s' => .rt d s'
      | .exc C fs r' s' => .exc C fs r' s'
      | .bad => .bad) else .nx r s1
    | .exc C fs s1 => .exc C fs r s1
    | .bad => .bad) := by
  have turn : ∀ r' s' n, whileF t b n r' s' = .bad ∨ whileF t b n r' s' = whileS t b r' s' := fun r' s' n => by
    by_cases h : whileF t b n r' s' = .bad
    · exact .inl h
    · exact .inr (whileS_of h).symm
  have nox : ∀ r' s', (∀ n, whileF t b n r' s' = .bad) → whileS t b r' s' = .bad := fun r' s' h => by
    unfold whileS
    rw [dif_neg]
    rintro ⟨n, hn⟩
    exact hn (h n)
  by_cases hx : ∃ n, whileF t b n r s ≠ .bad
  · obtain ⟨n, hn⟩ := hx
    rw [whileS_of hn]
    cases n with
    | zero => exact absurd rfl hn
    | succ n =>
      unfold whileF at hn ⊢
      cases e : t r s with
      | ok k s1 =>
        simp only [e] at hn ⊢
        cases k with
        | false => rfl
        | true =>
          simp only [if_true] at hn ⊢
          cases e2 : b r s1 with
          | nx r' s' =>
            simp only [e2] at hn ⊢
            exact (whileS_of hn).symm
          | ct r' s' =>
            simp only [e2] at hn ⊢
            exact (whileS_of hn).symm
          | _ => rfl
      | _ => rfl
  · have hb : ∀ n, whileF t b n r s = .bad := fun n => Classical.byContradiction fun h => hx ⟨n, h⟩
    rw [nox r s hb]
    have h1 := fun n => hb (n + 1)
    unfold whileF at h1
    cases e : t r s with
    | ok k s1 =>
      simp only [e] at h1 ⊢
      cases k with
      | false => exact (h1 0).symm
      | true =>
        simp only [if_true] at h1 ⊢
        cases e2 : b r s1 with
        | nx r' s' =>
          simp only [e2] at h1 ⊢
          exact (nox r' s' h1).symm
        | ct r' s' =>
          simp only [e2] at h1 ⊢
          exact (nox r' s' h1).symm
        | bk r' s' => simp only [e2] at h1; exact (h1 0).symm
        | rt d s' => simp only [e2] at h1; exact (h1 0).symm
        | exc C fs r' s' => simp only [e2] at h1; exact (h1 0).symm
        | bad => rfl
    | exc C fs s1 => simp only [e] at h1; exact (h1 0).symm
    | bad => rfl
/-! ### soundness -/
section
variable {X : Cx} {W : WX} {a b c : Expr} {es : List Expr} {pos : Pos} {ma mb mc : DE} {mr : DM (List D)} {st st2 : Stmt} {rest : List Stmt} {m1 m2 : DS}
theorem s_nil : PSs X [] (tS X.K W skipS) := PSs.imp pss_nil fun E t H h => by
  obtain ⟨r, s, w, rfl, env, st, hp⟩ := h
  exact hp t w (Ext.refl w) env st
theorem seq_imp {E : Ends} {t : L2.St} {H : Hp} {K : Frag} (h : tS K W (seqS m1 m2) E t H) : tSeq (tS K W m1) (tS K W m2) E t H := by
  obtain ⟨r, s, w, rfl, env, st, hp⟩ := h
  refine ⟨r, s, w, rfl, env, st, ?_⟩
  unfold seqS at hp
  cases e : m1 r s with
  | nx r' s' =>
    rw [e] at hp
    exact fun t' w' e' env' st' => ⟨r', s', w', rfl, env', st', hp.ext e'⟩
  | rt d s' => rw [e] at hp; exact hp
  | bk r' s' => rw [e] at hp; exact hp
  | ct r' s' => rw [e] at hp; exact hp
  | exc C fs r' s' => rw [e] at hp; exact hp
  | bad => rw [e] at hp; exact hp
theorem s_cons (h1 : PS X st (tS X.K W m1)) (h2 : PSs X rest (tS X.K W m2)) : PSs X (st :: rest) (tS X.K W (seqS m1 m2)) := PSs.imp (pss_cons h1 h2) fun E t H h => seq_imp h
theorem s_one (h1 : PS X st (tS X.K W m1)) : PSs X [st] (tS X.K W m1) := pss_one h1
theorem s_expr (he : PE X a (tE X.K W ma)) (hs : swapsWith a none pos.line X.env = pure false := by rfl) : PS X (.Expr a pos) (tS X.K W (exprS ma)) := PS.imp (ps_expr he hs) fun E t H h => by
  obtain ⟨r, s, w, rfl, env, st, hp⟩ := h
  exact hp.bind env st fun x d s1 w1 e1 st1 r1 hp1 => hp1 t w1 (Ext.refl w1) (env.ext e1) st1
theorem s_ret (he : PE X a (tE X.K W ma)) : PS X (.Return (some a) pos) (tS X.K W (retS ma)) := PS.imp (ps_ret he) fun E t H h => by
  obtain ⟨r, s, w, rfl, env, st, hp⟩ := h
  exact hp.bind env st fun x d s1 w1 e1 st1 r1 hp1 => hp1 x w1 (Ext.refl w1) st1 r1
theorem s_if {mt : DM Bool} {s1 s2 : List Stmt} (hc : PT X c (tT X.K W mt)) (ha : PSs X s1 (tS X.K W m1)) (hb : PSs X s2 (tS X.K W m2)) : PS X (.If c s1 s2 pos) (tS X.K W (ifS mt m1 m2)) := PS.imp (ps_if hc ha hb) fun E t H h => by
  obtain ⟨r, s, w, rfl, env, st, hp⟩ := h
  exact hp.bind env st fun x d s1 w1 e1 st1 r1 hp1 => by
    subst r1
    cases x with
    | true => exact ⟨r, s1, w1, rfl, env.ext e1, st1, hp1⟩
    | false => exact ⟨r, s1, w1, rfl, env.ext e1, st1, hp1⟩
theorem s_set {i : Nat} {x : Str} {pos' : Pos} (hN : X.N.Nodup) (hi : X.N[i]? = some x) (hx : Loc X.env.scope x) (he : PE X a (tE X.K W ma)) (hs : swapsWith a (some (.Name x pos')) pos.line X.env = pure false := by rfl)
    (hf : X.fn x = true ∨ X.env.scope.names.lookup x = some .local := by first | exact .inl rfl | exact .inr rfl | assumption) : PS X (.Assign [.Name x pos'] a pos) (tS X.K W (setS i ma)) := PS.imp (ps_set hN hi hx he hs hf) fun E t H h => by
  obtain ⟨r, s, w, rfl, env, st, hp⟩ := h
  exact hp.bind env st fun x d s1 w1 e1 st1 r1 hp1 => hp1 _ w1 (Ext.refl w1) ((env.ext e1).set r1 i) st1
/-! targets -/
def tG (K : Frag) (g : DG) : TG := fun v t H Q => ∃ r s w d, w.H = H ∧ EnvR K w r t ∧ StR K w s ∧ Rep K w v d ∧ (match g d r s with
  | some p => ∀ t' w', Ext w w' → EnvR K w' p.1 t' → StR K w' p.2 → Q t' w'.H
  | none => False)
def tGs (K : Frag) (g : DGs) : TGs := fun vs t H Q => ∃ r s w ds, w.H = H ∧ EnvR K w r t ∧ StR K w s ∧ Reps K w vs ds ∧ (match g ds r s with
  | some p => ∀ t' w', Ext w w' → EnvR K w' p.1 t' → StR K w' p.2 → Q t' w'.H
  | none => False)
theorem PG.imp {tg : Expr} {t t' : TG} (h : PG X tg t) (i : ∀ v σ H Q, t' v σ H Q → t v σ H Q) : PG X tg t' := ⟨fun pins s σ H v u Q I r q => h.run pins s σ H v u Q I r (i _ _ _ _ q)⟩
theorem PGs.imp {tg : List Expr} {t t' : TGs} (h : PGs X tg t) (i : ∀ v σ H Q, t' v σ H Q → t v σ H Q) : PGs X tg t' := ⟨fun pins s σ H v u Q I r q => h.run pins s σ H v u Q I r (i _ _ _ _ q)⟩
theorem PG.or {tg : Expr} {t t' : TG} (h : PG X tg t) (h' : PG X tg t') : PG X tg (fun v σ H Q => t v σ H Q ∨ t' v σ H Q) := ⟨fun pins s σ H v u Q I r q => q.elim (h.run pins s σ H v u Q I r) (h'.run pins s σ H v u Q I r)⟩
theorem g_name {i : Nat} {x : Str} (hN : X.N.Nodup) (hi : X.N[i]? = some x) (hx : Loc X.env.scope x) (hf : X.fn x = true ∨ X.env.scope.names.lookup x = some .local := by first | exact .inl rfl | exact .inr rfl | assumption) : PG X (.Name x pos) (tG X.K (nameG i)) :=
  PG.imp (pg_name hN hi hx hf) fun v t H Q h => by
    obtain ⟨r, s, w, d, rfl, env, st, rv, hp⟩ := h
    exact hp _ w (Ext.refl w) (env.set rv i) st
theorem gs_nil : PGs X [] (tGs X.K nilG) := PGs.imp pgs_nil fun v t H Q h => by
  obtain ⟨r, s, w, ds, rfl, env, st, rv, hp⟩ := h
  cases rv with
  | nil => exact ⟨rfl, hp _ w (Ext.refl w) env st⟩
  | cons _ _ => exact hp.elim
theorem gs_cons {g : DG} {g2 : DGs} (h1 : PG X a (tG X.K g)) (h2 : PGs X es (tGs X.K g2)) (hs : (assignEach (a :: es) X.env).map (·.2) = assign a X.env :: (assignEach es X.env).map (·.2) := by rfl) : PGs X (a :: es) (tGs X.K (consG g g2)) :=
  PGs.imp (pgs_cons h1 h2 hs) fun v t H Q h => by
    obtain ⟨r, s, w, ds, rfl, env, st, rv, hp⟩ := h
    cases rv with
    | nil => exact hp.elim
    | @cons v d vs ds r1 r2 =>
      refine ⟨v, vs, rfl, r, s, w, d, rfl, env, st, r1, ?_⟩
      unfold consG at hp
      dsimp only at hp
      cases e : g d r s with
      | none => rw [e] at hp; exact hp.elim
      | some p =>
        rw [e] at hp
        refine fun t' w' e' env' st' => ⟨p.1, p.2, w', ds, rfl, env', st', r2.ext e', ?_⟩
        have hp' : (match g2 ds p.1 p.2 with
          | some p => ∀ t' w', Ext w w' → EnvR X.K w' p.1 t' → StR X.K w' p.2 → Q t' w'.H
          | none => False) := hp
        cases e2 : g2 ds p.1 p.2 with
        | none => rw [e2] at hp'; exact hp'.elim
        | some p2 =>
          rw [e2] at hp'
          exact fun t2 w2 x2 => hp' t2 w2 (e'.trans x2)
theorem g_tup {k n : Nat} {g : DGs} (hc : X.calm = true) (h : PGs X es (tGs X.K g)) (hn : (assignEach es X.env).length = n := by rfl) (hst : (assignEach es X.env).findIdx? (·.1) = none := by rfl) : PG X (.Tuple es k pos) (tG X.K (tupG n g)) :=
  PG.imp (PG.or (pg_tup hc h hn hst) (pg_lst hc h hn hst)) fun v t H Q h => by
    obtain ⟨r, s, w, d, rfl, env, st, rv, hp⟩ := h
    unfold tupG at hp
    cases e : seqOf s d with
    | none => rw [e] at hp; exact hp.elim
    | some l =>
      rw [e] at hp
      dsimp only at hp
      obtain ⟨p, vs, rfl, hq, rs⟩ := seqOf_ok st rv e
      by_cases hl : l.length = n
      · rw [if_pos hl] at hp
        have hin : tGs X.K g vs t w.H Q := ⟨r, s, w, l, rfl, env, st, rs, hp⟩
        rcases hq with hq | hq
        · exact .inr ⟨p, vs, rfl, hq, by rw [rs.length, hl], hin⟩
        · exact .inl ⟨p, vs, rfl, hq, by rw [rs.length, hl], hin⟩
      · rw [if_neg hl] at hp
        exact hp.elim
theorem s_asg {tg : Expr} {g : DG} (he : PE X a (tE X.K W ma)) (hg : PG X tg (tG X.K g)) (hs : swapsWithSole [tg] a pos.line X.env = pure false := by rfl) (hw : swappedStores [tg] a X.env = pure none := by rfl)
    (h1 : (assignEach [tg] X.env).map (·.2) = [assign tg X.env] := by rfl) : PS X (.Assign [tg] a pos) (tS X.K W (asgS ma g)) := PS.imp (ps_asg he hg hs hw h1) fun E t H h => by
  obtain ⟨r, s, w, rfl, env, st, hp⟩ := h
  exact hp.bind env st fun x d s1 w1 e1 st1 r1 hp1 => by
    refine ⟨r, s1, w1, d, rfl, env.ext e1, st1, r1, ?_⟩
    cases e : g d r s1 with
    | none => rw [e] at hp1; exact hp1.elim
    | some p =>
      rw [e] at hp1
      exact hp1
theorem s_par2 {i j : Nat} {x y : Str} {px py pt : Pos} {kt k2 : Nat} {pt2 : Pos} (hc : X.calm = true) (hN : X.N.Nodup) (hi : X.N[i]? = some x) (hj : X.N[j]? = some y) (hij : i ≠ j) (hx : X.env.scope.names.lookup x = some .local) (hy : X.env.scope.names.lookup y = some .local)
    (ha : PA X [a, b] (tA X.K W mr)) (hw : swappedStores [.Tuple [.Name x px, .Name y py] kt pt] (.Tuple [a, b] k2 pt2) X.env = pure (some [x, y]) := by rfl)
    (hs : swapsWithSole [.Tuple [.Name x px, .Name y py] kt pt] (.Tuple [a, b] k2 pt2) pos.line X.env = pure false := by rfl) :
    PS X (.Assign [.Tuple [.Name x px, .Name y py] kt pt] (.Tuple [a, b] k2 pt2) pos) (tS X.K W (par2S i j mr)) := PS.imp (ps_par hc hN hi hj hij hx hy ha hw hs) fun E t H h => by
  obtain ⟨r, s, w, rfl, env, st, hp⟩ := h
  exact hp.bind env st fun vs ds s1 w1 e1 st1 r1 hp1 => by
    cases r1 with
    | nil => exact hp1.elim
    | cons q1 r2 =>
      cases r2 with
      | nil => exact hp1.elim
      | cons q2 r3 =>
        cases r3 with
        | nil => exact ⟨_, _, rfl, hp1 _ w1 (Ext.refl w1) (((env.ext e1).set q1 i).set q2 j) st1⟩
        | cons _ _ => exact hp1.elim
/-! while -/
theorem s_while {mt : DM Bool} {body : List Stmt} {mb : DS} (hp : PassesOwn (model X.prog X.w) X.A X.env X.xe) (hc : PT X c (tT X.K W mt)) (hb : PSs X body (tS X.K W mb)) : PS X (.While c body [] pos) (tS X.K W (whileS mt mb)) :=
  PS.imp (ps_while hp hc hb) fun E t H h => by
    obtain ⟨r, s, w, rfl, env, st, hp⟩ := h
    have hx : ∃ n, whileF mt mb n r s ≠ .bad := by
      apply Classical.byContradiction
      intro hx
      unfold whileS at hp
      rw [dif_neg hx] at hp
      exact hp.elim
    obtain ⟨n, hn⟩ := hx
    rw [whileS_of hn] at hp
    refine ⟨fun m t H => ∃ r s w, w.H = H ∧ EnvR X.K w r t ∧ StR X.K w s ∧ PostS X.K w W E (whileF mt mb m r s), ⟨n, r, s, w, rfl, env, st, hp⟩, fun m t H h => ?_⟩
    obtain ⟨r, s, w, rfl, env, st, hp⟩ := h
    cases m with
    | zero => exact hp.elim
    | succ m =>
      have hp' : PostS X.K w W E (thenS mt (fun k => if k = true then (fun r s => match mb r s with
        | .nx r' s' => whileF mt mb m r' s'
        | .ct r' s' => whileF mt mb m r' s'
        | .bk r' s' => .nx r' s'
        | .rt d s' => .rt d s'
        | .exc C fs r' s' => .exc C fs r' s'
        | .bad => .bad) else fun r s => .nx r s) r s) := by
        unfold whileF at hp
        unfold thenS
        cases e : mt r s with
        | ok k s1 =>
          rw [e] at hp
          cases k with
          | true => exact hp
          | false => exact hp
        | exc C fs s1 => rw [e] at hp; exact hp
        | bad => rw [e] at hp; exact hp
      exact hp'.bind env st fun x d s1 w1 e1 st1 r1 hp1 => by
        subst r1
        cases x with
        | false => exact hp1 t w1 (Ext.refl w1) (env.ext e1) st1
        | true =>
          have hp2 : PostS X.K w1 W E (match mb r s1 with
            | .nx r' s' => whileF mt mb m r' s'
            | .ct r' s' => whileF mt mb m r' s'
            | .bk r' s' => .nx r' s'
            | .rt d s' => .rt d s'
            | .exc C fs r' s' => .exc C fs r' s'
            | .bad => .bad) := hp1
          show (if true = true then _ else _)
          rw [if_pos rfl]
          refine ⟨fun t' H' => ∃ r s w, w.H = H' ∧ EnvR X.K w r t' ∧ StR X.K w s ∧ PostS X.K w W E (whileF mt mb m r s), fun t' H' q => ⟨m, Nat.lt_succ_self m, q⟩, r, s1, w1, rfl, env.ext e1, st1, ?_⟩
          cases e : mb r s1 with
          | nx r' s' =>
            rw [e] at hp2
            exact fun t' w' x' env' st' => ⟨r', s', w', rfl, env', st', hp2.ext x'⟩
          | ct r' s' =>
            rw [e] at hp2
            exact fun t' w' x' env' st' => ⟨r', s', w', rfl, env', st', hp2.ext x'⟩
          | bk r' s' => rw [e] at hp2; exact hp2
          | rt d s' => rw [e] at hp2; exact hp2
          | exc C fs r' s' => rw [e] at hp2; exact hp2
          | bad => rw [e] at hp2; exact hp2
/-! for -/
/-- an iterator that yields these -/
structure ItR (K : Frag) (w0 : Wd) (J : It) (c : Src) : Prop where
  go : ∀ (i : Nat) (d : D) (w : Wd) (s : Sto), c.its[i]? = some d → Ext w0 w → StR K w s → SrcOk c s → J.go i w.H ∧ ∀ x H', J.yld i w.H x H' → ∃ w', Ext w w' ∧ w'.H = H' ∧ StR K w' s ∧ Rep K w' x d
  stop : ∀ (w : Wd) (s : Sto), Ext w0 w → StR K w s → SrcOk c s → J.stop c.its.length w.H
abbrev tI (K : Frag) (W : WX) (m : DM Src) : TI := tM K (ItR K) W m
theorem PI.imp {tg iter : Expr} {t t' : TI} (h : PI X tg iter t) (i : ∀ σ H Q, t' σ H Q → t σ H Q) : PI X tg iter t' := ⟨fun pins s σ H Q I q => h.run pins s σ H Q I (i _ _ _ q)⟩
theorem PI.or {tg iter : Expr} {t t' : TI} (h : PI X tg iter t) (h' : PI X tg iter t') : PI X tg iter (fun σ H Q => t σ H Q ∨ t' σ H Q) := ⟨fun pins s σ H Q I q => q.elim (h.run pins s σ H Q I) (h'.run pins s σ H Q I)⟩
theorem s_for {tg iter : Expr} {body : List Stmt} {mi : DM Src} {g : DG} {mb : DS} (hp : PassesOwn (model X.prog X.w) X.A X.env X.xe) (hc : X.calm = true) (hi : PI X tg iter (tI X.K W mi)) (hg : PG X tg (tG X.K g)) (hb : PSs X body (tS X.K W mb))
    (hs : ∀ x, foldedSetIterable iter X.env x = pure x := by intro _; rfl) : PS X (.For tg iter body [] pos) (tS X.K W (forS mi g mb)) := PS.imp (ps_for hp hc hi hg hb hs) fun E t H h => by
  obtain ⟨r, s, w, rfl, env, st, hp⟩ := h
  exact hp.bind env st fun J sc s1 w1 e1 st1 r1 hp1 => by
    obtain ⟨its, cl⟩ := sc
    refine ⟨fun i m t H => i + m = its.length ∧ ∃ r s w, w.H = H ∧ Ext w1 w ∧ EnvR X.K w r t ∧ StR X.K w s ∧ PostS X.K w W E (forF ⟨its, cl⟩ g mb (its.drop i) r s), ⟨its.length, Nat.zero_add _, r, s1, w1, rfl, Ext.refl w1, env.ext e1, st1, hp1⟩, fun i m t H h => ?_⟩
    obtain ⟨him, r, s, w, rfl, ex, env, st, hp⟩ := h
    cases m with
    | zero =>
      have hi : i = its.length := by omega
      subst hi
      rw [List.drop_length] at hp
      unfold forF at hp
      by_cases ck : SrcOk ⟨its, cl⟩ s
      · rw [if_pos ck] at hp
        exact .inl ⟨r1.stop w s ex st ck, hp t w (Ext.refl w) env st⟩
      · rw [if_neg ck] at hp
        exact hp.elim
    | succ m =>
      have hlt : i < its.length := by omega
      have hd : its[i]? = some its[i] := List.getElem?_eq_getElem hlt
      rw [List.drop_eq_getElem_cons hlt] at hp
      unfold forF at hp
      by_cases ck : SrcOk ⟨its, cl⟩ s
      rotate_left
      · rw [if_neg ck] at hp
        exact hp.elim
      rw [if_pos ck] at hp
      obtain ⟨hgo, hy⟩ := r1.go i _ w s hd ex st ck
      refine .inr ⟨hgo, fun t' H' => i + 1 + m = its.length ∧ ∃ r s w, w.H = H' ∧ Ext w1 w ∧ EnvR X.K w r t' ∧ StR X.K w s ∧ PostS X.K w W E (forF ⟨its, cl⟩ g mb (its.drop (i + 1)) r s), fun t' H' q => ⟨m, Nat.lt_succ_self m, q⟩, fun x H' yl => ?_⟩
      obtain ⟨w2, x2, rfl, st2, rx⟩ := hy x H' yl
      refine ⟨r, s, w2, its[i], rfl, env.ext x2, st2, rx, ?_⟩
      cases eg : g its[i] r s with
      | none => rw [eg] at hp; exact hp.elim
      | some p =>
        rw [eg] at hp
        have hp3 := hp.ext x2
        refine fun t3 w3 x3 env3 st3 => ⟨p.1, p.2, w3, rfl, env3, st3, ?_⟩
        have hp4 := hp3.ext x3
        dsimp only at hp4
        cases e : mb p.1 p.2 with
        | nx r' s' =>
          rw [e] at hp4
          exact fun t' w' x' env' st' => ⟨by omega, r', s', w', rfl, ((ex.trans x2).trans x3).trans x', env', st', hp4.ext x'⟩
        | ct r' s' =>
          rw [e] at hp4
          exact fun t' w' x' env' st' => ⟨by omega, r', s', w', rfl, ((ex.trans x2).trans x3).trans x', env', st', hp4.ext x'⟩
        | bk r' s' => rw [e] at hp4; exact hp4
        | rt d s' => rw [e] at hp4; exact hp4
        | exc C fs r' s' => rw [e] at hp4; exact hp4
        | bad => rw [e] at hp4; exact hp4
end
end Mp
set_option Elab.async false
set_option linter.all false
set_option maxRecDepth 100000
set_option maxHeartbeats 4000000
/-! Mp: what is walked; comprehensions. -/
namespace Mp
open PySem PySem.Spec PyProof.Rows L2
def chars (z : Str) : List D := z.cps.toList.map fun c => .str ⟨#[c]⟩
def keyV : Key → D
  | .inl i => .int i
  | .inr z => .str z
/-- what a plain value yields -/
def srcD (s : Sto) : D → Option Src
  | .tup l => some ⟨l, none⟩
  | .kot l => some ⟨l, none⟩
  | .lst l => some ⟨l, none⟩
  | .rol l => some ⟨l, none⟩
  | .str z => some ⟨chars z, none⟩
  | .dct m => some ⟨m.map fun p => keyV p.1, none⟩
  | .cel n => (match s[n]? with
    | some (some (.lst l)) => some ⟨l, some n⟩
    | _ => none)
  | _ => none
/-- a dict that is walked is locked from now on -/
def lockD (s : Sto) : D → Option (List (Key × D) × Sto)
  | .dct m => some (m, s)
  | .cel n => (match s[n]? with
    | some (some (.dct m)) => some (m, s.set n (some (.rod m)))
    | some (some (.rod m)) => some (m, s)
    | _ => none)
  | _ => none
def srcM (s : Sto) (x : D) : Res Src := match lockD s x with
  | some p => .ok ⟨p.1.map fun p => keyV p.1, none⟩ p.2
  | none => okO s (srcD s x)
def seqI (a : DE) : DM Src := bindM a fun x => fun _ s => srcM s x
def intL (lo : Int) (n : Nat) : List D := (List.range n).map fun k => .int (lo + (k : Nat))
@[irreducible] def rangeD1 (ds : List D) (s : Sto) : Res Src := match ds with
  | [.int j] => if -(2 ^ 62) ≤ j ∧ j < 2 ^ 62 then .ok ⟨intL 0 j.toNat, none⟩ s else .bad
  | _ => .bad
def argI (f : List D → Sto → Res Src) (m : DM (List D)) : DM Src := bindM m fun ds => fun _ s => f ds s
/-! ### soundness -/
section
variable {X : Cx} {tg : Expr} {pins : List (Addr × Obj)} {t : L2.St} {H : Hp} {s1 : Shared} {R : It → Hp → Prop} {E : Value → Shared → Prop}
theorem it_list {p : Addr} {xs : List V} (I : Inv X pins t H s1) (hq : SqL X.K H p xs) (q : R (Itl X.K p) H) : wpAny (model X.prog X.w) X.A (pyIter (.ref p)) (PIE X pins t tg R) E s1 := by
  obtain ⟨vs, _, pl, _⟩ := I.list hq
  refine wpAny_pyIter_list pl.isList ⟨s1.heap.objs.size, [s1.heap.objs.size], _, _, H, rfl, I.kept (t' := s1.toks) fun _ _ z => Heap.get?_push_of_some _ z, turn_list p _, ⟨_, Heap.get?_push_size _ rfl, rfl, rfl⟩, fun z hz => ?_, q⟩
  cases List.mem_singleton.mp hz
  exact I.fpOk (Nat.le_refl _) (I.hok.fresh (Nat.le_refl _))
theorem it_tup {p : Addr} {xs : List V} (I : Inv X pins t H s1) (hq : SqT X.K H p xs) (q : R (Itt X.K p) H) : wpAny (model X.prog X.w) X.A (pyIter (.ref p)) (PIE X pins t tg R) E s1 := by
  obtain ⟨vs, _, pl, _⟩ := I.tuple hq
  refine wpAny_pyIter_tuple (show s1.heap.IsTuple p vs.toArray from pl) ⟨s1.heap.objs.size, [s1.heap.objs.size], _, _, H, rfl, I.kept (t' := s1.toks) fun _ _ z => Heap.get?_push_of_some _ z, turn_tuple p _, ⟨_, Heap.get?_push_size _ rfl, rfl, rfl⟩, fun z hz => ?_, q⟩
  cases List.mem_singleton.mp hz
  exact I.fpOk (Nat.le_refl _) (I.hok.fresh (Nat.le_refl _))
theorem it_str {x : Str} {k : Tok} (I : Inv X pins t H s1) (q : R (Its x) H) : wpAny (model X.prog X.w) X.A (pyIter (.str x k)) (PIE X pins t tg R) E s1 := by
  cases ha : x.cps.all (· < 128)
  · refine wpAny_pyIter_wide ha (pi_one (tk := s1.toks) I _ (turn_str _ x k "str_iterator" (Or.inr rfl)) ⟨_, Heap.get?_push_size _ rfl, rfl, rfl⟩ q)
  · refine wpAny_pyIter_ascii ha (pi_one (tk := s1.toks) I _ (turn_str _ x k "str_ascii_iterator" (Or.inl rfl)) ⟨_, Heap.get?_push_size _ rfl, rfl, rfl⟩ q)
end
theorem it_keys {X : Cx} {tg : Expr} {pins : List (Addr × Obj)} {t : L2.St} {H : Hp} {s1 : Shared} {R : It → Hp → Prop} {E : Value → Shared → Prop} {p : Addr} {o : Obj} {l : List (Key × V)} (I : Inv X pins t H s1) (hd : H p = some (.frz o (.dK l))) (q : R (Itk p o l) H) : wpAny (model X.prog X.w) X.A (pyIter (.ref p)) (PIE X pins t tg R) E s1 := by
  obtain ⟨hs, hg, hx, es, ep, vs, hdt, hsz, _, _⟩ := I.frzK hd
  refine iter_keys hs hg hx hdt (pi_one (tk := s1.toks) I _ (turn_keys _ hdt) ⟨_, Heap.get?_push_size _ rfl, rfl, by rw [hsz] <;> rfl⟩ q)
section
variable {K : Frag} {w : Wd}
theorem itR_list {p : Addr} {vs : List V} {ds : List D} (h : LAt K w p vs) (rs : Reps K w vs ds) : ItR K w (Itl K p) ⟨ds, none⟩ where
  go := fun i d w' s hd e st _ => by
    obtain ⟨v, hv, rv⟩ := rs.get hd
    refine ⟨⟨vs, v, (h.ext e).sq, hv⟩, fun x H' y => ?_⟩
    obtain ⟨rfl, y⟩ := y
    have e2 := (y vs (h.ext e).sq).symm.trans hv
    cases e2
    exact ⟨w', Ext.refl w', rfl, st, rv.ext e⟩
  stop := fun w' s e st _ => ⟨vs, (h.ext e).sq, by rw [rs.length]; exact Nat.le_refl _⟩
theorem itR_cell {p : Addr} {n : Nat} {ds : List D} (h : w.A n = some p) : ItR K w (Itl K p) ⟨ds, some n⟩ where
  go := fun i d w' s hd e st ck => by
    obtain ⟨a1, h1, _, vs, hh, rs⟩ := st.at_ n _ ck
    have ea : a1 = p := Option.some.inj (h1.symm.trans (e.A n p h))
    subst ea
    obtain ⟨v, hv, rv⟩ := rs.get hd
    refine ⟨⟨vs, v, SqL.of hh, hv⟩, fun x H' y => ?_⟩
    obtain ⟨rfl, y⟩ := y
    have e2 := (y vs (SqL.of hh)).symm.trans hv
    cases e2
    exact ⟨w', Ext.refl w', rfl, st, rv⟩
  stop := fun w' s e st ck => by
    obtain ⟨a1, h1, _, vs, hh, rs⟩ := st.at_ n _ ck
    have ea : a1 = p := Option.some.inj (h1.symm.trans (e.A n p h))
    subst ea
    exact ⟨vs, SqL.of hh, by rw [rs.length]; exact Nat.le_refl _⟩
theorem itR_kot {p : Addr} {vs : List V} {ds : List D} (h : KT K p vs) (rs : Reps K w vs ds) : ItR K w (Itt K p) ⟨ds, none⟩ where
  go := fun i d w' s hd e st _ => by
    obtain ⟨v, hv, rv⟩ := rs.get hd
    refine ⟨⟨vs, v, .inr h, hv⟩, fun x H' y => ?_⟩
    obtain ⟨rfl, y⟩ := y
    have e2 := (y vs (.inr h)).symm.trans hv
    cases e2
    exact ⟨w', Ext.refl w', rfl, st, rv.ext e⟩
  stop := fun w' s e st _ => ⟨vs, .inr h, by rw [rs.length]; exact Nat.le_refl _⟩
theorem itR_tup {p : Addr} {vs : List V} {ds : List D} (h : TAt K w p vs) (rs : Reps K w vs ds) : ItR K w (Itt K p) ⟨ds, none⟩ where
  go := fun i d w' s hd e st _ => by
    obtain ⟨v, hv, rv⟩ := rs.get hd
    refine ⟨⟨vs, v, (h.ext e).sq, hv⟩, fun x H' y => ?_⟩
    obtain ⟨rfl, y⟩ := y
    have e2 := (y vs (h.ext e).sq).symm.trans hv
    cases e2
    exact ⟨w', Ext.refl w', rfl, st, rv.ext e⟩
  stop := fun w' s e st _ => ⟨vs, (h.ext e).sq, by rw [rs.length]; exact Nat.le_refl _⟩
theorem itR_str {x : Str} : ItR K w (Its x) ⟨chars x, none⟩ where
  go := fun i d w' s hd e st _ => by
    have hd' : (x.cps.toList.map fun c => D.str ⟨#[c]⟩)[i]? = some d := hd
    rw [List.getElem?_map, Array.getElem?_toList] at hd'
    cases q : x.cps[i]? with
    | none => rw [q] at hd'; cases hd'
    | some c =>
      rw [q] at hd'
      have hl : i < x.cps.size := (Array.getElem?_eq_some_iff.mp q).1
      refine ⟨hl, fun y H' yl => ?_⟩
      obtain ⟨rfl, c2, q2, rfl⟩ := yl
      rw [q] at q2
      cases q2
      cases hd'
      exact ⟨w', Ext.refl w', rfl, st, .str _⟩
  stop := fun w' s e st _ => by
    show x.cps.size ≤ (x.cps.toList.map _).length
    rw [List.length_map, Array.length_toList]
    exact Nat.le_refl _
theorem itR_range {lo : Int} {n : Nat} : ItR K w (Itr lo n) ⟨intL lo n, none⟩ where
  go := fun i d w' s hd e st _ => by
    have hd' : ((List.range n).map fun k => D.int (lo + (k : Nat)))[i]? = some d := hd
    rw [List.getElem?_map] at hd'
    by_cases hi : i < n
    · rw [List.getElem?_range hi] at hd'
      cases hd'
      refine ⟨hi, fun x H' y => ?_⟩
      obtain ⟨rfl, rfl⟩ := y
      exact ⟨w', Ext.refl w', rfl, st, .int _⟩
    · rw [List.getElem?_eq_none (by rw [List.length_range]; omega)] at hd'
      cases hd'
  stop := fun w' s e st _ => by
    show n ≤ ((List.range n).map _).length
    rw [List.length_map, List.length_range]
    exact Nat.le_refl _
theorem rep_key {k : Key} : Rep K w (kV k) (keyV k) := by
  cases k with
  | inl i => exact .int i
  | inr z => exact .str z
theorem KVR.get {T : Type} : ∀ {l : List (T × V)} {m : List (T × D)} {i : Nat} {p : T × D}, KVR K w l m → m[i]? = some p → ∃ v, l[i]? = some (p.1, v) ∧ Rep K w v p.2
  | _, _, _, _, .nil, h => by simp at h
  | _, _, 0, _, .cons h _, e => by
    simp at e
    subst e
    exact ⟨_, rfl, h⟩
  | _, _, i + 1, _, .cons _ r, e => by
    simp at e
    obtain ⟨v, h1, h2⟩ := r.get e
    exact ⟨v, by simpa using h1, h2⟩
theorem itR_keys {p : Addr} {o : Obj} {l : List (Key × V)} {m : List (Key × D)} (z : w.Z p) (h : w.H p = some (.frz o (.dK l))) (r : KVR K w l m) : ItR K w (Itk p o l) ⟨m.map fun q => keyV q.1, none⟩ where
  go := fun i d w' s hd e st _ => by
    have hd' : (m.map fun q => keyV q.1)[i]? = some d := hd
    rw [List.getElem?_map] at hd'
    cases q : m[i]? with
    | none => rw [q] at hd'; cases hd'
    | some kd =>
      rw [q] at hd'
      cases hd'
      obtain ⟨v, hv, _⟩ := r.get q
      have hl : i < l.length := (List.getElem?_eq_some_iff.mp hv).1
      refine ⟨⟨(e.H p z).trans h, hl⟩, fun x H' y => ?_⟩
      obtain ⟨rfl, k2, v2, q2, rfl⟩ := y
      rw [hv] at q2
      cases q2
      exact ⟨w', Ext.refl w', rfl, st, rep_key⟩
  stop := fun w' s e st _ => ⟨(e.H p z).trans h, by
    show l.length ≤ (m.map _).length
    rw [List.length_map, r.length]
    exact Nat.le_refl _⟩
end
section
variable {X : Cx} {W : WX} {tg a b c : Expr} {es : List Expr} {pos p : Pos} {ma mb mc : DE} {mr : DM (List D)}
/-- a dict that is locked -/
theorem lock_ok {w : Wd} {s s' : Sto} {x : V} {d : D} {m : List (Key × D)} (st : StR X.K w s) (r : Rep X.K w x d) (h : lockD s d = some (m, s')) :
    ∃ a l, x = .ref a ∧ ((∃ o, w.Z a ∧ w.H a = some (.frz o (.dK l)) ∧ KVR X.K w l m ∧ s' = s) ∨ (w.H a = some (.dK l) ∧ ∀ o, Ext w (w.lock a (.frz o (.dK l))) ∧ StR X.K (w.lock a (.frz o (.dK l))) s' ∧ KVR X.K (w.lock a (.frz o (.dK l))) l m)) := by
  cases d with
  | dct m1 =>
    cases h
    obtain ⟨a, o, l, rfl, z, h1, h2⟩ := r.dct_inv
    exact ⟨a, l, rfl, .inl ⟨o, z, h1, h2, rfl⟩⟩
  | cel n =>
    unfold lockD at h
    dsimp only at h
    cases r with
    | cel ha =>
      cases e : s[n]? with
      | none => rw [e] at h; cases h
      | some oc =>
        rw [e] at h
        cases oc with
        | none => cases h
        | some c =>
          cases c with
          | dct l1 =>
            cases h
            obtain ⟨a1, h1, hz, l, hh, rs⟩ := st.at_ n _ e
            have ea := Option.some.inj (h1.symm.trans ha)
            subst ea
            refine ⟨_, l, rfl, .inr ⟨hh, fun o => ?_⟩⟩
            have ex : Ext w (w.lock a1 (.frz o (.dK l))) := Wd.lock_ext hz (st.np n _ a1 e h1)
            exact ⟨ex, Wd.lock_st st e h1 hz ⟨o, l, .inr rfl, upd_same, rs.ext ex⟩, rs.ext ex⟩
          | rod l1 =>
            cases h
            obtain ⟨a1, h1, _, o, l, z, hh, rs⟩ := st.at_ n _ e
            have ea := Option.some.inj (h1.symm.trans ha)
            subst ea
            exact ⟨_, l, rfl, .inl ⟨o, z, hh, rs, rfl⟩⟩
          | _ => cases h
  | _ => cases h
theorem i_seq (ha : PE X a (tE X.K W ma)) : PI X tg a (tI X.K W (seqI ma)) := by
  refine ⟨fun pins s t H R I h => ?_⟩
  obtain ⟨r, so, w, rfl, env, st, hp⟩ := h
  refine thn (ha.run pins s t w.H (fun x H1 => ∃ d s1 w1, w1.H = H1 ∧ Ext w w1 ∧ StR X.K w1 s1 ∧ Rep X.K w1 x d ∧ Post X.K (ItR X.K) w1 (fun c d H' => W c d t H') R (srcM s1 d)) I (hp.bind env st fun x d s1 w1 e1 st1 r1 hp1 => ⟨d, s1, w1, rfl, e1, st1, r1, hp1⟩)) fun v s1 h => ?_
  obtain ⟨x, H1, I1, rx, d, so1, w1, rfl, e1, st1, r1, hp1⟩ := h
  unfold srcM at hp1
  cases el : lockD so1 d with
  | some ms =>
    obtain ⟨m, so2⟩ := ms
    rw [el] at hp1
    obtain ⟨a, l, rfl, q⟩ := lock_ok st1 r1 el
    cases rx
    rcases q with ⟨o, z, hh, kv, rfl⟩ | ⟨hh, q⟩
    · exact it_keys I1 hh (hp1.pure st1 (itR_keys z hh kv))
    · obtain ⟨od, I2⟩ := I1.lock hh trivial
      obtain ⟨ex, st2, kv⟩ := q od
      exact it_keys I2 upd_same (hp1 _ (w1.lock a (.frz od (.dK l))) ex st2 (itR_keys (.inr rfl) upd_same kv))
  | none =>
  rw [el] at hp1
  dsimp only at hp1
  cases r1 with
  | tup hh rs =>
    cases rx
    exact it_tup I1 hh.sq (hp1.pure st1 (itR_tup hh rs))
  | kot hh rs =>
    cases rx
    exact it_tup I1 (.inr hh) (hp1.pure st1 (itR_kot hh rs))
  | lst z hh rs =>
    cases rx
    exact it_list I1 (SqL.of hh) (hp1.pure st1 (itR_list (.inl ⟨z, .inl hh⟩) rs))
  | rol hh rs =>
    cases rx
    exact it_list I1 hh.sq (hp1.pure st1 (itR_list hh rs))
  | str z =>
    obtain ⟨k, rfl⟩ := rx
    exact it_str I1 (hp1.pure st1 itR_str)
  | dct z hh hl rs => cases el
  | @cel n a0 hA =>
    cases rx
    unfold srcD at hp1
    dsimp only at hp1
    cases e : so1[n]? with
    | none => rw [e] at hp1; exact hp1.elim
    | some o =>
      cases o with
      | none => rw [e] at hp1; exact hp1.elim
      | some ct =>
        cases ct with
        | lst l =>
          rw [e] at hp1
          obtain ⟨a1, h1, _, vs, hh, rs⟩ := st1.at_ n _ e
          have ea : a1 = a0 := Option.some.inj (h1.symm.trans hA)
          subst ea
          exact it_list I1 (SqL.of hh) (hp1.pure st1 (itR_cell hA))
        | _ => rw [e] at hp1; exact hp1.elim
  | _ => exact hp1.elim
theorem i_range1 (hg : Gl X "range") (hm : X.mg "range" = none) (ha : PA X [a] (tA X.K W mr)) (hs : starEach [a] X.env = [(false, eval a X.env)] := by rfl) : PI X tg (.Call (.Name "range" p) [a] [] pos) (tI X.K W (argI rangeD1 mr)) :=
  PI.imp (pi_range1 hg hm ha hs) fun t H Q h => by
    obtain ⟨r, s, w, rfl, env, st, hp⟩ := h
    exact hp.bind env st fun vs ds s1 w1 e1 st1 r1 hp1 => by
      unfold rangeD1 at hp1
      split at hp1
      · rename_i j
        cases r1 with
        | cons q1 r2 =>
          cases q1
          cases r2
          split at hp1
          · rename_i hb
            exact ⟨j, rfl, hb.1, hb.2, hp1.pure st1 itR_range⟩
          · exact hp1.elim
      · exact hp1.elim
end
end Mp
set_option Elab.async false
set_option linter.all false
set_option maxRecDepth 100000
set_option maxHeartbeats 4000000
/-! Mp: comprehensions. -/
namespace Mp
open PySem PySem.Spec PyProof.Rows L2
def wipeE (r : En) : List Nat → En
  | [] => r
  | v :: vs => (wipeE r vs).set v none
open Classical in
noncomputable def lcF (c : Src) (g : DG) (tt : DM Bool) (te : DE) (r : En) : List D → List D → Sto → Res (List D)
  | [], acc, s => if SrcOk c s then .ok acc s else .bad
  | d :: l, acc, s => if SrcOk c s then (match g d r s with
    | none => .bad
    | some p => (match tt p.1 p.2 with
      | .ok k s1 => if k = true then (match te p.1 s1 with
        | .ok y s2 => if acc.length < sizeLine then lcF c g tt te r l (acc ++ [y]) s2 else .bad
        | _ => .bad) else lcF c g tt te r l acc s1
      | _ => .bad)) else .bad
noncomputable def lcM (k : Bool) (mi : DM Src) (g : DG) (tt : DM Bool) (te : DE) (vs : List Nat) : DE := bindM mi fun c => fun r s => match lcF c g tt te (wipeE r vs) c.its [] s with
  | .ok acc s' => newL k acc s'
  | _ => .bad
def yesM : DM Bool := pureM true
abbrev W0 : WX := fun _ _ _ _ => False
/-! ### targets that keep the rest -/
def tGw (K : Frag) (g : DG) (ns : List Nat) : TG := fun v t H Q => ∃ r s w d, w.H = H ∧ EnvR K w r t ∧ StR K w s ∧ Rep K w v d ∧ (match g d r s with
  | some p => ∀ t' w', Ext w w' → EnvR K w' p.1 t' → StR K w' p.2 → wipe t' ns = wipe t ns → Q t' w'.H
  | none => False)
theorem set_comm' {T : Type} {l : List T} {i j : Nat} {x y : T} (h : i ≠ j) : (l.set i x).set j y = (l.set j y).set i x := List.set_comm x y h
theorem wipe_set {t : L2.St} {i : Nat} {x : Option V} : ∀ {ns : List Nat}, i ∈ ns → wipe (t.set i x) ns = wipe t ns
  | [], h => by simp at h
  | n :: ns, h => by
    unfold wipe
    by_cases hn : i ∈ ns
    · rw [wipe_set hn]
    · have e : i = n := by
        rcases List.mem_cons.mp h with h | h
        · exact h
        · exact absurd h hn
      subst e
      have key : ∀ {ms : List Nat}, i ∉ ms → wipe (t.set i x) ms = (wipe t ms).set i x := by
        intro ms
        induction ms with
        | nil => intro _; rfl
        | cons m ms ih =>
          intro hm
          have h1 : m ≠ i := fun z => hm (z ▸ List.mem_cons_self)
          have h2 : i ∉ ms := fun z => hm (List.mem_cons_of_mem _ z)
          unfold wipe
          rw [ih h2, set_comm' h1.symm]
      rw [key hn, List.set_set]
theorem wipe_env {K : Frag} {w : Wd} {r : En} {t : L2.St} (h : EnvR K w r t) : ∀ ns : List Nat, EnvR K w (wipeE r ns) (wipe t ns)
  | [] => h
  | n :: ns => (wipe_env h ns).unset n
section
variable {X : Cx} {a : Expr} {es : List Expr} {pos : Pos} {ns : List Nat}
theorem gw_name {i : Nat} {x : Str} (hN : X.N.Nodup) (hi : X.N[i]? = some x) (hx : Loc X.env.scope x) (hm : i ∈ ns) (hf : X.fn x = true ∨ X.env.scope.names.lookup x = some .local := by first | exact .inl rfl | exact .inr rfl | assumption) : PG X (.Name x pos) (tGw X.K (nameG i) ns) :=
  PG.imp (pg_name hN hi hx hf) fun v t H Q h => by
    obtain ⟨r, s, w, d, rfl, env, st, rv, hp⟩ := h
    exact hp _ w (Ext.refl w) (env.set rv i) st (wipe_set hm)
theorem ts_nil {W : WX} : PTs X [] (tT X.K W yesM) := ⟨fun pins s t H Q I h => by
  obtain ⟨r, so, w, rfl, env, st, hp⟩ := h
  exact pts_nil.run pins s t w.H Q I (hp.pure st rfl)⟩
theorem ts_one {W : WX} {mt : DM Bool} (h : PT X a (tT X.K W mt)) : PTs X [a] (tT X.K W mt) := pts_one h
end
/-! ### a pinned list -/
def Wd.pin (w : Wd) (p : Addr) (o : HO) : Wd := ⟨w.A, w.Z, fun a => w.P a ∨ a = p, upd w.H p o⟩
section
variable {K : Frag} {w w0 : Wd} {s : Sto} {p : Addr} {o : HO}
theorem Wd.pin_ext (st : StR K w s) (h : w.H p = none) : Ext w (w.pin p o) :=
  ⟨⟨fun _ _ h => h, fun _ h => h, fun a z => upd_ne fun e => st.fz a z (e ▸ h)⟩, fun _ h => .inl h, fun a z => upd_ne fun e => (st.pz a z).2 (e ▸ h)⟩
theorem Wd.pin_st (st : StR K w s) (h : w.H p = none) (ht : ∀ xs, o ≠ .tup xs := by exact fun _ h => nomatch h) : StR K (w.pin p o) s := by
  have e := Wd.pin_ext (o := o) st h
  refine ⟨fun n ct q => ?_, fun n ct a q ha z => ?_, fun a z => ?_, st.inj, fun a z => ?_, st.new, fun a z xs q => ?_⟩
  rotate_right
  · by_cases ha : a = p
    · rw [ha, show (w.pin p o).H p = some o from upd_same] at q
      exact ht xs (Option.some.inj q)
    · rw [show (w.pin p o).H a = w.H a from upd_ne ha] at q
      exact st.pt a (z.resolve_right ha) xs q
  · obtain ⟨a, h1, h2, h3⟩ := st.at_ n ct q
    obtain ⟨ob, ho, _⟩ := h3.some
    exact ⟨a, h1, h2, h3.same e (upd_ne (ne_of_none ho h))⟩
  · obtain ⟨b, h1, h2, h3⟩ := st.at_ n ct q
    obtain ⟨ob, ho, _⟩ := h3.some
    have eb : b = a := Option.some.inj (h1.symm.trans ha)
    subst eb
    exact z.elim (st.np n ct b q ha) (ne_of_none ho h)
  · rcases z with z | z
    · have ne : a ≠ p := fun q => (st.pz a z).2 (q ▸ h)
      exact ⟨(st.pz a z).1, by rw [show (w.pin p o).H a = w.H a from upd_ne ne]; exact (st.pz a z).2⟩
    · subst z
      exact ⟨fun q => st.fz a q h, by rw [show (w.pin a o).H a = some o from upd_same]; exact fun q => nomatch q⟩
  · have ne : a ≠ p := fun q => st.fz a z (q ▸ h)
    rw [show (w.pin p o).H a = w.H a from upd_ne ne]
    exact st.fz a z
theorem Wd.turn_ex0 (st : StR K w s) (hP : w.P p) : Ex0 w (w.put p o) := ⟨fun _ _ h => h, fun _ h => h, fun a z => upd_ne fun e => (st.pz p hP).1 (e ▸ z)⟩
theorem Wd.turn_ext (e : Ext w0 w) (h1 : ¬ w0.Z p) (h2 : ¬ w0.P p) : Ext w0 (w.put p o) :=
  ⟨⟨e.A, e.Z, fun a z => (show upd w.H p o a = w.H a from upd_ne fun q => h1 (q ▸ z)).trans (e.H a z)⟩, e.P, fun a z => (show upd w.H p o a = w.H a from upd_ne fun q => h2 (q ▸ z)).trans (e.HP a z)⟩
theorem Wd.turn_st (st : StR K w s) (hP : w.P p) (ht : ∀ xs, o ≠ .tup xs := by exact fun _ h => nomatch h) : StR K (w.put p o) s := by
  have e := Wd.turn_ex0 (o := o) st hP
  refine ⟨fun n ct q => ?_, st.np, fun a z => ⟨(st.pz a z).1, ?_⟩, st.inj, fun a z => ?_, st.new, fun a z xs q => ?_⟩
  rotate_right
  · by_cases ha : a = p
    · rw [ha, show (w.put p o).H p = some o from upd_same] at q
      exact ht xs (Option.some.inj q)
    · rw [show (w.put p o).H a = w.H a from upd_ne ha] at q
      exact st.pt a z xs q
  · obtain ⟨a, h1, h2, h3⟩ := st.at_ n ct q
    have ne : a ≠ p := fun q2 => st.np n ct a q h1 (q2 ▸ hP)
    exact ⟨a, h1, h2, h3.sam0 e (upd_ne ne)⟩
  · show upd w.H p o a ≠ none
    by_cases ha : a = p
    · rw [ha, upd_same]; exact fun q => nomatch q
    · rw [upd_ne ha]; exact (st.pz a z).2
  · show upd w.H p o a ≠ none
    by_cases ha : a = p
    · rw [ha, upd_same]; exact fun q => nomatch q
    · rw [upd_ne ha]; exact st.fz a z
/-- the pinned list is let go: frozen, or a cell -/
theorem Post.unpin {E : XK} {Q : VK} {k : Bool} {ds : List D} {vs : List V} (hp : Post K (Rep K) w0 E Q (Mp.newL k ds s)) (e : Ext w0 w) (st : StR K w s) (h1 : ¬ w0.P p) (hP : w.P p) (hh : w.H p = some (.lst vs)) (rs : Reps K w vs ds) : Q (.ref p) w.H := by
  have nz := (st.pz p hP).1
  cases k with
  | false =>
    have hp' : Post K (Rep K) w0 E Q (.ok (.lst ds) s) := hp
    let w2 : Wd := ⟨w.A, fun a => w.Z a ∨ a = p, fun a => w.P a ∧ a ≠ p, w.H⟩
    have e0 : Ex0 w w2 := ⟨fun _ _ h => h, fun _ h => .inl h, fun _ _ => rfl⟩
    have e2 : Ext w0 w2 := ⟨⟨e.A, fun a z => .inl (e.Z a z), e.H⟩, fun a z => ⟨e.P a z, fun q => h1 (q ▸ z)⟩, e.HP⟩
    refine hp' (.ref p) w2 e2 ⟨fun n ct q => ?_, fun n ct a q ha z => st.np n ct a q ha z.1, fun a z => ⟨fun q => q.elim (st.pz a z.1).1 z.2, (st.pz a z.1).2⟩, st.inj, fun a z => ?_, st.new, st.ptk (fun _ h => h.1) (fun _ _ => rfl)⟩ (.lst (.inr rfl) hh (rs.ex0 e0))
    · obtain ⟨a, k1, k2, k3⟩ := st.at_ n ct q
      exact ⟨a, k1, k2.mono (w' := w2) fun (z : w.Z a ∨ a = p) => Or.elim z id fun z => absurd (z ▸ hP) (st.np n ct a q k1), k3.sam0 e0 rfl⟩
    · rcases z with z | z
      · exact st.fz a z
      · rw [z, show w2.H p = some (.lst vs) from hh]
        exact fun q => nomatch q
  | true =>
    have hp' : Post K (Rep K) w0 E Q (.ok (.cel s.length) (s ++ [some (.lst ds)])) := hp
    let w2 : Wd := ⟨fun m => if m = s.length then some p else w.A m, w.Z, fun a => w.P a ∧ a ≠ p, w.H⟩
    have hA : ∀ m a, w.A m = some a → w2.A m = some a := fun m a q => by
      have ne : ¬ m = s.length := fun z => by
        rw [st.new m (by omega)] at q
        exact nomatch q
      show (if m = s.length then some p else w.A m) = some a
      rw [if_neg ne]
      exact q
    have e0 : Ex0 w w2 := ⟨hA, fun _ h => h, fun _ _ => rfl⟩
    have e2 : Ext w0 w2 := ⟨⟨fun n a q => hA n a (e.A n a q), e.Z, e.H⟩, fun a z => ⟨e.P a z, fun q => h1 (q ▸ z)⟩, e.HP⟩
    have at' : ∀ m ct, (s ++ [some (Ct.lst ds)])[m]? = some (some ct) → (m < s.length ∧ s[m]? = some (some ct)) ∨ (m = s.length ∧ ct = .lst ds) := fun m ct q => by
      by_cases hm : m < s.length
      · rw [List.getElem?_append_left hm] at q
        exact .inl ⟨hm, q⟩
      · rw [List.getElem?_append_right (by omega)] at q
        by_cases h0 : m - s.length = 0
        · rw [h0] at q
          exact .inr ⟨by omega, by simpa using q.symm⟩
        · rw [List.getElem?_eq_none (by simp; omega)] at q
          cases q
    have AtN : w2.A s.length = some p := if_pos rfl
    have AtO : ∀ m, m < s.length → w2.A m = w.A m := fun m hm => if_neg (by omega)
    have npo : ∀ m ct a, s[m]? = some (some ct) → w.A m = some a → a ≠ p := fun m ct a q ha z => st.np m ct a q ha (z ▸ hP)
    refine hp' (.ref p) w2 e2 ⟨fun m ct q => ?_, fun m ct a q ha z => ?_, fun a z => st.pz a z.1, fun m k b x y qm qk hm hk => ?_, st.fz, fun m hm => ?_, st.ptk (fun _ h => h.1) (fun _ _ => rfl)⟩ (.cel AtN)
    · rcases at' m ct q with ⟨hm, q⟩ | ⟨rfl, rfl⟩
      · obtain ⟨a, k1, k2, k3⟩ := st.at_ m ct q
        exact ⟨a, hA m a k1, k2, k3.sam0 e0 rfl⟩
      · exact ⟨p, AtN, nz, vs, hh, rs.ex0 e0⟩
    · rcases at' m ct q with ⟨hm, q⟩ | ⟨rfl, rfl⟩
      · rw [AtO m hm] at ha
        exact st.np m ct a q ha z.1
      · rw [AtN] at ha
        cases ha
        exact z.2 rfl
    · rcases at' m x qm with ⟨lm, qm'⟩ | ⟨rfl, rfl⟩
      · rcases at' k y qk with ⟨lk, qk'⟩ | ⟨rfl, rfl⟩
        · rw [AtO m lm] at hm
          rw [AtO k lk] at hk
          exact st.inj m k b x y qm' qk' hm hk
        · rw [AtO m lm] at hm
          rw [AtN] at hk
          cases hk
          exact absurd rfl (npo m x _ qm' hm)
      · rcases at' k y qk with ⟨lk, qk'⟩ | ⟨rfl, rfl⟩
        · rw [AtO k lk] at hk
          rw [AtN] at hm
          cases hm
          exact absurd rfl (npo k y _ qk' hk)
        · rfl
    · rw [List.length_append] at hm
      have hm' : s.length + 1 ≤ m := hm
      show (if m = s.length then some p else w.A m) = none
      rw [if_neg (by omega)]
      exact st.new m (by omega)
end
/-! ### the reading -/
theorem lc_imp {K : Frag} {W : WX} {k : Bool} {mi : DM Src} {g : DG} {tt : DM Bool} {te : DE} {ns : List Nat} {t : L2.St} {H : Hp} {Q : VK} (h : tE K W (lcM k mi g tt te ns) t H Q) : tLc (tI K W mi) (tGw K g ns) (tT K W0 tt) (tE K W0 te) ns t H Q := by
  obtain ⟨r, s, w, rfl, env, st, hp⟩ := h
  exact hp.bind env st fun J sc s1 w1 e1 st1 r1 hp1 => by
    obtain ⟨its, cl⟩ := sc
    intro Dn nD
    have hz : ¬ w1.Z Dn := fun z => st1.fz Dn z nD
    have hP : ¬ w1.P Dn := fun z => (st1.pz Dn z).2 nD
    have env1 := env.ext e1
    cases ef : lcF ⟨its, cl⟩ g tt te (wipeE r ns) its [] s1 with
    | exc C fs s' => simp only [ef] at hp1; exact hp1.elim
    | bad => simp only [ef] at hp1; exact hp1.elim
    | ok fin sf =>
      simp only [ef] at hp1
      refine ⟨fun i m H => i + m = its.length ∧ ∃ (w : Wd) (s : Sto) (acc : List D) (vs : List V), w.H = H ∧ Ext w1 w ∧ StR K w s ∧ w.P Dn ∧ w.H Dn = some (.lst vs) ∧ Reps K w vs acc ∧ lcF ⟨its, cl⟩ g tt te (wipeE r ns) (its.drop i) acc s = .ok fin sf,
        ⟨its.length, Nat.zero_add _, w1.pin Dn (.lst []), s1, [], [], rfl, Wd.pin_ext st1 nD, Wd.pin_st st1 nD, .inr rfl, upd_same, .nil, ef⟩, fun i m H h => ?_⟩
      obtain ⟨him, w2, s2, acc, vs, rfl, x2, st2, hP2, hh2, rs2, ef2⟩ := h
      cases m with
      | zero =>
        have hi : i = its.length := by omega
        subst hi
        rw [List.drop_length] at ef2
        unfold lcF at ef2
        by_cases ck : SrcOk ⟨its, cl⟩ s2
        · rw [if_pos ck] at ef2
          cases ef2
          exact .inl ⟨r1.stop w2 sf x2 st2 ck, Post.unpin hp1 x2 st2 hP hP2 hh2 rs2⟩
        · rw [if_neg ck] at ef2
          cases ef2
      | succ m =>
        have hlt : i < its.length := by omega
        have hd : its[i]? = some its[i] := List.getElem?_eq_getElem hlt
        rw [List.drop_eq_getElem_cons hlt] at ef2
        unfold lcF at ef2
        by_cases ck : SrcOk ⟨its, cl⟩ s2
        rotate_left
        · rw [if_neg ck] at ef2
          cases ef2
        rw [if_pos ck] at ef2
        obtain ⟨hgo, hy⟩ := r1.go i _ w2 s2 hd x2 st2 ck
        refine .inr ⟨hgo, fun H' => i + 1 + m = its.length ∧ ∃ (w : Wd) (s : Sto) (acc : List D) (vs : List V), w.H = H' ∧ Ext w1 w ∧ StR K w s ∧ w.P Dn ∧ w.H Dn = some (.lst vs) ∧ Reps K w vs acc ∧ lcF ⟨its, cl⟩ g tt te (wipeE r ns) (its.drop (i + 1)) acc s = .ok fin sf,
          fun H' q => ⟨m, Nat.lt_succ_self m, q⟩, fun x H' yl => ?_⟩
        obtain ⟨w3, x3, rfl, st3, rx⟩ := hy x H' yl
        refine ⟨wipeE r ns, s2, w3, its[i], rfl, (wipe_env env1 ns).ext (x2.trans x3), st3, rx, ?_⟩
        cases eg : g its[i] (wipeE r ns) s2 with
        | none => rw [eg] at ef2; cases ef2
        | some p =>
          rw [eg] at ef2
          dsimp only at ef2
          intro t4 w4 x4 env4 st4 wi4
          refine ⟨?_, ?_⟩
          · have ww : wipe (wipe t ns) ns = wipe t ns := by
              have key : ∀ ms : List Nat, (∀ j ∈ ms, j ∈ ns) → wipe (wipe t ms) ns = wipe t ns := by
                intro ms
                induction ms with
                | nil => intro _; rfl
                | cons j ms ih =>
                  intro hj
                  show wipe ((wipe t ms).set j none) ns = wipe t ns
                  rw [wipe_set (hj j List.mem_cons_self)]
                  exact ih fun q hq => hj q (List.mem_cons_of_mem _ hq)
              exact key ns fun j hj => hj
            rw [← ww]
            exact wi4
          · refine ⟨p.1, p.2, w4, rfl, env4, st4, ?_⟩
            cases et : tt p.1 p.2 with
            | exc C fs s' => rw [et] at ef2; cases ef2
            | bad => rw [et] at ef2; cases ef2
            | ok kk s5 =>
              rw [et] at ef2
              dsimp only at ef2
              intro b w5 x5 st5 eb
              subst eb
              have x25 := ((x2.trans x3).trans x4).trans x5
              have x5' := (x3.trans x4).trans x5
              cases b with
              | false => exact ⟨by omega, w5, s5, acc, vs, rfl, x25, st5, x5'.P Dn hP2, (x5'.HP Dn hP2).trans hh2, rs2.ext x5', ef2⟩
              | true =>
                refine ⟨p.1, s5, w5, rfl, env4.ext x5, st5, ?_⟩
                simp only [if_true] at ef2
                cases ee : te p.1 s5 with
                | exc C fs s' => rw [ee] at ef2; cases ef2
                | bad => rw [ee] at ef2; cases ef2
                | ok y s6 =>
                  rw [ee] at ef2
                  dsimp only at ef2
                  by_cases hl : acc.length < sizeLine
                  rotate_left
                  · rw [if_neg hl] at ef2
                    cases ef2
                  rw [if_pos hl] at ef2
                  intro v w6 x6 st6 rv
                  have x6' := x5'.trans x6
                  have P6 := x6'.P Dn hP2
                  have H6 : w6.H Dn = some (.lst vs) := (x6'.HP Dn hP2).trans hh2
                  have e0 := Wd.turn_ex0 (o := .lst (vs ++ [v])) st6 P6
                  refine ⟨vs, H6, by rw [rs2.length]; exact hl, by omega, w6.put Dn (.lst (vs ++ [v])), s6, acc ++ [y], vs ++ [v], rfl, Wd.turn_ext (x25.trans x6) hz hP, Wd.turn_st st6 P6, P6, upd_same, ?_, ef2⟩
                  exact ((rs2.ext x6').ex0 e0).append (.cons (rv.ex0 e0) .nil)
section
variable {X : Cx} {W : WX} {elt tg iter : Expr} {ifs : List Expr} {scope : Scope} {own : List (Str × Nat)} {pos : Pos} {mi : DM Src} {g : DG} {tt : DM Bool} {te : DE}
theorem e_lc (k : Bool) (hc : X.calm = true) (hN : X.N.Nodup) (hi : PI X tg iter (tI X.K W mi)) (ok : BlkOk X.N X.env.scope scope own)
    (hg : ∀ (s : Shared) (H : Hp) (C : Addr) (cl : List (Str × Addr)) (fp : List Addr), PG (X.blk s H scope (compEnvC scope cl C X.env) fp) tg (tGw X.K g (own.map (·.2))))
    (ht : ∀ (s : Shared) (H : Hp) (C : Addr) (cl : List (Str × Addr)) (fp : List Addr), PTs (X.blk s H scope (compEnvC scope cl C X.env) fp) ifs (tT X.K W0 tt))
    (he : ∀ (s : Shared) (H : Hp) (C : Addr) (cl : List (Str × Addr)) (fp : List Addr), PE (X.blk s H scope (compEnvC scope cl C X.env) fp) elt (tE X.K W0 te)) (hs : ∀ x, foldedSetIterable iter X.env x = pure x := by intro _; rfl) :
    PE X (.ListComp elt [⟨tg, iter, ifs, 0⟩] scope pos) (tE X.K W (lcM k mi g tt te (own.map (·.2)))) := PE.imp (pe_lc hc hN hi ok hg ht he hs) fun t H Q h => lc_imp h
theorem s_setLc {i : Nat} {y : Str} {py spos : Pos} (k : Bool) (hc : X.calm = true) (hN : X.N.Nodup) (hy : X.N[i]? = some y) (hyl : X.env.scope.names.lookup y = some .local)
    (hsw : swapsWith (.ListComp elt [⟨tg, iter, ifs, 0⟩] scope pos) (some (.Name y py)) spos.line X.env = pure true) (hi : PI X tg iter (tI X.K W mi)) (ok : BlkOk X.N X.env.scope scope own)
    (hg : ∀ (s : Shared) (H : Hp) (C : Addr) (cl : List (Str × Addr)) (fp : List Addr), PG (X.blk s H scope (compEnvC scope cl C X.env) fp) tg (tGw X.K g (own.map (·.2))))
    (ht : ∀ (s : Shared) (H : Hp) (C : Addr) (cl : List (Str × Addr)) (fp : List Addr), PTs (X.blk s H scope (compEnvC scope cl C X.env) fp) ifs (tT X.K W0 tt))
    (he : ∀ (s : Shared) (H : Hp) (C : Addr) (cl : List (Str × Addr)) (fp : List Addr), PE (X.blk s H scope (compEnvC scope cl C X.env) fp) elt (tE X.K W0 te)) (hs : ∀ x, foldedSetIterable iter X.env x = pure x := by intro _; rfl) :
    PS X (.Assign [.Name y py] (.ListComp elt [⟨tg, iter, ifs, 0⟩] scope pos) spos) (tS X.K W (setS i (lcM k mi g tt te (own.map (·.2))))) := PS.imp (ps_setLc hc hN hy hyl hsw hi ok hg ht he hs) fun E t H h => by
  obtain ⟨r, s, w, rfl, env, st, hp⟩ := h
  have h2 : tE X.K W (lcM k mi g tt te (own.map (·.2))) t w.H (fun x H1 => gName i x t H1 E.nx) := hp.bind env st fun x d s1 w1 e1 st1 r1 hp1 => hp1 _ w1 (Ext.refl w1) ((env.ext e1).set r1 i) st1
  exact lc_imp h2
end
end Mp
set_option Elab.async false
set_option linter.all false
set_option maxRecDepth 100000
set_option maxHeartbeats 4000000
/-! Mp: defs, calls, own classes. -/
namespace Mp
open PySem PySem.Spec PyProof.Rows L2
abbrev DF := List D → Sto → Res D
/-- a def's promise by its function on data -/
def spD (K : Frag) (m : DF) : Sp := fun vs H Q E => ∃ ds s w, w.H = H ∧ Reps K w vs ds ∧ StR K w s ∧ Post K (Rep K) w E Q (m ds s)
/-- the function of a body: its slots, its statement -/
def bodyX (n : Nat) (b : DS) : DF := fun ds s => match b (ds.map some ++ List.replicate (n - ds.length) none) s with
  | .nx _ s' => .ok .non s'
  | .rt d s' => .ok d s'
  | .exc C fs _ s' => .exc C fs s'
  | _ => .bad
/-- the parameters' values: k of them, the last ones with defaults -/
def argsD (k : Nat) (dd : List D) (ds : List D) : Option (List D) := if ds.length ≤ k ∧ k ≤ ds.length + dd.length then some (ds ++ dd.drop (ds.length + dd.length - k)) else none
def bodyM (k : Nat) (dd : List D) (n : Nat) (b : DS) : DF := fun ds s => match argsD k dd ds with
  | some es => bodyX n b es s
  | none => .bad
/-- a def with a star parameter behind k others -/
def bodyV (k : Nat) (n : Nat) (b : DS) : DF := fun ds s => if k ≤ ds.length ∧ ds.length ≤ 1000 then bodyX n b (ds.take k ++ [.tup (ds.drop k)]) s else .bad
def callM (m : DF) (a : DM (List D)) : DE := bindM a fun ds => fun _ s => m ds s
inductive Ak where
  | fld | prop (m : DF) | con (d : D)
def attrD (tb : List (Str × Ak)) (f : Str) (x : D) (s : Sto) : Res D := match insOf s x with
  | none => .bad
  | some (C, fs) => (match tb.lookup C with
    | some .fld => okO s (fs.lookup f)
    | some (.prop m) => m [x] s
    | some (.con d) => (match fs.lookup f with
      | none => .ok d s
      | some _ => .bad)
    | none => .bad)
def attrM (tb : List (Str × Ak)) (f : Str) (a : DE) : DE := bindM a fun x => fun _ s => attrD tb f x s
def methM (tb : List (Str × DF)) (m : Str) (o : DE) (a : DM (List D)) : DE := bindM o fun x => fun r s => match insOf s x with
  | none => .bad
  | some (C, fs) => (match fs.lookup m with
    | some _ => .bad
    | none => (match tb.lookup C with
      | none => .bad
      | some f => (bindM a fun ds => fun _ s => f (x :: ds) s) r s))
/-- a new instance: its __init__, then frozen or not -/
def freezeI (k : Bool) (n : Nat) (s : Sto) : Res D := if k = true then .ok (.cel n) s else (match s[n]? with
  | some (some (.ins C fs)) => .ok (.ins C fs) (s.set n none)
  | _ => .bad)
def makeM (k : Bool) (C : Str) (m : DF) (a : DM (List D)) : DE := bindM a fun ds => fun _ s => match m (.cel s.length :: ds) (s ++ [some (.ins C [])]) with
  | .ok .non s' => freezeI k s.length s'
  | .ok _ _ => .bad
  | .exc E fs s' => .exc E fs s'
  | .bad => .bad
def putD (f : Str) (d : D) : List (Str × D) → List (Str × D)
  | [] => [(f, d)]
  | (g, x) :: r => if g = f then (g, d) :: r else (g, x) :: putD f d r
/-- o.f = e -/
def fldS (tb : List Str) (f : Str) (o v : DE) : DS := thenS v fun y => thenS o fun x => fun r s => match x with
  | .cel n => (match s[n]? with
    | some (some (.ins C fs)) => if C ∈ tb ∧ fs.length < 1000 then .nx r (s.set n (some (.ins C (putD f y fs)))) else .bad
    | _ => .bad)
  | _ => .bad
/-! ### soundness -/
theorem KVR.lookup {K : Frag} {w : Wd} {f : Str} : ∀ {l : List (Str × V)} {m : List (Str × D)}, KVR K w l m → (match m.lookup f with | some d => ∃ v, l.lookup f = some v ∧ Rep K w v d | none => l.lookup f = none)
  | _, _, .nil => rfl
  | _, _, .cons (k := j) h r => by
    have ih := KVR.lookup (f := f) r
    by_cases e : f = j
    · subst e
      simp only [List.lookup_cons_self]
      exact ⟨_, rfl, h⟩
    · have hb : (f == j) = false := by simpa using e
      simp only [List.lookup_cons, hb]
      exact ih
theorem KVR.put {K : Frag} {w : Wd} {f : Str} {y : V} {d : D} (q : Rep K w y d) : ∀ {l : List (Str × V)} {m : List (Str × D)}, KVR K w l m → KVR K w (putF f y l) (putD f d m)
  | _, _, .nil => .cons q .nil
  | _, _, .cons (k := j) h r => by
    unfold putF putD
    by_cases e : j = f
    · rw [if_pos e, if_pos e]
      exact .cons q r
    · rw [if_neg e, if_neg e]
      exact .cons h (r.put q)
section
variable {P : Program} {w : World} {K : Frag} {mg : Str → Option Value} {base : Heap}
/-- room, and no repr under way -/
structure Rm (k : Nat) (A : Around) : Prop where
  rm : Room k A
  gd : A.guards = some []
theorem Rm.mono {j k : Nat} {A : Around} (r : Rm k A) (h : j ≤ k) : Rm j A := ⟨r.rm.mono h, r.gd⟩
theorem Rm.in1 {k : Nat} {A : Around} (r : Rm (k + 1) A) : Rm k A.in1 := ⟨r.rm.in1, r.gd⟩
theorem Rm.deeper {k : Nat} {A : Around} (r : Rm (k + 1) A) (env : Env) : Rm k (A.deeper env) := ⟨r.rm.deeper env, r.gd⟩
theorem Rm.make {k : Nat} {A : Around} (r : Rm (k + 1) A) (C : Addr) (us : List Value) (kw : List (Str × Value)) : Rm k (A.under (.builtin "type.__call__" ⟨.ref C :: us, kw⟩)) :=
  ⟨r.rm.make C us kw, by
    have e : Code.guards (.builtin "type.__call__" ⟨.ref C :: us, kw⟩) = [] := by
      unfold Code.guards
      exact if_neg (by show ¬ (guardIds.contains "type.__call__" = true); decide +kernel)
    show pushGuards (Code.guards (.builtin "type.__call__" ⟨.ref C :: us, kw⟩)) A.guards = _
    rw [e, r.gd]
    rfl⟩
/-- a promise by positional values, however they are bound, where no repr is under way -/
def FnG (P : Program) (w : World) (K : Frag) (mg : Str → Option Value) (base : Heap) (CX : CXT) (k : Nat) (f : Addr) (sp : Sp) : Prop :=
  ∀ (A : Around) (outer : List Env) (s : Shared) (H : Hp) (us : List Value) (vs : List V) (Q : VK) (E : XK), Rm k A → Env0 P w K mg base A outer s H → Vals vs us → sp vs H Q E → codeAny (model P w) A (.call (.ref f) ⟨us, []⟩) (CR CX outer P w H s Q E) s
theorem FnG.mono {CX : CXT} {j k : Nat} {f : Addr} {sp : Sp} (F : FnG P w K mg base CX j f sp) (h : j ≤ k) : FnG P w K mg base CX k f sp := fun A outer s H us vs Q E hr => F A outer s H us vs Q E (hr.mono h)
abbrev FnD (P : Program) (w : World) (K : Frag) (mg : Str → Option Value) (base : Heap) (k : Nat) (f : Addr) (m : DF) : Prop := FnG P w K mg base (L2.CX P w) k f (spD K m)
theorem env_start {u : Wd} {n : Nat} : ∀ {vs : List V} {ds : List D}, Reps K u vs ds → EnvR K u (ds.map some ++ List.replicate (n - ds.length) none) (vs.map some ++ List.replicate (n - vs.length) none) := fun {vs ds} rs => by
  refine ⟨by simp [rs.length], fun i d h => ?_⟩
  by_cases hi : i < ds.length
  · rw [List.getElem?_append_left (by simpa using hi), List.getElem?_map] at h
    cases e : ds[i]? with
    | none => rw [e] at h; cases h
    | some d' =>
      rw [e] at h
      cases h
      obtain ⟨v, hv, rv⟩ := rs.get e
      refine ⟨v, ?_, rv⟩
      rw [List.getElem?_append_left (by simpa [rs.length] using hi), List.getElem?_map, hv]
      rfl
  · rw [List.getElem?_append_right (by simpa using Nat.le_of_not_lt hi)] at h
    rw [List.getElem?_replicate] at h
    split at h <;> cases h
theorem body_end {n : Nat} {b : DS} {vs : List V} {ds : List D} {so : Sto} {u : Wd} {Q : VK} {E : XK} (rs : Reps K u vs ds) (st : StR K u so) (hp : Post K (Rep K) u E Q (bodyX n b ds so)) :
    tS K (fun c d _ H' => E c d H') b { nx := fun _ H' => Q .non H', rt := Q } (vs.map some ++ List.replicate (n - vs.length) none) u.H := by
  refine ⟨_, so, u, rfl, env_start (n := n) rs, st, ?_⟩
  unfold bodyX at hp
  cases e : b (ds.map some ++ List.replicate (n - ds.length) none) so with
  | nx r' s' => rw [e] at hp; exact fun t' w' e' _ st' => hp .non w' e' st' .non
  | rt d s' => rw [e] at hp; exact hp
  | bk r' s' => rw [e] at hp; exact hp.elim
  | ct r' s' => rw [e] at hp; exact hp.elim
  | exc C fs r' s' => rw [e] at hp; exact fun t' ed w' e' _ st' x' => hp ed w' e' st' x'
  | bad => rw [e] at hp; exact hp.elim
/-- what a def's derivation is -/
abbrev BodyD (P : Program) (w : World) (K : Frag) (mg : Str → Option Value) (base : Heap) (N : List Str) (qual : Str) (scope : Scope) (f : Addr) (k : Nat) (body : List Stmt) (b : DS) : Prop :=
  ∀ (cdv : Value) (A : Around) (outer : List Env) (s : Shared) (H : Hp) (E : XK), Rm k (A.deeper (envOfC qual scope s.heap.objs.size f cdv)) → PSs (cxOf (L2.CX P w) P w K mg base N qual scope f cdv A outer s H E) body (tS K (fun c d _ H' => E c d H') b)
/-- a def keeps the promise of its function on data, by the derivation of its body -/
theorem fn_ok {x qual : Str} {params : Arguments} {body : List Stmt} {scope : Scope} {dvs : List V} {kws : List (Str × V)} {f : Addr} {fd : FuncData} {N ps : List Str} {k : Nat} {b : DS} {dd : List D} (F : FunD K x qual params body scope dvs kws f fd) (S : FnScope N ps scope)
    (hD : ∀ w, Reps K w dvs dd) (hB : ∀ j, j ≤ dvs.length → ∃ ds, Vals (dvs.drop j) ds ∧ Binds K fd ps ds) (hbody : BodyD P w K mg base N qual scope f k body b) : FnD P w K mg base (k + 1) f (bodyM ps.length dd N.length b) := by
  intro A outer s H us vs Q E hr e0 r h
  obtain ⟨ds, so, u, rfl, rs, st, hp⟩ := h
  unfold bodyM argsD at hp
  have l1 := rs.length
  have l2 := (hD u).length
  split at hp
  · rename_i es he
    split at he
    · rename_i hc
      cases he
      obtain ⟨dv, rv, hb⟩ := hB (ds.length + dd.length - ps.length) (by omega)
      have rs2 := rs.append ((hD u).drop (ds.length + dd.length - ps.length))
      obtain ⟨oc, od, dV, kV, doc, pm, an, cdv, ct, osl, rfl, lk, hcd, hD1, hK⟩ := F.ex
      have hl : (vs ++ dvs.drop (ds.length + dd.length - ps.length)).length = ps.length := by
        rw [rs2.length, List.length_append, List.length_drop]
        omega
      have rr := r.append rv
      refine StX.run_bnd lk hcd S hr.rm e0 (G := fun xs H2 => xs = vs ++ dvs.drop (ds.length + dd.length - ps.length) ∧ H2 = u.H) (fun A' Ex Q' h => ?_) fun s2 H2 xs hx hr' => ?_
      · exact hb s us (e0.mod.kin.keeps fun b o e => (e0.bs b o e).1) (by rw [← rr.length]; exact hl) _ _ _ _ (h s u.H _ _ e0 Un.refl rfl (fun _ _ z => z) rr hl ⟨rfl, rfl⟩)
      · obtain ⟨rfl, rfl⟩ := hx
        exact ⟨_, hbody cdv A outer s2 u.H E (hr.deeper _), body_end rs2 st hp⟩
    · cases he
  · exact hp.elim
/-- .. without defaults -/
theorem fn_ok0 {x qual : Str} {params : Arguments} {body : List Stmt} {scope : Scope} {kws : List (Str × V)} {f : Addr} {fd : FuncData} {N ps : List Str} {k : Nat} {b : DS} (F : FunD K x qual params body scope [] kws f fd) (S : FnScope N ps scope)
    (hB : ∀ (kV doc pm : Value) (an : Option Addr) (cdv ct : Value) (us : List Value), us.length = ps.length → bindArgs (PySem.W.fnOf x qual params body scope .none kV doc pm an cdv ct) ⟨us, []⟩ = pure (ps.zip us)) (hbody : BodyD P w K mg base N qual scope f k body b) :
    FnD P w K mg base (k + 1) f (bodyM ps.length [] N.length b) :=
  fn_ok F S (fun _ => .nil) (fun j hj => ⟨[], by rw [List.drop_nil]; exact .nil, F.bindsN hB⟩) hbody
/-- a def f(a, .., *v) -/
theorem fn_okV {x qual : Str} {params : Arguments} {body : List Stmt} {scope : Scope} {kws : List (Str × V)} {f : Addr} {fd : FuncData} {N ps : List Str} {pv : Str} {k : Nat} {b : DS} (F : FunD K x qual params body scope [] kws f fd) (S : FnScope N (ps ++ [pv]) scope)
    (hB : ∀ (kV doc pm : Value) (an : Option Addr) (cdv ct : Value) (us rest : List Value), us.length = ps.length → bindArgs (PySem.W.fnOf x qual params body scope .none kV doc pm an cdv ct) ⟨us ++ rest, []⟩ = (newTuple rest >>= fun t => pure (ps.zip us ++ [(pv, t)])))
    (hbody : BodyD P w K mg base N qual scope f k body b) : FnD P w K mg base (k + 1) f (bodyV ps.length N.length b) := by
  obtain ⟨oc, od, dV, kV, doc, pm, an, cdv, ct, osl, rfl, lk, hcd, hD, hK⟩ := F.ex
  rcases hD with ⟨_, rfl⟩ | ⟨e, _⟩
  · intro A outer s H us vs Q E hr e0 r h
    obtain ⟨ds, so, u, rfl, rs, st, hp⟩ := h
    unfold bodyV at hp
    split at hp
    · rename_i hc
      have l1 := rs.length
      obtain ⟨u1, u2, eu, r1, r2⟩ := StX.vals_split (ws := vs.take ps.length) (rest := vs.drop ps.length) (by rw [List.take_append_drop]; exact r)
      subst eu
      have hn : u.H s.heap.objs.size = none := e0.hok.fresh (Nat.le_refl _)
      have hl1 : u1.length = ps.length := by
        rw [← r1.length, List.length_take]
        omega
      have hz : (vs.drop ps.length).length ≤ sizeLine := by
        rw [List.length_drop]
        exact Nat.le_trans (Nat.sub_le _ _) (Nat.le_trans (by omega : vs.length ≤ 1000) (by rw [PySem.sizeLine_eq]; omega))
      have e1 := Wd.frz_ext st (o := .tup (vs.drop ps.length)) hn
      have st1 := Wd.frz_st st (o := .tup (vs.drop ps.length)) hn
      have rsT : Reps K (u.frz s.heap.objs.size (.tup (vs.drop ps.length))) (vs.take ps.length ++ [V.ref s.heap.objs.size]) (ds.take ps.length ++ [.tup (ds.drop ps.length)]) :=
        ((rs.take ps.length).ext e1).append (.cons (.tup ⟨Wd.frz_z, Wd.frz_h⟩ ((rs.drop ps.length).ext e1)) .nil)
      have hnew : ObjOk P w (upd u.H s.heap.objs.size (.tup (vs.drop ps.length))) (s.heap.push ({ cls := .type "tuple", data := .seq u2.toArray } : Obj)) s.heap.objs.size (.tup (vs.drop ps.length)) :=
        ⟨hz, u2, r2, _, Heap.get?_push_size _ rfl, rfl, _, rfl⟩
      have hun := StX.un_laid (fs := frs outer) (s := s) (o := ({ cls := .type "tuple", data := .seq u2.toArray } : Obj)) (u := .tup (vs.drop ps.length)) hn
      refine StX.run_bnd lk hcd S hr.rm e0 (G := fun xs H2 => xs = vs.take ps.length ++ [V.ref s.heap.objs.size] ∧ H2 = (u.frz s.heap.objs.size (.tup (vs.drop ps.length))).H) (fun A' Ex Q' h => ?_) fun s2 H2 xs hx hr' => ?_
      · rw [hB kV doc pm an cdv ct u1 u2 hl1]
        refine wpAny_bind (wpAny_newTuple (wpAny_pure ?_) (by rw [← r2.length]; exact hz))
        have q := h _ _ (vs.take ps.length ++ [V.ref s.heap.objs.size]) (u1 ++ [Value.ref s.heap.objs.size]) (StX.env0_laid e0 hnew) hun rfl (fun er s3 => StX.cxUp outer s u.H _ _ E er s3 hun (fun _ _ z => Heap.get?_push_of_some _ z) rfl) (r1.append (.cons rfl .nil)) (by rw [List.length_append, List.length_append, r1.length, hl1] <;> rfl) ⟨rfl, rfl⟩
        rw [List.zip_append hl1.symm] at q
        exact q
      · obtain ⟨rfl, rfl⟩ := hx
        exact ⟨_, hbody cdv A outer s2 _ E (hr.deeper _), body_end rsT st1 (Post.ext e1 hp)⟩
    · exact hp.elim
  · exact absurd rfl e
end
section
variable {X : Cx} {W : WX} {a b c o : Expr} {es : List Expr} {pos p apos : Pos} {ma mb mo : DE} {mr : DM (List D)} {m x : Str} {k : Nat} {f : Addr} {mf : DF}
theorem run_fnRD {pins : List (Addr × Obj)} {t : L2.St} {H : Hp} {s : Shared} {Q : VK} {E : XK} {us : List Value} {vs : List V} {sp : Sp} {CX : CXT} (F : FnG X.prog X.w X.K X.mg X.base CX k f sp) (hr : Rm k X.A) (hx : PassesAt CX X t E) (I : Inv X pins t H s) (r : Vals vs us) (h : sp vs H Q E) :
    wpAny (model X.prog X.w) X.A (call (.ref f) us) (EP X pins t Q) X.xe s := by
  refine wpAny_call (codeAny_mono (F X.A X.stack s H us vs Q E hr I.env0 r h) fun z s' hz => ?_)
  cases z with
  | error er => exact hx pins H s er s' I hz
  | ok fl =>
    cases fl with
    | ret u => exact I.after hz
    | _ => exact hz.elim
theorem sp_post {w : Wd} {s : Sto} {vs : List V} {dv : List D} {Q : VK} {E : XK} {K : Frag} (rs : Reps K w vs dv) (st : StR K w s) (hp : Post K (Rep K) w E Q (mf dv s)) : spD K mf vs w.H Q E := ⟨dv, s, w, rfl, rs, st, hp⟩
theorem sp_bind {w : Wd} {s : Sto} {r : En} {t : L2.St} {Q : VK} {K : Frag} (hp : Post K (Rep K) w (fun c d H' => W c d t H') Q (callM mf mr r s)) : Post K (Reps K) w (fun c d H' => W c d t H') (fun vs H1 => spD K mf vs H1 Q (WE W t)) (mr r s) := by
  unfold callM bindM at hp
  cases e : mr r s with
  | ok dv s1 =>
    rw [e] at hp
    exact fun vs w1 e1 st1 r1 => sp_post r1 st1 (Post.ext e1 hp)
  | exc C fs s1 => rw [e] at hp; exact hp
  | bad => rw [e] at hp; exact hp
/-- f(e, ..) -/
theorem e_call (tk : Takes X W) (F : FnD X.prog X.w X.K X.mg X.base k f mf) (hr : Rm k X.A) (hg : Gl X x) (hm : X.mg x = some (.ref f)) (hk : PySem.W.keepIn X.K (.ref f) = true)
    (ha : PA X (a :: es) (tA X.K W mr)) (hdb : (x == ("__debug__" : Str)) = false := by decide) (he : starEach (a :: es) X.env = (false, eval a X.env) :: starEach es X.env := by rfl) (hpl : (backTo pos (starEach es X.env)).any (·.1) = false := by rfl) :
    PE X (.Call (.Name x p) (a :: es) [] pos) (tE X.K W (callM mf mr)) := by
  refine ⟨fun pins s t H Q I h => ?_⟩
  obtain ⟨r, so, w, rfl, env, st, hp⟩ := h
  refine wpAny_Call_Name_kw (ld_glob I hg hm ?_ hdb)
  refine PySem.W.callWith_K (h₀ := X.base) I.ok.mod.kin hk (thn (ha.run pos pins s t w.H _ I ⟨r, so, w, rfl, env, st, sp_bind hp⟩) fun us s1 ⟨vs, H1, I1, rv, q⟩ => ⟨I1.kIn, ?_⟩) he hpl
  exact run_fnRD F hr (passAt tk t) I1 rv q
/-! attributes -/
structure PropD (X : Cx) (C : Str) (f : Str) (m : DF) : Prop where
  cls : Cls X.K (He.ga X.K C)
  ex : ∃ (q g : Addr) (k : Nat), PropOf X.K (He.ga X.K C) f q g ∧ FnD X.prog X.w X.K X.mg X.base k g m ∧ Rm (k + 1) X.A
theorem getprop_R {C q g a0 dx : Addr} {fs : List (Str × V)} {nm : Str} {sp : Sp} {CX : CXT} {E : XK} {pins : List (Addr × Obj)} {t : L2.St} {H : Hp} {s : Shared} {Q : VK} {bb : Bool} {E1 : Value → Shared → Prop} (I : Inv X pins t H s) (ea : H a0 = some (.ins C dx fs)) (c : Cls X.K C) (hp : PropOf X.K C nm q g)
    (F : FnG X.prog X.w X.K X.mg X.base CX k g sp) (hr : Rm (k + 1) X.A) (hx : Passes CX X.nox E) (h : sp [.ref a0] H Q E) : wpAny (model X.prog X.w) X.A (getAttr (.ref a0) nm bb) (EP X pins t Q) E1 s := by
  obtain ⟨mA, O, _, _, _, _⟩ := ins_get I.hok ea
  obtain ⟨od, J, _⟩ := O.look
  obtain ⟨rest, hrec⟩ := hp.rec_
  have I1 := I.tok (s.toks + 1)
  have hc : (PySem.W.clsIn X.K C).isSome = true := by
    obtain ⟨cd, hc, _⟩ := PySem.W.any_some c.hd
    rw [hc]
    rfl
  have P1 := PySem.W.plainGet_of (c.get nm)
  refine PySem.W.get_bind I.kIn J P1.1 (PySem.W.findObj_data hc hp.at_ hp.get hp.tak) P1.2 (wpAny_call (PySem.W.prop_get (s := { s with toks := s.toks + 1 }) I.kIn hrec ?_))
  refine codeAny_mono (F X.A.in1 X.stack { s with toks := s.toks + 1 } H [.ref a0] [.ref a0] Q E hr.in1 I1.env0.in1 (.cons rfl .nil) h) fun z s' hz => ?_
  cases z with
  | error er => exact (hx pins t H _ er s' (I1.wish _) hz).elim
  | ok fl =>
    cases fl with
    | ret u =>
      obtain ⟨v, H2, I3, rv, q3⟩ := I1.after hz
      refine wpAny_of_eq (PySem.W.handedOut_of (handed_of rv)) ?_
      exact ⟨v, H2, I3, rv, q3⟩
    | _ => exact hz.elim
inductive ATab (X : Cx) (f : Str) : List (Str × Ak) → Prop
  | nil : ATab X f []
  | fld {C : Str} {r : List (Str × Ak)} : Cls X.K (He.ga X.K C) → NoAttr X.K (He.ga X.K C) f → ATab X f r → ATab X f ((C, .fld) :: r)
  | prop {C : Str} {m : DF} {r : List (Str × Ak)} : PropD X C f m → (∀ d s C fs s', m [d] s ≠ .exc C fs s') → ATab X f r → ATab X f ((C, .prop m) :: r)
  | con {C : Str} {d : D} {v : V} {u : Value} {r : List (Str × Ak)} : Cls X.K (He.ga X.K C) → Con X.K (He.ga X.K C) f v u → (∀ w, Rep X.K w v d) → ATab X f r → ATab X f ((C, .con d) :: r)
def AkOk (X : Cx) (f C : Str) : Ak → Prop
  | .fld => Cls X.K (He.ga X.K C) ∧ NoAttr X.K (He.ga X.K C) f
  | .prop m => PropD X C f m ∧ ∀ d s C fs s', m [d] s ≠ .exc C fs s'
  | .con d => Cls X.K (He.ga X.K C) ∧ ∃ v u, Con X.K (He.ga X.K C) f v u ∧ ∀ w, Rep X.K w v d
theorem ATab.get {f C : Str} {kd : Ak} : ∀ {tb : List (Str × Ak)}, ATab X f tb → tb.lookup C = some kd → AkOk X f C kd
  | _, .nil, h => by simp at h
  | _, .fld (C := E) h1 h2 r, h => by
    by_cases e : C = E
    · subst e
      rw [List.lookup_cons_self] at h
      cases h
      exact ⟨h1, h2⟩
    · have hb : (C == E) = false := by simpa using e
      rw [List.lookup_cons, hb] at h
      exact r.get h
  | _, .prop (C := E) h1 h2 r, h => by
    by_cases e : C = E
    · subst e
      rw [List.lookup_cons_self] at h
      cases h
      exact ⟨h1, h2⟩
    · have hb : (C == E) = false := by simpa using e
      rw [List.lookup_cons, hb] at h
      exact r.get h
  | _, .con (C := E) h1 h2 h3 r, h => by
    by_cases e : C = E
    · subst e
      rw [List.lookup_cons_self] at h
      cases h
      exact ⟨h1, _, _, h2, h3⟩
    · have hb : (C == E) = false := by simpa using e
      rw [List.lookup_cons, hb] at h
      exact r.get h
theorem e_attr {g : Str} {tb : List (Str × Ak)} (T : ATab X g tb) (ha : PE X a (tE X.K W ma)) (hab : attributeBase a g X.env (eval a X.env) = eval a X.env := by rfl) : PE X (.Attribute a g pos) (tE X.K W (attrM tb g ma)) := by
  refine ⟨fun pins s t H Q I h => ?_⟩
  obtain ⟨r, so, w, rfl, env, st, hp⟩ := h
  refine attr_of hab (thn (ha.run pins s t w.H (fun x H1 => ∃ d s1 w1, w1.H = H1 ∧ StR X.K w1 s1 ∧ Rep X.K w1 x d ∧ Post X.K (Rep X.K) w1 (fun c d H' => W c d t H') Q (attrD tb g d s1)) I (hp.bind env st fun x d s1 w1 e1 st1 r1 hp1 => ⟨d, s1, w1, rfl, st1, r1, hp1⟩)) fun v s1 h => ?_)
  obtain ⟨y, H1, I1, rx, d, so1, w1, rfl, st1, r1, hp1⟩ := h
  unfold attrD at hp1
  cases e : insOf so1 d with
  | none => rw [e] at hp1; exact hp1.elim
  | some q =>
    obtain ⟨C, fs⟩ := q
    rw [e] at hp1
    dsimp only at hp1
    obtain ⟨q, dx, l, rfl, hh, kv⟩ := insOf_ok st1 r1 e
    obtain rfl : v = Value.ref q := rx
    cases e2 : tb.lookup C with
    | none => rw [e2] at hp1; exact hp1.elim
    | some kd =>
      rw [e2] at hp1
      have A := T.get e2
      have g1 := kv.lookup (f := g)
      cases kd with
      | fld =>
        dsimp only at hp1
        cases e3 : fs.lookup g with
        | none => rw [e3] at hp1; exact hp1.elim
        | some d3 =>
          rw [e3] at g1 hp1
          obtain ⟨v3, hv3, rv3⟩ := g1
          exact getattr_ok I1 hh A.1 A.2 hv3 fun u' s2 I2 ru => ⟨v3, w1.H, I2, ru, hp1.pure st1 rv3⟩
      | prop mm =>
        obtain ⟨⟨hc, q2, g2, kk, hpo, F, hr⟩, nox⟩ := A
        refine getprop_R (E := fun _ _ _ => False) I1 hh hc hpo F hr (fun pins σ H s e s' _ z => ?_) ?_
        · obtain ⟨_, _, _, _, _, _, _, _, _, _, _, _, z⟩ := z
          exact z
        · refine sp_post (.cons r1 .nil) st1 ?_
          dsimp only at hp1
          cases e4 : mm [d] so1 with
          | ok d4 s4 => rw [e4] at hp1; exact hp1
          | exc E4 f4 s4 => exact absurd e4 (nox _ _ _ _ _)
          | bad => rw [e4] at hp1; exact hp1
      | con dc =>
        obtain ⟨hc, v3, u3, hcon, rep3⟩ := A
        dsimp only at hp1
        cases e3 : fs.lookup g with
        | some d3 => rw [e3] at hp1; exact hp1.elim
        | none =>
          rw [e3] at g1 hp1
          exact getcon_ok I1 hh hc hcon g1 fun s2 I2 => ⟨v3, w1.H, I2, hcon.rel, hp1.pure st1 (rep3 w1)⟩
/-! methods -/
structure MethD (X : Cx) (C m : Str) (mf : DF) : Prop where
  cls : Cls X.K (He.ga X.K C)
  ex : ∃ (g : Addr) (k : Nat), Meth X.K (He.ga X.K C) m g ∧ FnD X.prog X.w X.K X.mg X.base k g mf ∧ Rm k X.A
inductive MTab (X : Cx) (m : Str) : List (Str × DF) → Prop
  | nil : MTab X m []
  | cons {C : Str} {f : DF} {r : List (Str × DF)} : MethD X C m f → MTab X m r → MTab X m ((C, f) :: r)
theorem MTab.get {C : Str} {f : DF} : ∀ {tb : List (Str × DF)}, MTab X m tb → tb.lookup C = some f → MethD X C m f
  | _, .nil, h => by simp at h
  | _, .cons (C := E) h1 r, h => by
    by_cases e : C = E
    · subst e
      rw [List.lookup_cons_self] at h
      cases h
      exact h1
    · have hb : (C == E) = false := by simpa using e
      rw [List.lookup_cons, hb] at h
      exact r.get h
/-- the receiver is known, its method found -/
theorem meth_mid {tb : List (Str × DF)} {pins : List (Addr × Obj)} {t : L2.St} {Q : VK} {r : En} {so : Sto} {w : Wd} {s : Shared} (I : Inv X pins t w.H s) (ho : PE X o (tE X.K W mo)) (env : EnvR X.K w r t) (st : StR X.K w so) (hp : Post X.K (Rep X.K) w (fun c d H' => W c d t H') Q (methM tb m mo mr r so)) {Q2 : Value → Shared → Prop}
    (k : ∀ (q : Addr) (C : Str) (f : DF) (d : D) (s1 : Shared) (so1 : Sto) (w1 : Wd) (dx : Addr) (l : List (Str × V)), Inv X pins t w1.H s1 → Ext w w1 → StR X.K w1 so1 → Rep X.K w1 (.ref q) d → w1.H q = some (.ins (He.ga X.K C) dx l) → l.lookup m = none → tb.lookup C = some f →
      Post X.K (Rep X.K) w1 (fun c d H' => W c d t H') Q ((bindM mr fun ds => fun _ s => f (d :: ds) s) r so1) → Q2 (.ref q) s1) : wpAny (model X.prog X.w) X.A (eval o X.env) Q2 X.xe s := by
  refine thn (ho.run pins s t w.H (fun x H1 => ∃ d s1 w1, w1.H = H1 ∧ Ext w w1 ∧ StR X.K w1 s1 ∧ Rep X.K w1 x d ∧ Post X.K (Rep X.K) w1 (fun c d H' => W c d t H') Q (match insOf s1 d with
    | none => .bad
    | some (C, fs) => (match fs.lookup m with
      | some _ => .bad
      | none => (match tb.lookup C with
        | none => .bad
        | some f => (bindM mr fun ds => fun _ s => f (d :: ds) s) r s1)))) I (hp.bind env st fun x d s1 w1 e1 st1 r1 hp1 => ⟨d, s1, w1, rfl, e1, st1, r1, hp1⟩)) fun v s1 h => ?_
  obtain ⟨y, H1, I1, rx, d, so1, w1, rfl, e1, st1, r1, hp1⟩ := h
  cases e : insOf so1 d with
  | none => rw [e] at hp1; exact hp1.elim
  | some q =>
    obtain ⟨C, fs⟩ := q
    rw [e] at hp1
    dsimp only at hp1
    obtain ⟨q, dx, l, rfl, hh, kv⟩ := insOf_ok st1 r1 e
    obtain rfl : v = Value.ref q := rx
    have g1 := kv.lookup (f := m)
    cases e3 : fs.lookup m with
    | some d3 => rw [e3] at hp1; exact hp1.elim
    | none =>
      rw [e3] at g1 hp1
      dsimp only at hp1
      cases e2 : tb.lookup C with
      | none => rw [e2] at hp1; exact hp1.elim
      | some f =>
        rw [e2] at hp1
        exact k q C f d s1 so1 w1 dx l I1 e1 st1 r1 hh g1 e2 hp1
theorem meth_bind {w : Wd} {so : Sto} {r : En} {t : L2.St} {Q : VK} {K : Frag} {q : Addr} {d : D} (r1 : Rep K w (.ref q) d) (hp : Post K (Rep K) w (fun c d H' => W c d t H') Q ((bindM mr fun ds => fun _ s => mf (d :: ds) s) r so)) :
    Post K (Reps K) w (fun c d H' => W c d t H') (fun vs H2 => spD K mf (.ref q :: vs) H2 Q (WE W t)) (mr r so) := by
  unfold bindM at hp
  cases e : mr r so with
  | ok dv s3 =>
    rw [e] at hp
    exact fun vs w3 e3 st3 r3 => sp_post (.cons (r1.ext e3) r3) st3 (Post.ext e3 hp)
  | exc C fs s3 => rw [e] at hp; exact hp
  | bad => rw [e] at hp; exact hp
theorem e_meth {pl : Sem Bool} {tb : List (Str × DF)} (tk : Takes X W) (T : MTab X m tb) (ho : PE X o (tE X.K W mo)) (ha : PA X (a :: es) (tA X.K W mr))
    (hst : starEach (a :: es) X.env = (false, eval a X.env) :: starEach es X.env := by rfl) (hpl : (backTo pos (starEach es X.env)).any (·.1) = false := by rfl)
    (ht : eval (.Call (.Attribute o m apos) (a :: es) [] pos) X.env = (eval o X.env >>= fun ov => standAt apos.atName >>= fun _ => holding [ov] (getMethod ov m pl) >>= fun z => callWith pos z.1 z.2 (backTo pos (starEach (a :: es) X.env)) (backToKw pos (keywordEach [] X.env))) := by rfl) :
    PE X (.Call (.Attribute o m apos) (a :: es) [] pos) (tE X.K W (methM tb m mo mr)) := by
  refine ⟨fun pins s t H Q I h => ?_⟩
  obtain ⟨r, so, w, rfl, env, st, hp⟩ := h
  refine PySem.W.methodCall_KW (pl := pl) (meth_mid I ho env st hp fun q C f d s1 so1 w1 dx l I1 e1 st1 r1 hh g1 e2 hp1 => ?_) ht
  obtain ⟨hc, g, kk, hm, F, hr⟩ := T.get e2
  refine getmeth_ok I1 hh hc hm g1 ?_
  refine PySem.W.callWith_K (first := [.ref q]) (h₀ := X.base) I1.ok.mod.kin hm.kp (thn (ha.run pos pins s1 t w1.H (fun vs H2 => spD X.K f (.ref q :: vs) H2 Q (WE W t)) I1 ⟨r, so1, w1, rfl, env.ext e1, st1, meth_bind r1 hp1⟩) fun us s2 z => ?_) hst hpl
  obtain ⟨vs, H2, I2, rv, q2⟩ := z
  exact ⟨I2.kIn, run_fnRD (us := .ref q :: us) (vs := .ref q :: vs) F hr (passAt tk t) I2 (.cons rfl rv) q2⟩
/-- o.m( *e) -/
structure MethB (X : Cx) (C m : Str) (mf : DF) : Prop where
  cls : Cls X.K (He.ga X.K C)
  ex : ∃ (g : Addr) (k : Nat), BMeth X.K (He.ga X.K C) m g ∧ FnD X.prog X.w X.K X.mg X.base k g mf ∧ Rm k X.A
inductive BTab (X : Cx) (m : Str) : List (Str × DF) → Prop
  | nil : BTab X m []
  | cons {C : Str} {f : DF} {r : List (Str × DF)} : MethB X C m f → BTab X m r → BTab X m ((C, f) :: r)
theorem BTab.get {C : Str} {f : DF} : ∀ {tb : List (Str × DF)}, BTab X m tb → tb.lookup C = some f → MethB X C m f
  | _, .nil, h => by simp at h
  | _, .cons (C := E) h1 r, h => by
    by_cases e : C = E
    · subst e
      rw [List.lookup_cons_self] at h
      cases h
      exact h1
    · have hb : (C == E) = false := by simpa using e
      rw [List.lookup_cons, hb] at h
      exact r.get h
def starA (e : DE) : DM (List D) := bindM e fun x => fun _ s => match x with
  | .tup l => .ok l s
  | _ => .bad
theorem e_methS {tb : List (Str × DF)} (tk : Takes X W) (T : BTab X m tb) (ho : PE X o (tE X.K W mo)) (ha : PE X a (tE X.K W ma)) (hbase : attributeBase o m X.env (eval o X.env) = eval o X.env := by rfl) :
    PE X (.Call (.Attribute o m apos) [.Starred a p] [] pos) (tE X.K W (methM tb m mo (starA ma))) := by
  refine ⟨fun pins s t H Q I h => ?_⟩
  obtain ⟨r, so, w, rfl, env, st, hp⟩ := h
  refine starcall_of hbase (meth_mid I ho env st hp fun q C f d s1 so1 w1 dx l I1 e1 st1 r1 hh g1 e2 hp1 => ?_)
  obtain ⟨hc, g, kk, hm, F, hr⟩ := T.get e2
  refine getbound_ok I1 hh hc hm g1 fun q1 s2 hq1 I2 => ?_
  refine PySem.W.ks_call (P := PySem.W.MethP X.K q1 g (.ref q)) rfl (PySem.W.keeps_M hm.fi) (PySem.W.ks_lone ?_)
  have e3 := Wd.frz_ext st1 (o := .met g q) hq1
  have st3 := Wd.frz_st st1 (o := .met g q) hq1
  have hp3 := Post.ext e3 hp1
  refine thn (ha.run pins s2 t (w1.frz q1 (.met g q)).H (fun y H2 => ∃ b vs, y = .ref b ∧ SqT X.K H2 b vs ∧ H2 q1 = some (.met g q) ∧ spD X.K f (.ref q :: vs) H2 Q (WE W t)) I2 ⟨r, so1, w1.frz q1 (.met g q), rfl, (env.ext e1).ext e3, st3, ?_⟩) fun v s3 h3 => ?_
  · unfold starA bindM at hp3
    cases e : ma r so1 with
    | bad => rw [e] at hp3; exact hp3
    | exc C fs s3 => rw [e] at hp3; exact hp3
    | ok dv s4 =>
      rw [e] at hp3
      intro y w5 e5 st5 r5
      have hp5 := Post.ext e5 hp3
      dsimp only at hp5
      cases dv with
      | tup l =>
        cases r5 with
        | tup ht rs =>
          refine ⟨_, _, rfl, ht.sq, (e5.H q1 Wd.frz_z).trans Wd.frz_h, ?_⟩
          exact sp_post (.cons ((r1.ext e3).ext e5) rs) st5 hp5
      | _ => exact hp5.elim
  · obtain ⟨y, H2, I3, ry, b, vs, ey, hs, hmt, hsp⟩ := h3
    subst ey
    obtain rfl : v = Value.ref b := ry
    refine star_tup I3 hs fun us s4 I4 rv => ⟨met_P I4 hmt, ?_⟩
    refine wpAny_call (PySem.W.method_call (met_P I4 hmt).1 ?_)
    refine codeAny_mono (F X.A X.stack s4 H2 (.ref q :: us) (.ref q :: vs) Q (WE W t) hr I4.env0 (.cons rfl rv) hsp) fun z s' hz => ?_
    cases z with
    | error er => exact passAt tk t pins H2 s4 er s' I4 hz
    | ok fl =>
      cases fl with
      | ret u => exact I4.after hz
      | _ => exact hz.elim
/-! making -/
theorem run_makeAt {pins : List (Addr × Obj)} {t : L2.St} {H : Hp} {s : Shared} {Q : VK} {E : XK} {us : List Value} {vs : List V} {C : Addr} {CX : CXT} {sp : Sp} (M : Mk X.K C f) (F : FnG X.prog X.w X.K X.mg X.base CX k f sp) (hr : Rm (k + 1) X.A)
    (hx : PassesAt CX X t E) (I : Inv X pins t H s) (r : Vals vs us)
    (h : ∀ x dx, H x = none → H dx = none → dx ≠ x → sp (.ref x :: vs) (upd (upd H dx (.own x)) x (.ins C dx [])) (fun v H2 => v = .non ∧ Q (.ref x) H2) E) : wpAny (model X.prog X.w) X.A (call (.ref C) us) (EP X pins t Q) X.xe s := by
  have h0 := h (s.heap.objs.size + 1) s.heap.objs.size (I.hok.fresh (Nat.le_succ _)) (I.hok.fresh (Nat.le_refl _)) (Nat.ne_of_lt (Nat.lt_succ_self _))
  have J := Inv.made (C := C) I
  have rr : Vals (V.ref (s.heap.objs.size + 1) :: vs) (Value.ref (s.heap.objs.size + 1) :: us) := .cons rfl r
  refine wpAny_call (make_map (f := f) I.kIn M.makes M.init (beq_iff_eq.mp M.fn) (codeAny_mono (F _ X.stack _ _ (.ref (s.heap.objs.size + 1) :: us) _ _ E (hr.make C us []) (J.env0.make C us []) rr h0) fun z s' hz => ?_))
  cases z with
  | error er => exact hx pins _ _ er s' J hz
  | ok fl =>
    cases fl with
    | ret u =>
      obtain ⟨v, H3, J3, rv, ev, q3⟩ := J.after hz
      subst ev
      exact ⟨rv, ⟨.ref (s.heap.objs.size + 1), H3, J3, rfl, q3⟩⟩
    | next => exact hz.elim
    | brk => exact hz.elim
    | cont => exact hz.elim
/-- what the making of an instance asks -/
theorem make_mid {w : Wd} {s : Sto} {vs : List V} {dv : List D} {t : L2.St} {Q : VK} {E : XK} {cc : Str} {kk : Bool} (st : StR X.K w s) (rs : Reps X.K w vs dv)
    (hp : Post X.K (Rep X.K) w E Q (match mf (.cel s.length :: dv) (s ++ [some (.ins cc [])]) with
      | .ok .non s' => freezeI kk s.length s'
      | .ok _ _ => .bad
      | .exc E fs s' => .exc E fs s'
      | .bad => .bad)) :
    ∀ x dx, w.H x = none → w.H dx = none → dx ≠ x → spD X.K mf (.ref x :: vs) (upd (upd w.H dx (.own x)) x (.ins (He.ga X.K cc) dx [])) (fun v H2 => v = .non ∧ Q (.ref x) H2) E := fun x dx nx ndx ne => by
  have e1 := Wd.put_ext st (o := .own x) ndx
  have st1 := Wd.put_st st (o := .own x) ndx
  have nx1 : (w.put dx (.own x)).H x = none := (upd_ne fun z => ne z.symm).trans nx
  have e2 := Wd.cell_ext st1 (o := .ins (He.ga X.K cc) dx []) nx1
  have st2 : StR X.K ((w.put dx (.own x)).cell s.length x (.ins (He.ga X.K cc) dx [])) (s ++ [some (.ins cc [])]) := Wd.cell_st st1 nx1 ⟨dx, [], upd_same, .nil⟩
  have hA : ((w.put dx (.own x)).cell s.length x (.ins (He.ga X.K cc) dx [])).A s.length = some x := if_pos rfl
  have rs2 : Reps X.K ((w.put dx (.own x)).cell s.length x (.ins (He.ga X.K cc) dx [])) (.ref x :: vs) (.cel s.length :: dv) := .cons (.cel hA) (rs.ext (e1.trans e2))
  refine ⟨_, _, (w.put dx (.own x)).cell s.length x (.ins (He.ga X.K cc) dx []), rfl, rs2, st2, ?_⟩
  have hp2 := Post.ext (e1.trans e2) hp
  cases e : mf (.cel s.length :: dv) (s ++ [some (.ins cc [])]) with
  | bad => rw [e] at hp2; exact hp2
  | exc E2 fs s2 => rw [e] at hp2; exact hp2
  | ok d s3 =>
    rw [e] at hp2
    intro v w3 e3 st3 rv
    cases rv with
    | non =>
      refine ⟨rfl, ?_⟩
      have A3 := e3.A _ _ hA
      have hp3 := Post.ext e3 hp2
      dsimp only at hp3
      unfold freezeI at hp3
      cases kk with
      | true => exact hp3.pure st3 (.cel A3)
      | false =>
        have hp4 : Post X.K (Rep X.K) w3 E Q (match s3[s.length]? with
          | some (some (.ins C fs)) => .ok (.ins C fs) (s3.set s.length none)
          | _ => .bad) := hp3
        cases e5 : s3[s.length]? with
        | none => rw [e5] at hp4; exact hp4.elim
        | some oc =>
          rw [e5] at hp4
          cases oc with
          | none => exact hp4.elim
          | some ct =>
            cases ct with
            | ins C fs =>
              obtain ⟨a1, h1, hz, dx1, l, hh, kv⟩ := st3.at_ _ _ e5
              have ea : a1 = x := Option.some.inj (h1.symm.trans A3)
              subst ea
              exact hp4 (.ref a1) (w3.ice a1) Wd.ice_ext (Wd.ice_st st3 e5 h1) (.insK (.inr rfl) hh (kv.ext Wd.ice_ext))
            | _ => exact hp4.elim
    | _ => exact hp2.elim
theorem e_make {cc : Str} (kk : Bool) (tk : Takes X W) (M : Mk X.K (He.ga X.K cc) f) (F : FnD X.prog X.w X.K X.mg X.base k f mf) (hr : Rm (k + 1) X.A) (hg : Gl X cc) (hm : X.mg cc = some (.ref (He.ga X.K cc)))
    (ha : PA X (a :: es) (tA X.K W mr)) (hdb : (cc == ("__debug__" : Str)) = false := by decide) (he : starEach (a :: es) X.env = (false, eval a X.env) :: starEach es X.env := by rfl) (hpl : (backTo pos (starEach es X.env)).any (·.1) = false := by rfl) :
    PE X (.Call (.Name cc p) (a :: es) [] pos) (tE X.K W (makeM kk cc mf mr)) := by
  refine ⟨fun pins s t H Q I h => ?_⟩
  obtain ⟨r, so, w, rfl, env, st, hp⟩ := h
  refine wpAny_Call_Name_kw (ld_glob I hg hm ?_ hdb)
  refine PySem.W.callWith_K (h₀ := X.base) I.ok.mod.kin M.kp (thn (ha.run pos pins s t w.H (fun vs H2 => ∀ x dx, H2 x = none → H2 dx = none → dx ≠ x → spD X.K mf (.ref x :: vs) (upd (upd H2 dx (.own x)) x (.ins (He.ga X.K cc) dx [])) (fun v H3 => v = .non ∧ Q (.ref x) H3) (WE W t)) I ?_) fun us s2 z => ?_) he hpl
  · refine ⟨r, so, w, rfl, env, st, ?_⟩
    unfold makeM bindM at hp
    cases e : mr r so with
    | ok dv s3 =>
      rw [e] at hp
      exact fun vs w3 e3 st3 r3 => make_mid (t := t) st3 r3 (Post.ext e3 hp)
    | exc C fs s3 => rw [e] at hp; exact hp
    | bad => rw [e] at hp; exact hp
  · obtain ⟨vs, H2, I2, rv, q2⟩ := z
    exact ⟨I2.kIn, run_makeAt (E := WE W t) M F hr (passAt tk t) I2 rv q2⟩
theorem e_make0 {cc : Str} (kk : Bool) (tk : Takes X W) (M : Mk X.K (He.ga X.K cc) f) (F : FnD X.prog X.w X.K X.mg X.base k f mf) (hr : Rm (k + 1) X.A) (hg : Gl X cc) (hm : X.mg cc = some (.ref (He.ga X.K cc)))
    (hdb : (cc == ("__debug__" : Str)) = false := by decide) : PE X (.Call (.Name cc p) [] [] pos) (tE X.K W (makeM kk cc mf nilA)) := by
  refine ⟨fun pins s t H Q I h => ?_⟩
  obtain ⟨r, so, w, rfl, env, st, hp⟩ := h
  refine wpAny_Call_Name_kw (ld_glob I hg hm ?_ hdb)
  exact PySem.W.callWith_K0 I.kIn M.kp (run_makeAt (us := []) (vs := []) (E := WE W t) M F hr (passAt tk t) I .nil (make_mid (t := t) st .nil hp))
/-! o.f = e -/
theorem s_fld {tb : List Str} {g : Str} {pos' : Pos} (hT : ∀ C ∈ tb, Cls X.K (He.ga X.K C) ∧ NoAttr X.K (He.ga X.K C) g) (ho : PE X o (tE X.K W mo)) (hv : PE X a (tE X.K W ma)) (hs : swapsWith a (some (.Attribute o g pos')) pos.line X.env = pure false := by rfl) :
    PS X (.Assign [.Attribute o g pos'] a pos) (tS X.K W (fldS tb g mo ma)) := PS.imp (ps_fld ho hv hs) fun E t H h => by
  obtain ⟨r, s, w, rfl, env, st, hp⟩ := h
  exact hp.bind env st fun y dy s1 w1 e1 st1 r1 hp1 => hp1.bind (env.ext e1) st1 fun x d s2 w2 e2 st2 r2 hp2 => by
    cases r2 with
    | @cel n a0 hA =>
      dsimp only at hp2
      cases e5 : s2[n]? with
      | none => rw [e5] at hp2; exact hp2.elim
      | some oc =>
        rw [e5] at hp2
        cases oc with
        | none => exact hp2.elim
        | some ct =>
          cases ct with
          | ins C fs =>
            dsimp only at hp2
            split at hp2
            · rename_i hc
              obtain ⟨hc1, hc2⟩ := hT C hc.1
              obtain ⟨a1, h1, hz, dx1, l, hh, kv⟩ := st2.at_ _ _ e5
              have ea : a1 = a0 := Option.some.inj (h1.symm.trans hA)
              subst ea
              have nP := st2.np n _ a1 e5 h1
              have e3 : Ext w2 (w2.put a1 (.ins (He.ga X.K C) dx1 (putF g y l))) := Wd.mut_ext hz nP
              refine ⟨a1, _, dx1, l, rfl, hh, hc1, hc2, by rw [kv.length]; exact hc.2, ?_⟩
              refine hp2 t (w2.put a1 (.ins (He.ga X.K C) dx1 (putF g y l))) e3 (((env.ext e1).ext e2).ext e3) (Wd.mut_st st2 e5 h1 hz ⟨dx1, _, upd_same, ?_⟩)
              exact (kv.ext e3).put ((r1.ext e2).ext e3)
            · exact hp2.elim
          | _ => exact hp2.elim
    | _ => exact hp2.elim
end
end Mp
set_option Elab.async false
set_option linter.all false
set_option maxRecDepth 100000
set_option maxHeartbeats 4000000
/-! Mp: exceptions of the program: class C(B) whose __init__ says B.__init__(self, text) and stores one field or none. -/
namespace Mp
open PySem PySem.Spec PyProof.Rows L2
/-! ### the base -/
structure BaseX (B newId initId : String) (bm : List Value) : Prop where
  F : ExcBaseFacts B newId initId bm
  pass : ∀ self : Value, refuseLoop self "__setattr__" bm = pure ()
  ob : bm.contains (.type "object") = true
  boot : bootBuiltins (Str.ofString B) = some (.type B)
  typ : typeOf (.type B) = pure (.type "type")
  nn : Str.ofString B ≠ "__name__"
  nd : (Str.ofString B == ("__debug__" : Str)) = false
  stub : Manifest.isStub B = false
  hand : PySem.W.handedIn (.builtin initId) = true
  fnd : ∀ K : Frag, PySem.W.findCls K (.type B) (.type "type") "__init__" = some (.val (.builtin initId))
abbrev mValue : List Value := [.type "ValueError", .type "Exception", .type "BaseException", .type "object"]
abbrev mArith : List Value := [.type "ArithmeticError", .type "Exception", .type "BaseException", .type "object"]
theorem bxValue : BaseX "ValueError" "ValueError.__new__" "ValueError.__init__" mValue := ⟨F.excBase_ValueError, F.store_ValueError.passes, by decide +kernel, by decide +kernel, by kernel_rfl, by decide +kernel, by decide +kernel, by decide +kernel, by decide +kernel, fun K => by kernel_rfl⟩
theorem bxArith : BaseX "ArithmeticError" "ArithmeticError.__new__" "ArithmeticError.__init__" mArith := ⟨F.excBase_ArithmeticError, F.store_ArithmeticError.passes, by decide +kernel, by decide +kernel, by kernel_rfl, by decide +kernel, by decide +kernel, by decide +kernel, by decide +kernel, fun K => by kernel_rfl⟩
/-! ### the class -/
def exB (K : Frag) (C : Addr) (bm : List Value) (newId : String) : Bool := match K.lookup C with
  | some ⟨.type c, _, .cls cd, sl⟩ => decide (c = "type") && (cd.hasDict && (!cd.hasDel && (decide (cd.mro = .ref C :: bm) && (match sl.toList with
    | [_, _, _, _, some (.builtin n), _] => decide (n = newId)
    | _ => false))))
  | _ => false
theorem exB_ok {K : Frag} {C : Addr} {bm : List Value} {newId : String} (h : exB K C bm newId = true) : ∃ nm q N bs sn sub ab col dd k0 k1 k2 k3 k5, K.lookup C = some (excClassObj nm q C N bs bm true sn sub ab col dd k0 k1 k2 k3 k5 newId) := by
  unfold exB at h
  cases e : K.lookup C with
  | none => rw [e] at h; cases h
  | some o =>
    obtain ⟨oc, od, dt, sl⟩ := o
    rw [e] at h
    cases oc with
    | type c =>
      cases dt with
      | cls cd =>
        obtain ⟨h1, h⟩ := He.ba h
        obtain ⟨h2, h⟩ := He.ba h
        obtain ⟨h3, h⟩ := He.ba h
        obtain ⟨h4, h5⟩ := He.ba h
        have e1 := of_decide_eq_true h1
        have e4 := of_decide_eq_true h4
        have e3 : cd.hasDel = false := by simpa using h3
        obtain ⟨nm, bs, mro, ns, qn, hd, sn, sub, ab, col, del⟩ := cd
        dsimp only at h2 e3 e4
        subst e1 e3 e4 h2
        obtain ⟨sl⟩ := sl
        dsimp only at h5
        split at h5
        · have e5 := of_decide_eq_true h5
          subst e5
          exact ⟨nm, qn, ns, bs, sn, sub, ab, col, od, _, _, _, _, _, rfl⟩
        · cases h5
      | _ => cases h
    | _ => cases dt <;> cases h
structure OexB (K : Frag) (C : Addr) (B newId initId : String) (bm : List Value) : Prop where
  base : BaseX B newId initId bm
  cls : ∃ nm q N bs sn sub ab col dd k0 k1 k2 k3 k5, K.lookup C = some (excClassObj nm q C N bs bm true sn sub ab col dd k0 k1 k2 k3 k5 newId)
  sa : PySem.W.findIn K (.ref C) "__setattr__" = some (some (.builtin "object.__setattr__"))
  exC : PySem.W.subIn K (.ref C) (.type "BaseException") = some true
  tyC : PySem.W.typeIn K (.ref C) = some (.type "type")
  kC : PySem.W.keepIn K (.ref C) = true
section
open Builtin Builtin.ObjectAttr PySem.HandSPX
variable {prog : Program} {w : World} {A : Around} {E : Value → Shared → Prop} {R : Result → Shared → Prop} {hp : Heap} {g : Array GenState} {d : Drawn} {t : Nat} {os : OsState}
/-- self.name = v, the first one, on an exception -/
theorem exc_store {K : Frag} {name : Str} {tk : Tok} {v : Value} {x C : Addr} {fv : Array Value} {cd : ClassData} (X : K.In hp) (hx : hp.get? x = some { cls := .ref C, data := .fields fv }) (hcd : W.clsIn K C = some cd)
    (hne : cd.mro.isEmpty = false) (hob : cd.mro.contains (.type "object") = true) (hps : ∀ self, refuseLoop self "__setattr__" cd.mro = pure ()) (hh : cd.hasDict = true) (ha : W.findIn K (.ref C) name = some none)
    (hq : ∀ h' tk' dx, (∀ b o, b ≠ x → hp.get? b = some o → h'.get? b = some o) → hp.objs.size ≤ dx → dx ≠ x → h'.get? x = some { cls := .ref C, dict := some dx, data := .fields fv } → h'.Ns1 dx (fun y => if y = name then some v else none) → R (.ok (.ret .none)) ⟨h', g, d, tk', os⟩) :
    codeAny (model prog w) A (.call (.builtin "object.__setattr__") ⟨[.ref x, .str name tk, v], []⟩) R ⟨hp, g, d, t, os⟩ := by
  have J : W.InstAt hp x { cls := .ref C, data := .fields fv } C none := ⟨hx, rfl, rfl, trivial⟩
  have nx : x ≠ hp.objs.size := Nat.ne_of_lt (Heap.lt_size hx)
  have sub : W.Looks (model prog w) hp (isInstance (.ref x) (.type "object")) true := J.type.andThen (W.looks_mroIn X (by unfold W.mroIn; rw [hcd, Option.bind_some, if_neg (by rw [hne]; decide), hob]))
  refine codeAny_call_builtin F.store_object.slot.plain F.store_object.entry (@W.check_slot (model prog w) _ _ ⟨hp, g, d, t, os⟩ "object.__setattr__" "object" "__setattr__" (.ref x) [.str name tk, v] [] _ F.store_object.kind F.store_object.split sub (F.store_object.args _ _ _) ?_)
  have lm : W.Looks (model prog w) hp (mroOf (.ref C)) cd.mro := (W.looks_clsIn X hcd).andThen .now
  have ln : W.Looks (model prog w) hp (storeTaker? none) none := .now
  have lc : W.Looks (model prog w) hp (classData C) cd := W.looks_clsIn X hcd
  rw [W.osa_eq, refuse_eq]
  refine wpAny_bind (wpAny_bind (J.type.at (wpAny_bind (lm.at ?_))))
  rw [hps]
  refine wpAny_pure (wpAny_bind (J.type.at (wpAny_bind ((W.looks_findIn X ha).at (wpAny_bind (ln.at ?_))))))
  show wpAny _ _ (storeInOwnDict (.ref x) (.ref C) (.str name tk) name v false) _ _ _
  obtain ⟨nm, bs, mro, ns, qn, hd, sn, sb, ab, col, del⟩ := cd
  cases (show hd = true from hh)
  unfold storeInOwnDict ownDictForStores
  repeat (first | with_reducible refine store_in_new ?_ ?_ | with_reducible refine wpAny_loadPart_at hx ?_ | with_reducible refine lc.at ?_ | wp_step)
  · exact ⟨_, #[], _, (Heap.get?_update_ne _ _ _ _ nx.symm).trans (Heap.get?_push_at rfl rfl), rfl, fun e he => absurd he (by simp), fun _ => rfl⟩
  · intro h' tk' hn' hs
    refine hq h' tk' hp.objs.size (fun b o hb ho => (hs.2 b (Nat.ne_of_lt (Heap.lt_size ho))).trans ((Heap.get?_update_ne _ _ _ _ hb).trans (Heap.get?_push_of_some _ ho))) (Nat.le_refl _) nx.symm ?_ hn'
    exact (hs.2 x nx).trans (Heap.get?_update_self _ (Heap.get?_push_of_some _ hx) rfl)
end
section
variable {X : Cx} {pins : List (Addr × Obj)} {t : L2.St} {H : Hp} {s : Shared} {a C : Addr} {f : Str} {y : V} {u : Value} {Q : Unit → Shared → Prop} {E : Value → Shared → Prop} {A : Around} {B newId initId : String} {bm : List Value}
theorem ostB (T : OexB X.K C B newId initId bm) (I : Inv X pins t H s) (e : H a = some (exo a C none)) (hno : PySem.W.findIn X.K (.ref C) f = some none) (ry : RelV y u)
    (h : ∀ dx s', H dx = none → dx ≠ a → Inv X pins t (upd (upd H dx (exd dx [(f, y)])) a (exo a C (some dx))) s' → Q () s') : wpAny (model X.prog X.w) A (setAttr (.ref a) f u) Q E s := by
  obtain ⟨nm, q, N, bs, sn, sub, ab, col, dd, k0, k1, k2, k3, k5, hC⟩ := T.cls
  have hcl : PySem.W.clsIn X.K C = some { name := nm, bases := bs, mro := .ref C :: bm, ns := N, qualname := q, hasDict := true, slotNames := sn, subclasses := sub, abstract := ab, collection := col, hasDel := false } := by
    unfold PySem.W.clsIn
    rw [hC] <;> rfl
  obtain ⟨t1, ho⟩ := exo_at I.hok e
  obtain ⟨hp, g, d, tk, os⟩ := s
  refine PySem.W.set_plain I.kIn (ox := { cls := .ref C, dict := none, data := .fields #[.ref t1, .none, .none, .none, .bool false, .none] }) (od := none) ⟨ho, rfl, rfl, trivial⟩ T.sa ?_
  refine exc_store I.kIn ho hcl rfl (by show (Value.ref C :: bm).contains (.type "object") = true; rw [List.contains_cons, T.base.ob, Bool.or_true]) (fun self => (refuseLoop_ref self "__setattr__" C bm).trans (T.base.pass self)) rfl hno fun h' tk' dx k dn dne hx hn => ?_
  have hnd : H dx = none := I.hok.fresh dn
  have nd : ∀ {b : Addr} {o : Obj}, hp.get? b = some o → b ≠ dx := fun {b o} z => Nat.ne_of_lt (Nat.lt_of_lt_of_le (Heap.lt_size z) dn)
  have na : ∀ {b : Addr}, H b = none → b ≠ a := fun {b} n z => by
    rw [z, e] at n
    cases n
  have U : Un X.fs [] H (upd (upd H dx (exd dx [(f, y)])) a (exo a C (some dx))) hp h' :=
    ⟨fun b o z n _ _ => k b o (na n) z, fun b o z n _ _ => ⟨o.slots, k b o (na n) z⟩, fun b o z n _ => by rw [upd_ne (na n), upd_ne (nd z)]; exact n,
      fun b o z _ => by
        by_cases hb : b = a
        · exact ⟨_, hb ▸ hx⟩
        · exact ⟨o, k b o hb z⟩,
      fun b xs z => by rw [upd_ne (at_ne e z exo_tup), upd_ne (ne_of_none z hnd)]; exact z, fun b o v z => by rw [upd_ne (at_ne e z exo_frz), upd_ne (ne_of_none z hnd)]; exact z,
      fun b ps z => ⟨#[], by rw [upd_ne (at_ne e z exo_tbl), upd_ne (ne_of_none z hnd), z]; simp⟩⟩
  refine h dx _ hnd dne (I.un (t' := tk') U fun b o z => ?_)
  by_cases hb : b = a
  · subst hb
    rw [upd_same] at z
    cases z
    exact exo_ok hx
  · rw [upd_ne hb] at z
    by_cases hd : b = dx
    · subst hd
      rw [upd_same] at z
      cases z
      exact exd_ok hn (relO_put (fs := []) ry fun _ => trivial)
    · rw [upd_ne hd] at z
      refine (I.hok b o z).stay (fun c v hc y => k c v (hc.elim (fun hc => hc ▸ hb) fun hc => at_ne e hc exo_own) y) (fun c hc => ?_) fun c xs hc => ?_
      · rw [upd_ne (at_ne e hc exo_own), upd_ne (ne_of_none hc hnd)]
        exact hc
      · rw [upd_ne (at_ne e hc exo_tup), upd_ne (ne_of_none hc hnd)]
        exact hc
theorem oinitB {us : List Value} {Q : Value → Shared → Prop} (T : OexB X.K C B newId initId bm) (I : Inv X pins t H s) (e : H a = some (exo a C none)) (hl : us.length ≤ sizeLine) (h : ∀ s', Inv X pins t H s' → Q .none s') : wpAny (model X.prog X.w) A (call (.builtin initId) (.ref a :: us)) Q E s := by
  obtain ⟨nm, q, N, bs, sn, sub, ab, col, dd, k0, k1, k2, k3, k5, hC⟩ := T.cls
  obtain ⟨t1, ho⟩ := exo_at I.hok e
  obtain ⟨hp, g, d, tk, os⟩ := s
  refine wpAny_call (PySem.HandSPX.init_base T.base.F (fun _ => rfl) (I.kIn _ _ hC) ho hl fun h' t2 k hx => ?_)
  have J := I.write (t' := tk) (x := a) (e := a) (o := exo a C none) (by rw [e]; exact trivial) (.inl rfl) k ⟨_, hx⟩ (exo_ok hx)
  have eu : upd H a (exo a C none) = H := by
    funext b
    by_cases hb : b = a
    · rw [hb, upd_same, e]
    · rw [upd_ne hb]
  exact h _ (eu ▸ J)
end
section
variable {X : Cx} {o e : Expr} {es : List Expr} {to te : TE} {ta : TA} {f : Str} {p p' p1 p2 pos : Pos} {B newId initId : String} {bm : List Value}
/-- B.__init__(self, ..) -/
def tIniB (K : Frag) (B newId initId : String) (bm : List Value) (ta : TA) : TE := fun t H Q => ta t H fun vs H1 => ∃ (a C : Addr) (ws : List V), vs = .ref a :: ws ∧ ws.length ≤ 1000 ∧ OexB K C B newId initId bm ∧ H1 a = some (exo a C none) ∧ Q .non H1
theorem pe_initB {pl : Sem Bool} (hB : BaseX B newId initId bm) (hg : Gl X (Str.ofString B)) (hm : X.mg (Str.ofString B) = none) (ha : PA X (e :: es) ta)
    (hc : eval (.Call (.Attribute (.Name (Str.ofString B) p1) "__init__" p2) (e :: es) [] pos) X.env = (eval (.Name (Str.ofString B) p1) X.env >>= fun ov => standAt p2.atName >>= fun _ => holding [ov] (getMethod ov "__init__" pl) >>= fun z => callWith pos z.1 z.2 (backTo pos (starEach (e :: es) X.env)) (backToKw pos (keywordEach [] X.env))) := by rfl)
    (he : starEach (e :: es) X.env = (false, eval e X.env) :: starEach es X.env := by rfl) (hpl : (backTo pos (starEach es X.env)).any (·.1) = false := by rfl) :
    PE X (.Call (.Attribute (.Name (Str.ofString B) p1) "__init__" p2) (e :: es) [] pos) (tIniB X.K B newId initId bm ta) := by
  refine ⟨fun pins s t H Q I h => ?_⟩
  refine PySem.W.methodCall_KW (ld_blt I hg hm hB.boot ?_ hB.nn hB.nd) hc
  obtain ⟨m, fr⟩ := I.fr
  refine PySem.W.method_type fr I.ok.mod.kin hB.typ hB.stub (hB.fnd X.K) hB.hand ?_
  show wpAny _ _ (callWith pos (Value.builtin initId) [] (backTo pos (starEach (e :: es) X.env)) []) _ _ _
  refine PyProof.Rows.callWith_method1 (thn (ha.run pos pins _ t H _ (I.tok _) h) fun us s1 z => ?_) he hpl
  obtain ⟨vs, H1, I1, r1, a, C, ws, rfl, hl, T, ea, q⟩ := z
  cases r1 with
  | @cons _ u0 _ ur ra rr =>
    obtain rfl : u0 = Value.ref a := ra
    exact oinitB T I1 ea (by rw [← Paired.length rr, sizeLine_eq]; omega) fun s' J => ⟨.non, H1, J, rfl, q⟩
/-- self.f = e, on an exception that has no field yet -/
def tOstB (K : Frag) (B newId initId : String) (bm : List Value) (f : Str) (to te : TE) : TS := fun E t H => te t H fun y H1 => to t H1 fun x H2 => ∃ a C : Addr, x = .ref a ∧ OexB K C B newId initId bm ∧ PySem.W.findIn K (.ref C) f = some none ∧ H2 a = some (exo a C none) ∧
  ∀ dx, H2 dx = none → dx ≠ a → E.nx t (upd (upd H2 dx (exd dx [(f, y)])) a (exo a C (some dx)))
theorem ps_ostB (ho : PE X o to) (he : PE X e te) (hs : swapsWith e (some (.Attribute o f p')) pos.line X.env = pure false := by rfl) : PS X (.Assign [.Attribute o f p'] e pos) (tOstB X.K B newId initId bm f to te) := by
  refine ⟨fun pins s t H E I h => ?_⟩
  refine plainObj_wpAny_Assign_Attribute (thn (he.run pins s t H _ I h) fun v s1 z1 => ?_) hs
  obtain ⟨y, H1, I1, r1, q1⟩ := z1
  refine thn (ho.run pins s1 t H1 _ I1 q1) fun u s2 z2 => ?_
  obtain ⟨x, H2, I2, r2, a, C, rfl, T, hno, ea, q⟩ := z2
  obtain rfl : u = Value.ref a := r2
  exact ostB T I2 ea hno r1 fun dx s' n ne J => ⟨t, _, J, q dx n ne⟩
end
/-! ### __init__ -/
/-- with one field: B.__init__(self, text); self.f = f -/
def spI1 (C : Addr) (f : Str) : Sp := fun vs H Q _ => ∃ (a : Addr) (v : V), vs = [.ref a, v] ∧ H a = some (exo a C none) ∧ ∀ dx, H dx = none → dx ≠ a → Q .non (upd (upd H dx (exd dx [(f, v)])) a (exo a C (some dx)))
def spI0 (C : Addr) : Sp := fun vs H Q _ => ∃ a : Addr, vs = [.ref a] ∧ H a = some (exo a C none) ∧ Q .non H
section
variable {P : Program} {w : World} {K : Frag} {mg : Str → Option Value} {base : Heap} {B newId initId : String} {bm : List Value} {x qual f : Str} {params : Arguments} {scope : Scope} {g C : Addr} {fd : FuncData} {z : Str} {p0 p1 p2 p3 p4 p5 p6 p7 p8 p9 : Pos} {j : Nat}
theorem init_eq {env : Env} (hL : (p2.endLine == p5.line) = true) : eval (.Call (.Attribute (.Name (Str.ofString B) p1) "__init__" p2) [.Name "self" p3, .Constant (.str z) j p4] [] p5) env = (eval (.Name (Str.ofString B) p1) env >>= fun ov => standAt p2.atName >>= fun _ => holding [ov] (getMethod ov "__init__" (plainOf (.Name (Str.ofString B) p1) env)) >>= fun q => callWith p5 q.1 q.2 (backTo p5 (starEach [.Name "self" p3, .Constant (.str z) j p4] env)) (backToKw p5 (keywordEach [] env))) := by
  show (eval (.Name (Str.ofString B) p1) env >>= fun ov => standAt p2.atName >>= fun _ => methodCall (.Name (Str.ofString B) p1) "__init__" p2 p5 env ov 2 (backTo p5 (starEach [.Name "self" p3, .Constant (.str z) j p4] env)) (backToKw p5 (keywordEach [] env))) = _
  congr 1
  funext ov
  congr 1
  funext _
  rw [mcall_line (n := 2) rfl hL]
theorem fn_init1 (F : FunD K x qual params [.Expr (.Call (.Attribute (.Name (Str.ofString B) p1) "__init__" p2) [.Name "self" p3, .Constant (.str z) j p4] [] p5) p6, .Assign [.Attribute (.Name "self" p7) f p8] (.Name f p9) p0] scope [] [] g fd) (S : FnScope ["self", f] ["self", f] scope)
    (hL : (p2.endLine == p5.line) = true) (hG : scope.names.lookup (Str.ofString B) = some .globalImplicit) (h1 : (f == ("__debug__" : Str)) = false) (h2 : (f == ("__classdict__" : Str)) = false) (hm : mg (Str.ofString B) = none) (T : OexB K C B newId initId bm) (hno : PySem.W.findIn K (.ref C) f = some none) :
    FnOk P w K mg base (L2.CX P w) 1 g fd ["self", f] (spI1 C f) := by
  refine F.ok S (fun vs H Q E h => ?_) (fun cdv A outer s H vs Q E hr h => ?_)
  · obtain ⟨a, v, rfl, _⟩ := h
    rfl
  · obtain ⟨a, v, rfl, ea, q⟩ := h
    have v0 : Vis scope "self" := (S.par "self" (by simp)).elim .inl fun h => .inr (.inl h)
    have v1 : Vis scope f := (S.par f (by simp)).elim .inl fun h => .inr (.inl h)
    refine ⟨_, pss_cons (ps_expr (pe_initB (pl := plainOf (.Name (Str.ofString B) p1) _) T.base hG hm (pa_cons (pe_var (i := 0) rfl v0) (pa_cons pe_str pa_nil)) (init_eq hL))) (pss_one (ps_ostB (B := B) (newId := newId) (initId := initId) (bm := bm) (pe_var (i := 0) rfl v0) (pe_var (i := 1) rfl v1 h1 h2))), ?_⟩
    exact ⟨_, rfl, a, C, _, rfl, by show 1 ≤ 1000; decide, T, ea, _, rfl, _, rfl, a, C, rfl, T, hno, ea, q⟩
theorem fn_init0 (F : FunD K x qual params [.Expr (.Call (.Attribute (.Name (Str.ofString B) p1) "__init__" p2) [.Name "self" p3, .Constant (.str z) j p4] [] p5) p6] scope [] [] g fd) (S : FnScope ["self"] ["self"] scope)
    (hL : (p2.endLine == p5.line) = true) (hG : scope.names.lookup (Str.ofString B) = some .globalImplicit) (hm : mg (Str.ofString B) = none) (T : OexB K C B newId initId bm) : FnOk P w K mg base (L2.CX P w) 1 g fd ["self"] (spI0 C) := by
  refine F.ok S (fun vs H Q E h => ?_) (fun cdv A outer s H vs Q E hr h => ?_)
  · obtain ⟨a, rfl, _⟩ := h
    rfl
  · obtain ⟨a, rfl, ea, q⟩ := h
    have v0 : Vis scope "self" := (S.par "self" (by simp)).elim .inl fun h => .inr (.inl h)
    refine ⟨_, pss_one (ps_expr (pe_initB (pl := plainOf (.Name (Str.ofString B) p1) _) T.base hG hm (pa_cons (pe_var (i := 0) rfl v0) (pa_cons pe_str pa_nil)) (init_eq hL))), ?_⟩
    exact ⟨_, rfl, a, C, _, rfl, by show 1 ≤ 1000; decide, T, ea, q⟩
end
end Mp
set_option Elab.async false
set_option linter.all false
set_option maxRecDepth 100000
set_option maxHeartbeats 4000000
/-! Mp: raise, try. -/
namespace Mp
open PySem PySem.Spec PyProof.Rows L2
section
variable {X : Cx} {pins : List (Addr × Obj)} {t : L2.St} {H1 H2 : Hp} {hp hp2 h2 : Heap} {g1 g2 : Array GenState} {d1 d2 : Drawn} {t1 t2 : Nat} {os1 os2 : OsState} {a C : Addr}
/-- an exception without fields is let go -/
theorem mk_none {Q : XK} (T : Raises X (.ref C)) (I1 : Inv X pins t H1 ⟨hp, g1, d1, t1, os1⟩) (ha : hp.objs.size ≤ a) (k : ∀ b o, hp.get? b = some o → hp2.get? b = some o) (un : Un (frs X.stack) [] (upd H1 a (exo a C none)) (upd H1 a (exo a C none)) hp2 h2)
    (hok : HOk X.prog X.w (upd H1 a (exo a C none)) h2) (ho : os2 = os1) (hb : AllBare g2) (q : Q (.ref C) none H1) : MkP X pins t Q (.ref a) ⟨h2, g2, d2, t2, os2⟩ := by
  obtain ⟨t0, hoe⟩ := exo_at hok (C := C) (e := a) upd_same
  have hn : H1 a = none := I1.hok.fresh ha
  obtain ⟨G, gk', gn'⟩ := restrict h2 fun b => decide (b ≠ a)
  have gk : ∀ b, b ≠ a → G.get? b = h2.get? b := fun b hb => gk' b (decide_eq_true hb)
  have ge : G.get? a = none := gn' a (by simp)
  have na : ∀ {b : Addr} {o : Obj}, hp.get? b = some o → b ≠ a := fun {b o} z => Nat.ne_of_lt (Nat.lt_of_lt_of_le (Heap.lt_size z) ha)
  have up : ∀ {b : Addr}, b ≠ a → H1 b = none → upd H1 a (exo a C none) b = none := fun {b} hb n => (upd_ne hb).trans n
  have U : Un (frs X.stack) [] H1 H1 hp G := ⟨fun b o z n hf hx => (gk b (na z)).trans (un.keep b o (k b o z) (up (na z) n) hf hx), fun b o z n hf hx => by
      rw [gk b (na z)]
      exact un.slot b o (k b o z) (up (na z) n) hf hx, fun b o z n hx => n, fun b o z hx => by
      rw [gk b (na z)]
      exact un.there b o (k b o z) hx, fun b xs z => z, fun b o v z => z, fun b ps z => ⟨#[], by rw [z]; simp⟩⟩
  have hok3 : HOk X.prog X.w H1 G := fun b o z => by
    have hba : b ≠ a := ne_of_none z hn
    refine (hok b o ((upd_ne hba).trans z)).stay (fun c v hc y => ?_) (fun c hc => ?_) fun c xs hc => ?_
    · have hca : c ≠ a := by
        rcases hc with hc | hc
        · exact hc ▸ hba
        · exact at_ne upd_same hc exo_own
      rw [gk c hca]
      exact y
    · rw [upd_ne (at_ne upd_same hc exo_own)] at hc
      exact hc
    · rw [upd_ne (at_ne upd_same hc exo_tup)] at hc
      exact hc
  have J : Inv X pins t H1 ⟨G, g2, d2, t2, os2⟩ := I1.call' (ch := []) ho U hok3 hb fun b z => absurd z (by simp)
  refine ⟨a, _, _, ⟨G, g2, d2, t2, os2⟩, H1, .ref C, none, rfl, J, fun b o z => ?_, ge, hoe, ⟨rfl, rfl⟩, rfl, rfl, hn, rfl, hb, T, q⟩
  by_cases hba : b = a
  · rw [hba, ge] at z
    cases z
  · exact (gk b hba).symm.trans z
end
section
variable {X : Cx} {e : Expr} {ta : TA} {f x : Str} {p pos : Pos} {B newId initId : String} {bm : List Value} {C fI : Addr} {k : Nat} {fd : FuncData}
/-- what the written part says of an exception's class and its __init__ -/
structure ExcD (X : Cx) (C : Addr) (B newId initId : String) (bm : List Value) (fI : Addr) : Prop where
  T : OexB X.K C B newId initId bm
  ini : PySem.W.findIn X.K (.ref C) "__init__" = some (some (.ref fI))
  fn : PySem.W.typeIn X.K (.ref fI) = some (.type "function")
theorem pmkB1 (T : ExcD X C B newId initId bm fI) (F1 : FnOk X.prog X.w X.K X.mg X.base (L2.CX X.prog X.w) k fI fd ["self", f] (spI1 C f)) (hr : Room (k + 1) X.A) (hb : Binds X.K fd ["self", f] []) (hg : Gl X x) (hm : X.mg x = some (.ref C)) (ha : PA X [e] ta)
    (hdb : (x == ("__debug__" : Str)) = false := by decide) (he : starEach [e] X.env = (false, eval e X.env) :: starEach [] X.env := by rfl) :
    PMk X (.Call (.Name x p) [e] [] pos) (fun t H Q => ta t H fun vs H1 => ∃ v, vs = [v] ∧ ∀ d, H1 d = none → Q (.ref C) (some d) (upd H1 d (.xd [(f, v)]))) := by
  intro pins s t H Q I h
  obtain ⟨nm, q, N, bs, sn, sub, ab, col, dd, k0, k1, k2, k3, k5, hC⟩ := T.T.cls
  refine wpAny_Call_Name_kw (ld_glob I hg hm ?_ hdb)
  refine PySem.W.callWith_K (h₀ := X.base) I.ok.mod.kin T.T.kC (thn (ha.run pos pins s t H _ I h) fun us s1 z => ?_) he rfl
  obtain ⟨vs, H1, I1, r1, v, rfl, q1⟩ := z
  refine ⟨I1.kIn, ?_⟩
  show wpAny _ _ (call (.ref C) us) _ _ _
  obtain ⟨hp, g, dr, tk, os⟩ := s1
  cases r1 with
  | @cons _ u _ _ ru rr =>
    cases rr
    have hsz : hp.objs.size ≤ hp.objs.size + 1 := Nat.le_succ _
    have hn : H1 (hp.objs.size + 1) = none := I1.hok.fresh hsz
    have kk : ∀ b o, hp.get? b = some o → ((hp.push (PySem.W.kdv_tup [u])).push (PySem.HandSPX.excO C hp.objs.size)).get? b = some o := fun b o z => Heap.get?_push_of_some _ (Heap.get?_push_of_some _ z)
    have hget : ((hp.push (PySem.W.kdv_tup [u])).push (PySem.HandSPX.excO C hp.objs.size)).get? (hp.objs.size + 1) = some (PySem.HandSPX.excO C hp.objs.size) := by heap_get
    have I2 := I1.laid (t' := tk) (a := hp.objs.size + 1) (o := exo (hp.objs.size + 1) C none) (h' := (hp.push (PySem.W.kdv_tup [u])).push (PySem.HandSPX.excO C hp.objs.size)) kk hsz (exo_ok hget)
    have rv : Vals [V.ref (hp.objs.size + 1), v] [Value.ref (hp.objs.size + 1), u] := .cons rfl (.cons ru .nil)
    have hq : spI1 C f [.ref (hp.objs.size + 1), v] (upd H1 (hp.objs.size + 1) (exo (hp.objs.size + 1) C none)) (fun z H2 => z = .non ∧ ∃ d, H1 d = none ∧ d ≠ hp.objs.size + 1 ∧ H2 = upd (upd (upd H1 (hp.objs.size + 1) (exo (hp.objs.size + 1) C none)) d (exd d [(f, v)])) (hp.objs.size + 1) (exo (hp.objs.size + 1) C (some d))) (fun _ _ _ => False) :=
      ⟨_, v, rfl, upd_same, fun dx ndx ne => ⟨rfl, dx, (upd_ne ne).symm.trans ndx, ne, rfl⟩⟩
    refine wpAny_call (PySem.HandSPX.call_own T.T.base.F (fun _ => rfl) (I1.kIn _ _ hC) (PySem.W.looks_findIn I1.kIn T.ini) (fun self => PySem.W.bind_fn I1.kIn self T.fn) (by show 1 ≤ sizeLine; decide)
      (codeAny_mono (F1.run _ X.stack _ _ ⟨[.ref (hp.objs.size + 1), u], []⟩ [.ref (hp.objs.size + 1), u] _ _ (fun _ _ _ => False) (hr.make C [u] []) (I2.env0.make C [u] []) (hb _ [.ref (hp.objs.size + 1), u] I2.kIn rfl) rv hq) fun r s' hz => ?_))
    cases r with
    | error er =>
      obtain ⟨_, _, _, _, _, _, _, _, _, _, _, _, z⟩ := hz
      exact z.elim
    | ok fl =>
      cases fl with
      | ret w =>
        obtain ⟨z, H2, osE, bareE, unE, hokE, rz, ez, d, nd, ne, eH⟩ := hz
        subst ez
        obtain ⟨h2, g2, d2, t2, os'⟩ := s'
        have ea : H2 (hp.objs.size + 1) = some (exo (hp.objs.size + 1) C (some d)) := by rw [eH, upd_same]
        have ed : H2 d = some (exd d [(f, v)]) := by rw [eH, upd_ne ne, upd_same]
        refine ⟨rz, mk_end (raises_own T.T.exC T.T.tyC) I1 hsz kk unE hokE osE bareE ea ed nd ?_⟩
        have eq : upd (del H2 (hp.objs.size + 1)) d (.xd [(f, v)]) = upd H1 d (.xd [(f, v)]) := by
          funext b
          by_cases hb : b = d
          · rw [hb, upd_same, upd_same]
          · rw [upd_ne hb, upd_ne hb]
            by_cases hb2 : b = hp.objs.size + 1
            · rw [hb2, del_same, hn]
            · rw [del_ne hb2, eH, upd_ne hb2, upd_ne hb, upd_ne hb2]
        rw [eq]
        exact q1 d nd
      | next => exact hz.elim
      | brk => exact hz.elim
      | cont => exact hz.elim
theorem pmkB0 (T : ExcD X C B newId initId bm fI) (F1 : FnOk X.prog X.w X.K X.mg X.base (L2.CX X.prog X.w) k fI fd ["self"] (spI0 C)) (hr : Room (k + 1) X.A) (hb : Binds X.K fd ["self"] []) (hg : Gl X x) (hm : X.mg x = some (.ref C)) (hdb : (x == ("__debug__" : Str)) = false := by decide) :
    PMk X (.Call (.Name x p) [] [] pos) (fun t H Q => Q (.ref C) none H) := by
  intro pins s t H1 Q I1 q1
  obtain ⟨nm, q, N, bs, sn, sub, ab, col, dd, k0, k1, k2, k3, k5, hC⟩ := T.T.cls
  refine wpAny_Call_Name_kw (ld_glob I1 hg hm ?_ hdb)
  refine PySem.W.callWith_K0 I1.kIn T.T.kC ?_
  show wpAny _ _ (call (.ref C) []) _ _ _
  obtain ⟨hp, g, dr, tk, os⟩ := s
  have hsz : hp.objs.size ≤ hp.objs.size + 1 := Nat.le_succ _
  have kk : ∀ b o, hp.get? b = some o → ((hp.push (PySem.W.kdv_tup [])).push (PySem.HandSPX.excO C hp.objs.size)).get? b = some o := fun b o z => Heap.get?_push_of_some _ (Heap.get?_push_of_some _ z)
  have hget : ((hp.push (PySem.W.kdv_tup [])).push (PySem.HandSPX.excO C hp.objs.size)).get? (hp.objs.size + 1) = some (PySem.HandSPX.excO C hp.objs.size) := by heap_get
  have I2 := I1.laid (t' := tk) (a := hp.objs.size + 1) (o := exo (hp.objs.size + 1) C none) (h' := (hp.push (PySem.W.kdv_tup [])).push (PySem.HandSPX.excO C hp.objs.size)) kk hsz (exo_ok hget)
  have rv : Vals [V.ref (hp.objs.size + 1)] [Value.ref (hp.objs.size + 1)] := .cons rfl .nil
  have hq : spI0 C [.ref (hp.objs.size + 1)] (upd H1 (hp.objs.size + 1) (exo (hp.objs.size + 1) C none)) (fun z H2 => z = .non ∧ H2 = upd H1 (hp.objs.size + 1) (exo (hp.objs.size + 1) C none)) (fun _ _ _ => False) := ⟨_, rfl, upd_same, rfl, rfl⟩
  refine wpAny_call (PySem.HandSPX.call_own T.T.base.F (fun _ => rfl) (I1.kIn _ _ hC) (PySem.W.looks_findIn I1.kIn T.ini) (fun self => PySem.W.bind_fn I1.kIn self T.fn) (by show 0 ≤ sizeLine; decide)
    (codeAny_mono (F1.run _ X.stack _ _ ⟨[.ref (hp.objs.size + 1)], []⟩ [.ref (hp.objs.size + 1)] _ _ (fun _ _ _ => False) (hr.make C [] []) (I2.env0.make C [] []) (hb _ [.ref (hp.objs.size + 1)] I2.kIn rfl) rv hq) fun r s' hz => ?_))
  cases r with
  | error er =>
    obtain ⟨_, _, _, _, _, _, _, _, _, _, _, _, z⟩ := hz
    exact z.elim
  | ok fl =>
    cases fl with
    | ret w =>
      obtain ⟨z, H2, osE, bareE, unE, hokE, rz, ez, eH⟩ := hz
      subst ez
      subst eH
      obtain ⟨h2, g2, d2, t2, os'⟩ := s'
      exact ⟨rz, mk_none (raises_own T.T.exC T.T.tyC) I1 hsz kk unE hokE osE bareE q1⟩
    | next => exact hz.elim
    | brk => exact hz.elim
    | cont => exact hz.elim
end
/-! ### on data -/
def raiseS (C f : Str) (m : DM (List D)) : DS := thenS m fun ds => fun r s => match ds with
  | [d] => .exc C [(f, d)] r s
  | _ => .bad
def raise0S (C : Str) : DS := fun r s => .exc C [] r s
section
variable {X : Cx} {W : WX} {a : Expr} {f cc : Str} {p pos pos2 : Pos} {B newId initId : String} {bm : List Value} {fI : Addr} {k : Nat} {fd : FuncData} {mr : DM (List D)}
theorem s_raise1 (hc : X.calm = true) (tk : Takes X W) (T : ExcD X (He.ga X.K cc) B newId initId bm fI) (F1 : FnOk X.prog X.w X.K X.mg X.base (L2.CX X.prog X.w) k fI fd ["self", f] (spI1 (He.ga X.K cc) f)) (hr : Room (k + 1) X.A) (hb : Binds X.K fd ["self", f] []) (hg : Gl X cc) (hm : X.mg cc = some (.ref (He.ga X.K cc))) (ha : PA X [a] (tA X.K W mr))
    (hdb : (cc == ("__debug__" : Str)) = false := by decide) (he : starEach [a] X.env = (false, eval a X.env) :: starEach [] X.env := by rfl) : PS X (.Raise (some (.Call (.Name cc p) [a] [] pos)) none pos2) (tS X.K W (raiseS cc f mr)) :=
  PS.imp (ps_raise hc tk (pmkB1 T F1 hr hb hg hm ha hdb he)) fun E t H h => by
    obtain ⟨r, s, w, rfl, env, st, hp⟩ := h
    exact hp.bind env st fun vs ds s1 w1 e1 st1 r1 hp1 => by
      cases r1 with
      | nil => exact hp1.elim
      | @cons v d vs ds q r2 =>
        cases r2 with
        | cons _ _ => exact hp1.elim
        | nil =>
          refine ⟨v, rfl, fun dx ndx => ?_⟩
          have e2 := Wd.frz_ext st1 (o := .xd [(f, v)]) ndx
          exact hp1 t (some dx) (w1.frz dx (.xd [(f, v)])) e2 ((env.ext e1).ext e2) (Wd.frz_st st1 ndx) ⟨Wd.frz_z, _, Wd.frz_h, .cons (q.ext e2) .nil⟩
theorem s_raise0 (hc : X.calm = true) (tk : Takes X W) (T : ExcD X (He.ga X.K cc) B newId initId bm fI) (F1 : FnOk X.prog X.w X.K X.mg X.base (L2.CX X.prog X.w) k fI fd ["self"] (spI0 (He.ga X.K cc))) (hr : Room (k + 1) X.A) (hb : Binds X.K fd ["self"] []) (hg : Gl X cc) (hm : X.mg cc = some (.ref (He.ga X.K cc)))
    (hdb : (cc == ("__debug__" : Str)) = false := by decide) : PS X (.Raise (some (.Call (.Name cc p) [] [] pos)) none pos2) (tS X.K W (raise0S cc)) :=
  PS.imp (ps_raise hc tk (pmkB0 T F1 hr hb hg hm hdb)) fun E t H h => by
    obtain ⟨r, s, w, rfl, env, st, hp⟩ := h
    exact hp t none w (Ext.refl w) env st rfl
end
end Mp
set_option Elab.async false
set_option linter.all false
set_option maxRecDepth 100000
set_option maxHeartbeats 4000000
/-! Mp: built-in functions. -/
namespace Mp
open PySem PySem.Spec PyProof.Rows L2
/-! ### on data -/
def absD (ds : List D) (s : Sto) : Res D := match ds with
  | [.int i] => .ok (.int (if i < 0 then -i else i)) s
  | _ => .bad
def intD (ds : List D) (s : Sto) : Res D := match ds with
  | [.int i] => .ok (.int i) s
  | [.bl b] => .ok (.int (if b then 1 else 0)) s
  | _ => .bad
def lenD (ds : List D) (s : Sto) : Res D := match ds with
  | [.str z] => if z.length ≤ sizeLine then .ok (.int (z.length : Nat)) s else .bad
  | [x] => (match seqOf s x with
    | some l => .ok (.int (l.length : Nat)) s
    | none => .bad)
  | _ => .bad
def listD (k : Bool) (ds : List D) (s : Sto) : Res D := match ds with
  | [x] => (match seqOf s x with
    | some l => newL k l s
    | none => .bad)
  | _ => .bad
def bools : List D → Option (List Bool)
  | [] => some []
  | .bl b :: r => (bools r).map fun l => b :: l
  | _ => none
def allD (ds : List D) (s : Sto) : Res D := match ds with
  | [x] => (match (lstOf s x).bind bools with
    | some l => .ok (.bl (l.all id)) s
    | none => .bad)
  | _ => .bad
def anyD (ds : List D) (s : Sto) : Res D := match ds with
  | [x] => (match (lstOf s x).bind bools with
    | some l => .ok (.bl (l.any id)) s
    | none => .bad)
  | _ => .bad
inductive Tg where
  | bt (n : String) | own (C : Str)
def tagD (s : Sto) : D → Option Tg
  | .non => some (.bt "NoneType")
  | .bl _ => some (.bt "bool")
  | .int _ => some (.bt "int")
  | .str _ => some (.bt "str")
  | .tup _ => some (.bt "tuple")
  | .lst _ => some (.bt "list")
  | .dct _ => some (.bt "dict")
  | .ins C _ => some (.own C)
  | .cel n => (match s[n]? with
    | some (some (.lst _)) => some (.bt "list")
    | some (some (.dct _)) => some (.bt "dict")
    | some (some (.rod _)) => some (.bt "dict")
    | some (some (.ins C _)) => some (.own C)
    | _ => none)
  | _ => none
/-- which own classes are which: own of own, built-in of own (never), own of built-in -/
structure Isi where
  cs : List Str
  oo : List ((Str × Str) × Bool)
  bo : List Str
  ob : List ((Str × String) × Bool)
def isiT (it : Isi) : Tg → D → Option Bool
  | .bt a, .ty b => kitB a b
  | .bt _, .glo C => if C ∈ it.bo then some false else none
  | .own C, .glo E => if C ∈ it.cs then it.oo.lookup (C, E) else none
  | .own C, .ty b => if C ∈ it.cs then it.ob.lookup (C, b) else none
  | _, _ => none
def isiD (it : Isi) (ds : List D) (s : Sto) : Res D := match ds with
  | [x, c] => (match tagD s x with
    | some t => (match isiT it t c with
      | some b => .ok (.bl b) s
      | none => .bad)
    | none => .bad)
  | _ => .bad
/-! ### soundness -/
def VRC (K : Frag) (r : List V → Hp → VK → Prop) (f : DF) : Prop := ∀ w s xs ds Q E, StR K w s → Reps K w xs ds → Post K (Rep K) w E Q (f ds s) → r xs w.H Q
section
variable {X : Cx} {W : WX} {a : Expr} {es : List Expr} {pos p : Pos} {mr : DM (List D)} {x : Str} {f : DF} {r : List V → Hp → VK → Prop} {id T : String}
theorem e_callB (hc : CallR X (.builtin id) r) (hv : VRC X.K r f) (hg : Gl X x) (hm : X.mg x = none) (hb : bootBuiltins x = some (.builtin id)) (ha : PA X (a :: es) (tA X.K W mr)) (hn : x ≠ "__name__" := by decide) (hdb : (x == ("__debug__" : Str)) = false := by decide)
    (he : starEach (a :: es) X.env = (false, eval a X.env) :: starEach es X.env := by rfl) (hpl : (backTo pos (starEach es X.env)).any (·.1) = false := by rfl) : PE X (.Call (.Name x p) (a :: es) [] pos) (tE X.K W (argM f mr)) :=
  PE.imp (pe_callB hc hg hm hb ha hn hdb he hpl) fun t H Q h => by
    obtain ⟨r, s, w, rfl, env, st, hp⟩ := h
    exact hp.bind env st fun vs ds s1 w1 e1 st1 r1 hp1 => hv w1 s1 vs ds Q _ st1 r1 hp1
theorem e_callTy (hc : CallR X (.type T) r) (hv : VRC X.K r f) (hg : Gl X x) (hm : X.mg x = none) (hb : bootBuiltins x = some (.type T)) (ha : PA X (a :: es) (tA X.K W mr)) (hn : x ≠ "__name__" := by decide) (hdb : (x == ("__debug__" : Str)) = false := by decide)
    (he : starEach (a :: es) X.env = (false, eval a X.env) :: starEach es X.env := by rfl) (hpl : (backTo pos (starEach es X.env)).any (·.1) = false := by rfl) : PE X (.Call (.Name x p) (a :: es) [] pos) (tE X.K W (argM f mr)) :=
  PE.imp (pe_callTy hc hg hm hb ha hn hdb he hpl) fun t H Q h => by
    obtain ⟨r, s, w, rfl, env, st, hp⟩ := h
    exact hp.bind env st fun vs ds s1 w1 e1 st1 r1 hp1 => hv w1 s1 vs ds Q _ st1 r1 hp1
theorem v_abs : VRC X.K (fun xs H Q => ∃ i, xs = [.int i] ∧ Q (.int (if i < 0 then -i else i)) H) absD := fun w s xs ds Q E st rs hp => by
  unfold absD at hp
  split at hp
  · cases rs with | cons q r => cases q; cases r; exact ⟨_, rfl, hp.pure st (.int _)⟩
  · exact hp.elim
theorem v_int : VRC X.K (fun xs H Q => (∃ i, xs = [.int i] ∧ Q (.int i) H) ∨ ∃ k, xs = [.bl k] ∧ Q (.int (if k then 1 else 0)) H) intD := fun w s xs ds Q E st rs hp => by
  unfold intD at hp
  split at hp
  · cases rs with | cons q r => cases q; cases r; exact .inl ⟨_, rfl, hp.pure st (.int _)⟩
  · cases rs with | cons q r => cases q; cases r; exact .inr ⟨_, rfl, hp.pure st (.int _)⟩
  · exact hp.elim
theorem v_len : VRC X.K (fun xs H Q => ∃ x n, xs = [x] ∧ LenV X.K x H n ∧ Q (.int (n : Nat)) H) lenD := fun w s xs ds Q E st rs hp => by
  unfold lenD at hp
  split at hp
  · cases rs with
    | cons q r =>
      cases q
      cases r
      split at hp
      · rename_i z hl
        exact ⟨_, _, rfl, ⟨hl, rfl⟩, hp.pure st (.int _)⟩
      · exact hp.elim
  · cases rs with
    | cons q r =>
      cases r
      split at hp
      · rename_i l el
        obtain ⟨p, vs, rfl, hq, rs⟩ := seqOf_ok st q el
        refine ⟨_, vs.length, rfl, ?_, by rw [rs.length]; exact hp.pure st (.int _)⟩
        rcases hq with hq | hq
        · exact .inl ⟨vs, hq, rfl⟩
        · exact .inr ⟨vs, hq, rfl⟩
      · exact hp.elim
  · exact hp.elim
theorem v_list {k : Bool} : VRC X.K (fun xs H Q => ∃ p ys, xs = [.ref p] ∧ (SqL X.K H p ys ∨ SqT X.K H p ys) ∧ ∀ l, H l = none → Q (.ref l) (upd H l (.lst ys))) (listD k) := fun w s xs ds Q E st rs hp => by
  unfold listD at hp
  split at hp
  · cases rs with
    | cons q r =>
      cases r
      split at hp
      · rename_i l el
        obtain ⟨p, vs, rfl, hq, rs⟩ := seqOf_ok st q el
        exact ⟨p, vs, rfl, hq, hp.newL st rs⟩
      · exact hp.elim
  · exact hp.elim
theorem bools_ok {K : Frag} {w : Wd} : ∀ {ds : List D} {vs : List V} {l : List Bool}, Reps K w vs ds → bools ds = some l → vs = l.map V.bl
  | [], _, _, h, e => by
    cases h
    cases e
    rfl
  | d :: r, _, _, h, e => by
    cases h with
    | cons h1 h2 =>
      cases d with
      | bl b =>
        cases h1
        have e' : (bools r).map (fun l => b :: l) = some _ := e
        cases q : bools r with
        | none => rw [q] at e'; cases e'
        | some l2 =>
          rw [q] at e'
          cases e'
          rw [bools_ok h2 q]
          rfl
      | _ => cases e
theorem v_all : VRC X.K (rAll X.K) allD := fun w s xs ds Q E st rs hp => by
  unfold allD at hp
  split at hp
  · cases rs with
    | cons q r =>
      cases r
      split at hp
      · rename_i l el
        obtain ⟨l1, e1, e2⟩ := Option.bind_eq_some_iff.mp el
        obtain ⟨p, vs, rfl, hq, rs⟩ := lstOf_ok st q e1
        have ev := bools_ok rs e2
        subst ev
        exact ⟨p, l, rfl, hq, hp.pure st (.bl _)⟩
      · exact hp.elim
  · exact hp.elim
theorem v_any : VRC X.K (rAny X.K) anyD := fun w s xs ds Q E st rs hp => by
  unfold anyD at hp
  split at hp
  · cases rs with
    | cons q r =>
      cases r
      split at hp
      · rename_i l el
        obtain ⟨l1, e1, e2⟩ := Option.bind_eq_some_iff.mp el
        obtain ⟨p, vs, rfl, hq, rs⟩ := lstOf_ok st q e1
        have ev := bools_ok rs e2
        subst ev
        exact ⟨p, l, rfl, hq, hp.pure st (.bl _)⟩
      · exact hp.elim
  · exact hp.elim
/-! isinstance -/
structure TyC (K : Frag) (C : Addr) : Prop where
  cl : Cls K C
  ha : PySem.W.findIn K (.ref C) "__class__" = some (some (.builtin "object.__class__"))
  hn : PySem.W.specialIn K (.builtin "object.__class__") "__get__" = some (some (.builtin "getset_descriptor.__get__"))
  htk : PySem.W.takesIn K (.builtin "object.__class__") = some true
  hm : PySem.W.mroIn K C (.type "object") = some true
abbrev tyNames : List String := ["NoneType", "bool", "int", "str", "list", "tuple", "dict"]
structure IsiOk (K : Frag) (it : Isi) : Prop where
  cs : ∀ C ∈ it.cs, TyC K (He.ga K C)
  oo : ∀ q ∈ it.oo, PySem.W.kitOne K (.ref (He.ga K q.1.1)) (.ref (He.ga K q.1.2)) = some q.2
  bo : ∀ C ∈ it.bo, ∀ n ∈ tyNames, PySem.W.kitOne K (.type n) (.ref (He.ga K C)) = some false
  ob : ∀ q ∈ it.ob, PySem.W.kitOne K (.ref (He.ga K q.1.1)) (.type q.1.2) = some q.2
def TgOk (K : Frag) (w : Wd) (v : V) : Tg → Prop
  | .bt n => TyX K w.H v (.type n) ∧ n ∈ tyNames
  | .own C => ∃ a dx fs, v = .ref a ∧ w.H a = some (.ins (He.ga K C) dx fs)
theorem tag_ok {K : Frag} {w : Wd} {s : Sto} {v : V} {d : D} {t : Tg} (st : StR K w s) (r : Rep K w v d) (h : tagD s d = some t) : TgOk K w v t := by
  cases r with
  | non => cases h; exact ⟨.base .non, by simp⟩
  | bl b => cases h; exact ⟨.base (.bl b), by simp⟩
  | int i => cases h; exact ⟨.base (.int i), by simp⟩
  | str z => cases h; exact ⟨.base (.str z), by simp⟩
  | tup hh rs =>
    cases h
    refine ⟨?_, by simp⟩
    exact .base (.tup hh.2)
  | lst z hh rs => cases h; exact ⟨.base (.lst hh), by simp⟩
  | dct z hh hl rs => cases h; exact ⟨.fDict hh, by simp⟩
  | ins z hh hl rs => cases h; exact ⟨_, _, _, rfl, hh⟩
  | @cel n a0 hA =>
    unfold tagD at h
    dsimp only at h
    cases e : s[n]? with
    | none => rw [e] at h; cases h
    | some oc =>
      cases oc with
      | none => rw [e] at h; cases h
      | some ct =>
        rw [e] at h
        cases ct with
        | lst l =>
          cases h
          obtain ⟨a1, h1, _, vs, hh, rs⟩ := st.at_ n _ e
          have ea : a1 = a0 := Option.some.inj (h1.symm.trans hA)
          subst ea
          exact ⟨.base (.lst hh), by simp⟩
        | dct l =>
          cases h
          obtain ⟨a1, h1, _, vs, hh, rs⟩ := st.at_ n _ e
          have ea : a1 = a0 := Option.some.inj (h1.symm.trans hA)
          subst ea
          exact ⟨.base (.dK hh), by simp⟩
        | rod l =>
          cases h
          obtain ⟨a1, h1, _, o, vs, _, hh, rs⟩ := st.at_ n _ e
          have ea : a1 = a0 := Option.some.inj (h1.symm.trans hA)
          subst ea
          exact ⟨.fDict hh, by simp⟩
        | ins C l =>
          cases h
          obtain ⟨a1, h1, _, dx, vs, hh, rs⟩ := st.at_ n _ e
          have ea : a1 = a0 := Option.some.inj (h1.symm.trans hA)
          subst ea
          exact ⟨_, _, _, rfl, hh⟩
        | tab x => cases h
        | dtt m => cases h
  | _ => cases h
theorem look_mem {T : Type} [BEq T] [LawfulBEq T] {k : T} {b : Bool} : ∀ {l : List (T × Bool)}, l.lookup k = some b → (k, b) ∈ l
  | [], h => by cases h
  | (k2, b2) :: l, h => by
    rw [List.lookup_cons] at h
    split at h
    · rename_i hk
      have e1 := eq_of_beq hk
      cases h
      rw [e1]
      exact List.mem_cons_self
    · exact List.mem_cons_of_mem _ (look_mem h)
theorem v_isi {it : Isi} (O : IsiOk X.K it) : VRC X.K (rIsi X.K) (isiD it) := fun w s xs ds Q E st rs hp => by
  unfold isiD at hp
  split at hp
  · cases rs with
    | cons q r =>
      cases r with
      | cons q2 r =>
        cases r
        split at hp
        · rename_i t et
          have h1 := tag_ok st q et
          split at hp
          · rename_i b eb
            cases t with
            | bt n =>
              cases q2 with
              | ty m => exact ⟨_, _, _, _, b, rfl, .ty m, h1.1, kit_ty eb, hp.pure st (.bl _)⟩
              | glo C =>
                have eb' : (if C ∈ it.bo then some false else none) = some b := eb
                split at eb'
                · rename_i hc
                  cases eb'
                  exact ⟨_, _, _, _, false, rfl, .own _, h1.1, O.bo C hc n h1.2, hp.pure st (.bl _)⟩
                · cases eb'
              | _ => cases eb
            | own C =>
              obtain ⟨a, dx, fs, rfl, hh⟩ := h1
              cases q2 with
              | ty m =>
                have eb' : (if C ∈ it.cs then it.ob.lookup (C, m) else none) = some b := eb
                split at eb'
                · rename_i hc
                  obtain ⟨c1, c2, c3, c4, c5⟩ := O.cs C hc
                  exact ⟨_, _, _, _, b, rfl, .ty m, .base (.ins hh c1 c2 c3 c4 c5), O.ob _ (look_mem (k := (C, m)) eb'), hp.pure st (.bl _)⟩
                · cases eb'
              | glo E =>
                have eb' : (if C ∈ it.cs then it.oo.lookup (C, E) else none) = some b := eb
                split at eb'
                · rename_i hc
                  obtain ⟨c1, c2, c3, c4, c5⟩ := O.cs C hc
                  exact ⟨_, _, _, _, b, rfl, .own _, .base (.ins hh c1 c2 c3 c4 c5), O.oo _ (look_mem (k := (C, E)) eb'), hp.pure st (.bl _)⟩
                · cases eb'
              | _ => cases eb
          · exact hp.elim
        · exact hp.elim
  · exact hp.elim
end
end Mp
set_option Elab.async false
set_option linter.all false
set_option maxRecDepth 100000
set_option maxHeartbeats 4000000
/-! Mp: dicts, stores by key or place, x op= e, append. -/
namespace Mp
open PySem PySem.Spec PyProof.Rows L2
/-! ### on data -/
def putA {T U : Type} [DecidableEq T] (l : List (T × U)) (k : T) (v : U) : List (T × U) := if (l.any fun p => decide (p.1 = k)) = true then l.map (fun p => if p.1 = k then (p.1, v) else p) else l ++ [(k, v)]
def mergeA {T U : Type} [DecidableEq T] (l more : List (T × U)) : List (T × U) := more.foldl (fun acc p => putA acc p.1 p.2) l
def pairsM : List (DE × DE) → DM (List (D × D))
  | [] => pureM []
  | (k, v) :: r => bindM k fun x => bindM v fun y => bindM (pairsM r) fun l => pureM ((x, y) :: l)
def keyed : List (D × D) → Option (List (Key × D))
  | [] => some []
  | (k, v) :: r => (keyD k).bind fun x => (keyed r).map fun l => (x, v) :: l
/-- {k: v, ..}, a new cell -/
def dispM (l : List (DE × DE)) : DE := bindM (pairsM l) fun ps => fun _ s => match keyed ps with
  | some kvs => if kvs.length ≤ 15 then .ok (.cel s.length) (s ++ [some (.dct (mergeA [] kvs))]) else .bad
  | none => .bad
/-- o[k] = v: a cell's dict or list -/
def putI (o k v : D) (s : Sto) : Option Sto := match o with
  | .cel n => (match s[n]? with
    | some (some (.dct m)) => (match keyD k with
      | some q => if m.length < sizeLine then some (s.set n (some (.dct (putA m q v)))) else none
      | none => none)
    | some (some (.lst l)) => (match k with
      | .int i => (match ixN l.length i with
        | some j => some (s.set n (some (.lst (l.set j v))))
        | none => none)
      | _ => none)
    | _ => none)
  | _ => none
def subS (o k v : DE) : DS := thenS v fun y => thenS o fun x => thenS k fun z => fun r s => match putI x z y s with
  | some s' => .nx r s'
  | none => .bad
/-- xs.append(e) on a cell -/
def appD (x : D) (ds : List D) (s : Sto) : Res D := match x with
  | .cel n => (match s[n]? with
    | some (some (.lst l)) => (match ds with
      | [d] => if l.length < sizeLine then .ok .non (s.set n (some (.lst (l ++ [d])))) else .bad
      | _ => .bad)
    | _ => .bad)
  | _ => .bad
/-! ### soundness -/
section
variable {K : Frag} {w : Wd}
theorem KVR.any {T : Type} [DecidableEq T] {k : T} : ∀ {l : List (T × V)} {m : List (T × D)}, KVR K w l m → (l.any fun p => decide (p.1 = k)) = (m.any fun p => decide (p.1 = k))
  | _, _, .nil => rfl
  | _, _, .cons h r => by
    rw [List.any_cons, List.any_cons, r.any]
theorem KVR.mapP {T : Type} [DecidableEq T] {k : T} {y : V} {d : D} (q : Rep K w y d) : ∀ {l : List (T × V)} {m : List (T × D)}, KVR K w l m → KVR K w (l.map fun p => if p.1 = k then (p.1, y) else p) (m.map fun p => if p.1 = k then (p.1, d) else p)
  | _, _, .nil => .nil
  | _, _, .cons (k := j) h r => by
    rw [List.map_cons, List.map_cons]
    by_cases e : j = k
    · rw [if_pos e, if_pos e]
      exact .cons q (r.mapP q)
    · rw [if_neg e, if_neg e]
      exact .cons h (r.mapP q)
theorem KVR.app {T : Type} : ∀ {l l2 : List (T × V)} {m m2 : List (T × D)}, KVR K w l m → KVR K w l2 m2 → KVR K w (l ++ l2) (m ++ m2)
  | _, _, _, _, .nil, r => r
  | _, _, _, _, .cons h t, r => .cons h (t.app r)
theorem KVR.putK {T : Type} [DecidableEq T] {k : T} {y : V} {d : D} (q : Rep K w y d) {l : List (T × V)} {m : List (T × D)} (r : KVR K w l m) : KVR K w (L2.putK l k y) (putA m k d) := by
  unfold L2.putK putA
  rw [r.any]
  by_cases e : (m.any fun p => decide (p.1 = k)) = true
  · rw [if_pos e, if_pos e]
    exact r.mapP q
  · rw [if_neg e, if_neg e]
    exact r.app (.cons q .nil)
theorem KVR.merge : ∀ {l2 : List (Key × V)} {m2 : List (Key × D)} {l : List (Key × V)} {m : List (Key × D)}, KVR K w l m → KVR K w l2 m2 → KVR K w (mergeK l l2) (mergeA m m2)
  | _, _, _, _, r, .nil => r
  | _, _, _, _, r, .cons h t => (r.putK h).merge t
inductive RPs (K : Frag) (w : Wd) : List (V × V) → List (D × D) → Prop
  | nil : RPs K w [] []
  | cons {x y : V} {a b : D} {l : List (V × V)} {m : List (D × D)} : Rep K w x a → Rep K w y b → RPs K w l m → RPs K w ((x, y) :: l) ((a, b) :: m)
theorem RPs.ext {w' : Wd} (e : Ext w w') : ∀ {l : List (V × V)} {m : List (D × D)}, RPs K w l m → RPs K w' l m
  | _, _, .nil => .nil
  | _, _, .cons h k r => .cons (h.ext e) (k.ext e) (r.ext e)
theorem keyed_ok : ∀ {l : List (V × V)} {m : List (D × D)} {kvs : List (Key × D)}, RPs K w l m → keyed m = some kvs → ∃ kv : List (Key × V), l = kv.map (fun p => (kV p.1, p.2)) ∧ KVR K w kv kvs
  | _, _, _, .nil, h => by
    cases h
    exact ⟨[], rfl, .nil⟩
  | _, _, _, .cons (a := a) (b := b) (m := m) h k r, e => by
    have e' : ((keyD a).bind fun x => (keyed m).map fun l => (x, b) :: l) = some _ := e
    cases q1 : keyD a with
    | none => rw [q1] at e'; cases e'
    | some z =>
      cases q2 : keyed m with
      | none => rw [q1, q2] at e'; cases e'
      | some kvs2 =>
        rw [q1, q2] at e'
        cases e'
        obtain ⟨kv, rfl, hr⟩ := keyed_ok r q2
        exact ⟨(z, _) :: kv, by rw [keyD_ok h q1]; rfl, .cons k hr⟩
end
theorem pairs_imp {K : Frag} {W : WX} {r : En} {t : L2.St} : ∀ {l : List (DE × DE)} {w : Wd} {s : Sto} {Q : List (V × V) → Hp → Prop}, EnvR K w r t → StR K w s → Post K (RPs K) w (fun c d H' => W c d t H') Q (pairsM l r s) → tPairs (l.map fun p => (tE K W p.1, tE K W p.2)) t w.H Q
  | [], w, s, Q, env, st, hp => hp.pure st .nil
  | (k, v) :: l, w, s, Q, env, st, hp => hp.bind env st fun x d s1 w1 e1 st1 r1 hp1 => hp1.bind (env.ext e1) st1 fun y d2 s2 w2 e2 st2 r2 hp2 => by
    refine pairs_imp ((env.ext e1).ext e2) st2 ?_
    unfold bindM at hp2
    cases e : pairsM l r s2 with
    | ok ps s3 =>
      rw [e] at hp2
      exact fun z w3 e3 st3 r3 => hp2 _ w3 e3 st3 (.cons ((r1.ext e2).ext e3) (r2.ext e3) r3)
    | exc C fs s3 => rw [e] at hp2; exact hp2
    | bad => rw [e] at hp2; exact hp2
/-- the pinned thing becomes a cell -/
theorem unpin_cell {K : Frag} {w0 w : Wd} {s : Sto} {p : Addr} {ct : Ct} (e : Ext w0 w) (st : StR K w s) (h1 : ¬ w0.P p) (hP : w.P p) (hc : CtR K w p ct) :
    ∃ w2 : Wd, w2.H = w.H ∧ Ext w0 w2 ∧ StR K w2 (s ++ [some ct]) ∧ Rep K w2 (.ref p) (.cel s.length) := by
  have nz := (st.pz p hP).1
  let w2 : Wd := ⟨fun m => if m = s.length then some p else w.A m, w.Z, fun a => w.P a ∧ a ≠ p, w.H⟩
  have hA : ∀ m a, w.A m = some a → w2.A m = some a := fun m a q => by
    have ne : ¬ m = s.length := fun z => by
      rw [st.new m (by omega)] at q
      exact nomatch q
    show (if m = s.length then some p else w.A m) = some a
    rw [if_neg ne]
    exact q
  have e0 : Ex0 w w2 := ⟨hA, fun _ h => h, fun _ _ => rfl⟩
  have at' : ∀ m c, (s ++ [some ct])[m]? = some (some c) → (m < s.length ∧ s[m]? = some (some c)) ∨ (m = s.length ∧ c = ct) := fun m c q => by
    by_cases hm : m < s.length
    · rw [List.getElem?_append_left hm] at q
      exact .inl ⟨hm, q⟩
    · rw [List.getElem?_append_right (by omega)] at q
      by_cases h0 : m - s.length = 0
      · rw [h0] at q
        exact .inr ⟨by omega, by simpa using q.symm⟩
      · rw [List.getElem?_eq_none (by simp; omega)] at q
        cases q
  have AtN : w2.A s.length = some p := if_pos rfl
  have AtO : ∀ m, m < s.length → w2.A m = w.A m := fun m hm => if_neg (by omega)
  have npo : ∀ m c a, s[m]? = some (some c) → w.A m = some a → a ≠ p := fun m c a q ha z => st.np m c a q ha (z ▸ hP)
  refine ⟨w2, rfl, ⟨⟨fun n a q => hA n a (e.A n a q), e.Z, e.H⟩, fun a z => ⟨e.P a z, fun q => h1 (q ▸ z)⟩, e.HP⟩, ⟨fun m c q => ?_, fun m c a q ha z => ?_, fun a z => st.pz a z.1, fun m k b x y qm qk hm hk => ?_, st.fz, fun m hm => ?_, st.ptk (fun _ h => h.1) (fun _ _ => rfl)⟩, .cel AtN⟩
  · rcases at' m c q with ⟨hm, q⟩ | ⟨rfl, rfl⟩
    · obtain ⟨a, k1, k2, k3⟩ := st.at_ m c q
      exact ⟨a, hA m a k1, k2, k3.sam0 e0 rfl⟩
    · exact ⟨p, AtN, NZ.of nz, hc.sam0 e0 rfl⟩
  · rcases at' m c q with ⟨hm, q⟩ | ⟨rfl, rfl⟩
    · rw [AtO m hm] at ha
      exact st.np m c a q ha z.1
    · rw [AtN] at ha
      cases ha
      exact z.2 rfl
  · rcases at' m x qm with ⟨lm, qm'⟩ | ⟨rfl, rfl⟩
    · rcases at' k y qk with ⟨lk, qk'⟩ | ⟨rfl, rfl⟩
      · rw [AtO m lm] at hm
        rw [AtO k lk] at hk
        exact st.inj m k b x y qm' qk' hm hk
      · rw [AtO m lm] at hm
        rw [AtN] at hk
        cases hk
        exact absurd rfl (npo m x _ qm' hm)
    · rcases at' k y qk with ⟨lk, qk'⟩ | ⟨rfl, rfl⟩
      · rw [AtO k lk] at hk
        rw [AtN] at hm
        cases hm
        exact absurd rfl (npo k y _ qk' hk)
      · rfl
  · rw [List.length_append] at hm
    have hm' : s.length + 1 ≤ m := hm
    show (if m = s.length then some p else w.A m) = none
    rw [if_neg (by omega)]
    exact st.new m (by omega)
section
variable {X : Cx} {W : WX} {a b o : Expr} {es : List Expr} {pos pos' p apos : Pos} {ma mb mo : DE} {mr : DM (List D)}
theorem pp_nil : PPs X pos [] [] (([] : List (DE × DE)).map fun p => (tE X.K W p.1, tE X.K W p.2)) := pps_nil
theorem pp_cons {ks : List (Option Expr)} {vs : List Expr} {l : List (DE × DE)} (hk : PE X a (tE X.K W ma)) (hv : PE X b (tE X.K W mb)) (hr : PPs X pos ks vs (l.map fun p => (tE X.K W p.1, tE X.K W p.2))) : PPs X pos (some a :: ks) (b :: vs) (((ma, mb) :: l).map fun p => (tE X.K W p.1, tE X.K W p.2)) := pps_cons hk hv hr
theorem e_disp {ks : List (Option Expr)} {vs : List Expr} {l : List (DE × DE)} (h : PPs X pos ks vs (l.map fun p => (tE X.K W p.1, tE X.K W p.2))) (hall : ks.all (·.isSome) = true := by rfl) (hl : ks.length = vs.length := by rfl) (h0 : ks ≠ [] := by exact fun z => nomatch z) (h15 : ks.length ≤ 15 := by decide) :
    PE X (.Dict ks vs pos) (tE X.K W (dispM l)) := PE.imp (pe_disp h hall hl h0 h15) fun t H Q h => by
  obtain ⟨r, s, w, rfl, env, st, hp⟩ := h
  intro q nq
  have hP : ¬ w.P q := fun z => (st.pz q z).2 nq
  have hz : ¬ w.Z q := fun z => st.fz q z nq
  have e1 := Wd.pin_ext (o := .dK []) st nq
  refine pairs_imp (w := w.pin q (.dK [])) (env.ext e1) (Wd.pin_st st nq) ?_
  unfold dispM bindM at hp
  cases e : pairsM l r s with
  | exc C fs s3 => rw [e] at hp; exact Post.ext e1 hp
  | bad => rw [e] at hp; exact hp
  | ok ps s3 =>
    rw [e] at hp
    dsimp only at hp
    intro vs2 w3 e3 st3 r3
    have P3 : w3.P q := e3.P q (.inr rfl)
    have H3 : w3.H q = some (.dK []) := (e3.HP q (.inr rfl)).trans upd_same
    refine ⟨H3, ?_⟩
    cases ek : keyed ps with
    | none => rw [ek] at hp; exact hp.elim
    | some kvs =>
      rw [ek] at hp
      dsimp only at hp
      obtain ⟨kv, rfl, hr⟩ := keyed_ok r3 ek
      by_cases hl : kvs.length ≤ 15
      · rw [if_pos hl] at hp
        refine ⟨kv, rfl, by rw [hr.length]; exact hl, ?_⟩
        have x4 := Wd.turn_ext (o := .dK (mergeK [] kv)) (e1.trans e3) hz hP
        have st4 := Wd.turn_st (o := .dK (mergeK [] kv)) st3 P3
        have e0 := Wd.turn_ex0 (o := .dK (mergeK [] kv)) st3 P3
        obtain ⟨w5, h5, x5, st5, r5⟩ := unpin_cell (ct := .dct (mergeA [] kvs)) x4 st4 hP P3 ⟨mergeK [] kv, upd_same, KVR.merge .nil (hr.ex0 e0)⟩
        have z := hp (.ref q) w5 x5 st5 r5
        rw [h5] at z
        exact z
      · rw [if_neg hl] at hp
        exact hp.elim
/-! stores -/
theorem set_dict (hu : X.A.units + 1 < cLine) : PSet X (fun o i v H Q => ∃ a H', o = .ref a ∧ DPut H a i v H' ∧ Q H') := fun pins s t H o i v ov iv u Q I ro ri rv h => by
  obtain ⟨q, H', rfl, g, k⟩ := h
  obtain rfl : ov = Value.ref q := ro
  exact d_setItem hu I g ri rv fun s3 I3 => ⟨H', I3, k⟩
theorem PSet.or {t t' : TSet} (h : PSet X t) (h' : PSet X t') : PSet X (fun o i v H Q => t o i v H Q ∨ t' o i v H Q) := fun pins s σ H o i v ov iv u Q I ro ri rv q => q.elim (h pins s σ H o i v ov iv u Q I ro ri rv) (h' pins s σ H o i v ov iv u Q I ro ri rv)
theorem putI_ok {w : Wd} {s s' : Sto} {x z y : V} {dx dz dy : D} {Q : Hp → Prop} (st : StR X.K w s) (rx : Rep X.K w x dx) (rz : Rep X.K w z dz) (ry : Rep X.K w y dy) (h : putI dx dz dy s = some s') (k : ∀ w', Ext w w' → StR X.K w' s' → Q w'.H) :
    (∃ a H', x = .ref a ∧ DPut w.H a z y H' ∧ Q H') ∨ (∃ p xs i j, x = V.ref p ∧ z = .int i ∧ w.H p = some (.lst xs) ∧ ixN xs.length i = some j ∧ Q (upd w.H p (.lst (xs.set j y)))) := by
  cases rx with
  | @cel n a0 hA =>
    unfold putI at h
    dsimp only at h
    cases e : s[n]? with
    | none => rw [e] at h; cases h
    | some oc =>
      cases oc with
      | none => rw [e] at h; cases h
      | some ct =>
        rw [e] at h
        obtain ⟨a1, h1, hz, hc⟩ := st.at_ n _ e
        have ea : a1 = a0 := Option.some.inj (h1.symm.trans hA)
        subst ea
        have hP := st.np n _ a1 e h1
        cases ct with
        | dct m =>
          dsimp only at h
          obtain ⟨l, hh, kv⟩ := hc
          cases ek : keyD dz with
          | none => rw [ek] at h; cases h
          | some q =>
            rw [ek] at h
            dsimp only at h
            split at h
            · rename_i hl
              cases h
              have e3 : Ext w (w.put a1 (.dK (L2.putK l q y))) := Wd.mut_ext hz hP
              refine .inl ⟨a1, _, rfl, .inl ⟨l, q, hh, keyD_ok rz ek, by rw [kv.length]; exact hl, rfl⟩, ?_⟩
              exact k (w.put a1 (.dK (L2.putK l q y))) e3 (Wd.mut_st st e h1 hz ⟨_, upd_same, (kv.ext e3).putK (ry.ext e3)⟩)
            · cases h
        | lst l =>
          dsimp only at h
          obtain ⟨vs, hh, rs⟩ := hc
          cases rz with
          | int i =>
            dsimp only at h
            cases ei : ixN l.length i with
            | none => rw [ei] at h; cases h
            | some j =>
              rw [ei] at h
              cases h
              have e3 : Ext w (w.put a1 (.lst (vs.set j y))) := Wd.mut_ext hz hP
              refine .inr ⟨a1, vs, i, j, rfl, rfl, hh, by rw [rs.length]; exact ei, ?_⟩
              exact k (w.put a1 (.lst (vs.set j y))) e3 (Wd.mut_st st e h1 hz ⟨_, upd_same, (rs.ext e3).set (ry.ext e3) j⟩)
          | _ => cases h
        | ins C l => cases h
        | rod l => cases h
        | tab x => cases h
        | dtt m => cases h
  | _ => cases h
theorem s_sub {mk : DE} (hu : X.A.units + 1 < cLine) (ho : PE X o (tE X.K W mo)) (hk : PE X b (tE X.K W mk)) (hv : PE X a (tE X.K W ma)) (hs : swapsWithSole [.Subscript o b p] a pos.line X.env = pure false := by rfl) (hw : swappedStores [.Subscript o b p] a X.env = pure none := by rfl)
    (h1 : (assignEach [.Subscript o b p] X.env).map (·.2) = [assign (.Subscript o b p) X.env] := by rfl)
    (hA : ∀ v, assign (.Subscript o b p) X.env v = (holding [v] (eval o X.env) >>= fun ov => holding [v, ov] (eval b X.env) >>= fun iv => standAt p >>= fun _ => holding [v, ov, iv] (setItem ov iv v) >>= fun _ => release [v, ov, iv] []) := by intro _; rfl) :
    PS X (.Assign [.Subscript o b p] a pos) (tS X.K W (subS mo mk ma)) := PS.imp (ps_asg hv (pg_sub ho hk (PSet.or (set_dict hu) set_list) hA) hs hw h1) fun E t H h => by
  obtain ⟨r, s, w, rfl, env, st, hp⟩ := h
  exact hp.bind env st fun y dy s1 w1 e1 st1 r1 hp1 => hp1.bind (env.ext e1) st1 fun x dx s2 w2 e2 st2 r2 hp2 => hp2.bind ((env.ext e1).ext e2) st2 fun z dz s3 w3 e3 st3 r3 hp3 => by
    cases e : putI dx dz dy s3 with
    | none => rw [e] at hp3; exact hp3.elim
    | some s4 =>
      rw [e] at hp3
      have q := putI_ok (Q := fun H3 => E.nx t H3) st3 (r2.ext e3) r3 ((r1.ext e2).ext e3) e fun w4 e4 st4 => hp3 t w4 e4 ((((env.ext e1).ext e2).ext e3).ext e4) st4
      rcases q with q | q
      · exact .inl q
      · obtain ⟨p1, xs, i, j, h1, h2, h3, h4, h5⟩ := q
        exact .inr ⟨p1, xs, i, j, h1, h2, h3, h4, h5⟩
/-! x op= e -/
theorem ip_mul : PIp X .Mult (fun x y H Q => ∃ i j, x = .int i ∧ y = .int j ∧ CMulW i j ∧ Q (.int (i * j)) H) := fun pins s t H x y v u Q I r1 r2 h => by
  obtain ⟨i, j, rfl, rfl, hc, q⟩ := h
  obtain ⟨t1, rfl⟩ := r1
  obtain ⟨t2, rfl⟩ := r2
  exact PyProof.Rows.imul_int ⟨.int _, H, I.tok _, ⟨_, rfl⟩, q⟩ hc.ok
theorem s_augG {op : Operator} {ti : TIp} {f : D → D → Sto → Res D} {i : Nat} {x : Str} (ho : PIp X op ti) (hvr : ∀ w s x y a b Q E, StR X.K w s → Rep X.K w x a → Rep X.K w y b → Post X.K (Rep X.K) w E Q (f a b s) → ti x y w.H Q)
    (hN : X.N.Nodup) (hi : X.N[i]? = some x) (hx : Loc X.env.scope x) (he : PE X a (tE X.K W ma)) (hf : X.fn x = true ∨ X.env.scope.names.lookup x = some .local := by first | exact .inl rfl | exact .inr rfl | assumption) :
    PS X (.AugAssign (.Name x pos') op a pos) (tS X.K W (augS i f ma)) := PS.imp (ps_aug hN hi hx he ho hf) fun E t H h => by
  obtain ⟨r, s, w, rfl, env, st, hp⟩ := h
  have hp' : PostS X.K w W E (thenS (vM i) (fun x0 => thenS ma fun y0 => fun r s => match f x0 y0 s with
    | .ok d s' => .nx (r.set i (some d)) s'
    | .exc C fs s' => .exc C fs r s'
    | .bad => .bad) r s) := by
    have e : augS i f ma r s = thenS (vM i) (fun x0 => thenS ma fun y0 => fun r s => match f x0 y0 s with
      | .ok d s' => .nx (r.set i (some d)) s'
      | .exc C fs s' => .exc C fs r s'
      | .bad => .bad) r s := by
      unfold augS thenS binM bindM
      cases vM i r s with
      | ok d s1 =>
        dsimp only
        cases ma r s1 with
        | ok d2 s2 =>
          dsimp only
          cases f d d2 s2 <;> rfl
        | _ => rfl
      | _ => rfl
    rw [← e]
    exact hp
  unfold thenS vM at hp'
  cases e : r[i]? with
  | none => rw [e] at hp'; exact hp'.elim
  | some od =>
    cases od with
    | none => rw [e] at hp'; exact hp'.elim
    | some d =>
      rw [e] at hp'
      obtain ⟨v, h1, h2⟩ := env.2 i d e
      refine ⟨v, h1, ?_⟩
      have hp2 : PostS X.K w W E (thenS ma (fun y0 => fun r s => match f d y0 s with
        | .ok d s' => .nx (r.set i (some d)) s'
        | .exc C fs s' => .exc C fs r s'
        | .bad => .bad) r s) := hp'
      exact hp2.bind env st fun y dy s1 w1 e1 st1 r1 hp1 => hvr w1 s1 v y d dy _ (fun c d H' => W c d t H') st1 (h2.ext e1) r1 (by
        cases ef : f d dy s1 with
        | ok d3 s3 =>
          rw [ef] at hp1
          exact fun x w3 e3 st3 r3 => hp1 _ w3 e3 (((env.ext e1).ext e3).set r3 i) st3
        | exc C fs s3 =>
          rw [ef] at hp1
          exact fun ed w3 e3 st3 x3 => hp1 t ed w3 e3 ((env.ext e1).ext e3) st3 x3
        | bad => rw [ef] at hp1; exact hp1)
def mulI (x y : D) (s : Sto) : Res D := match x with
  | .int i => (match y with
    | .int j => if mulC i j = true then .ok (.int (i * j)) s else .bad
    | _ => .bad)
  | _ => .bad
def addI (x y : D) (s : Sto) : Res D := match x with
  | .int i => (match y with
    | .int j => .ok (.int (i + j)) s
    | _ => .bad)
  | _ => .bad
theorem s_augMul {i : Nat} {x : Str} (hN : X.N.Nodup) (hi : X.N[i]? = some x) (hx : Loc X.env.scope x) (he : PE X a (tE X.K W ma)) (hf : X.fn x = true ∨ X.env.scope.names.lookup x = some .local := by first | exact .inl rfl | exact .inr rfl | assumption) :
    PS X (.AugAssign (.Name x pos') .Mult a pos) (tS X.K W (augS i mulI ma)) := s_augG ip_mul (fun w s x y a b Q E st rx ry hp => by
  unfold mulI at hp
  cases rx with
  | int i =>
    cases ry with
    | int j =>
      dsimp only at hp
      split at hp
      · rename_i hc
        exact ⟨i, j, rfl, rfl, of_decide_eq_true (p := i.natAbs.log2 + j.natAbs.log2 < 1000000) hc, hp.pure st (.int _)⟩
      · exact hp.elim
    | _ => exact hp.elim
  | _ => exact hp.elim) hN hi hx he hf
end
end Mp
set_option Elab.async false
set_option linter.all false
set_option maxRecDepth 100000
set_option maxHeartbeats 4000000
/-! Mp: try. -/
namespace Mp
open PySem PySem.Spec PyProof.Rows L2
/-! ### on data -/
def noExc : Fl → Fl
  | .exc _ _ _ _ => .bad
  | f => f
/-- try: body except c: suite; tb: which of the package's errors c is -/
def tryS (mb : DS) (tb : List (Str × Bool)) (mh : DS) : DS := fun r s => match mb r s with
  | .exc C fs r' s' => (match tb.lookup C with
    | some true => noExc (mh r' s')
    | some false => .exc C fs r' s'
    | none => .bad)
  | f => f
def offS (i : Nat) : Fl → Fl
  | .nx r s => .nx (r.set i none) s
  | .bk r s => .bk (r.set i none) s
  | .ct r s => .ct (r.set i none) s
  | .rt d s => .rt d s
  | _ => .bad
open Classical in
noncomputable def joinF (f : Addr → Option Addr → Fl) : Fl := if ∀ a d, f a d = f 0 none then f 0 none else .bad
theorem joinF_of {f : Addr → Option Addr → Fl} (h : ∀ a d, f a d = f 0 none) : joinF f = f 0 none := if_pos h
noncomputable def tryAsS (i : Nat) (E : Str) (mb : DS) (tb : List (Str × Bool)) (mh : Addr → Option Addr → List (Str × D) → DS) : DS := fun r s => match mb r s with
  | .exc C fs r' s' => (match tb.lookup C with
    | some true => if C = E then joinF (fun a d => offS i (mh a d fs (r'.set i (some (.exn a d C fs))) s')) else .bad
    | some false => .exc C fs r' s'
    | none => .bad)
  | f => f
/-- e.f of the caught one -/
def exnM (a : Addr) (d : Option Addr) (f : Str) (m : DE) : DE := bindM m fun x => fun _ s => match x with
  | .exn a' d' _ fs => if a' = a ∧ d' = d then okO s (fs.lookup f) else .bad
  | _ => .bad
/-! ### soundness -/
def ExTab (K : Frag) (c : Value) (tb : List (Str × Bool)) : Prop := ∀ q ∈ tb, PySem.W.exmOne K (.ref (He.ga K q.1)) c = some q.2
section
variable {X : Cx} {W : WX} {x n : Str} {c : Value} {body suite : List Stmt} {b0 : Stmt} {np pos pos' : Pos} {mb mh : DS} {tb : List (Str × Bool)}
theorem noExc_post {K : Frag} {w : Wd} {W W' : WX} {E : Ends} : ∀ {f : Fl}, PostS K w W E (noExc f) → PostS K w W' E f
  | .nx _ _, h => h
  | .rt _ _, h => h
  | .bk _ _, h => h
  | .ct _ _, h => h
  | .exc _ _ _ _, h => h.elim
  | .bad, h => h
theorem e_exn {a : Addr} {oe : Obj} {d : Option Addr} {pn : List (Addr × Obj)} {C f : Str} {e : Expr} {m : DE} (T : XfC X.K (He.ga X.K C)) (hno : PySem.W.findIn X.K (.ref (He.ga X.K C)) f = some none) (hz : Zc (.ref (He.ga X.K C)) d oe) (hf : ∃ vs, oe.data = .fields vs)
    (he : PE (X.suite a ((a, oe) :: pn)) e (tE X.K W m)) (hb : attributeBase e f X.env (eval e X.env) = eval e X.env := by rfl) : PE (X.suite a ((a, oe) :: pn)) (.Attribute e f pos) (tE X.K W (exnM a d f m)) :=
  PE.imp (pe_xf T hno hz hf he hb) fun t H Q h => by
    obtain ⟨r, s, w, rfl, env, st, hp⟩ := h
    exact hp.bind env st fun v dv s1 w1 e1 st1 r1 hp1 => by
      cases dv with
      | exn a' d' C' fs =>
        dsimp only at hp1
        obtain ⟨rfl, hx⟩ := r1.exn_inv
        split at hp1
        · rename_i hq
          obtain ⟨rfl, rfl⟩ := hq
          refine ⟨rfl, rfl, ?_⟩
          cases d' with
          | none =>
            cases hx
            exact hp1.elim
          | some dd =>
            obtain ⟨z, l, hl, kv⟩ := hx
            have g := kv.lookup (f := f)
            cases eg : fs.lookup f with
            | none => rw [eg] at hp1; exact hp1.elim
            | some d3 =>
              rw [eg] at g hp1
              obtain ⟨v3, h3, r3⟩ := g
              exact ⟨dd, l, v3, rfl, hl, h3, hp1.pure st1 r3⟩
        · exact hp1.elim
      | _ => exact hp1.elim
end
end Mp
set_option Elab.async false
set_option linter.all false
set_option maxRecDepth 100000
set_option maxHeartbeats 4000000
/-! Mp: methods that say super().m(..). -/
namespace Mp
open PySem PySem.Spec PyProof.Rows L2
/-- statements whose own code stands on top of the stack -/
structure QSs (X : Cx) (c : Code) (st : List Stmt) (t : TS) : Prop where
  run : ∀ (pins : List (Addr × Obj)) (s : Shared) (σ : L2.St) (H : Hp) (D : Ends), Inv X pins σ H s → t D σ H → PySem.wpAt (model X.prog X.w) X.A c (execs st X.env) (SP X pins D) X.xe s
section
variable {X : Cx} {W : WX} {c : Code} {st : Stmt} {rest : List Stmt} {m1 m2 : DS}
theorem q_of {l : List Stmt} {t : TS} (h : PSs X l t) : QSs X c l t := ⟨fun pins s σ H D I q => wpAt_of_wpAny (h.run pins s σ H D I q)⟩
theorem q_cons (h1 : PS X st (tS X.K W m1)) (h2 : QSs X c rest (tS X.K W m2)) : QSs X c (st :: rest) (tS X.K W (seqS m1 m2)) := by
  refine ⟨fun pins s σ H D I h => ?_⟩
  have q := seq_imp h
  refine ks_wpAt_execs_cons (wpAt_of_wpAny (thn (h1.run pins s σ H { D with nx := tS X.K W m2 D } I q) fun f s1 q => ?_))
  cases f with
  | next =>
    obtain ⟨σ', H', I', q⟩ := q
    exact h2.run pins s1 σ' H' D I' q
  | ret v => exact q
  | brk => exact q
  | cont => exact q
end
/-- super().m(a, ..): by the class of the instance -/
def superM (tb : List (Str × DF)) (a : DM (List D)) : DE := bindM (vM 0) fun x => fun r s => match insOf s x with
  | none => .bad
  | some (C, _) => (match tb.lookup C with
    | none => .bad
    | some f => (bindM a fun ds => fun _ s => f (x :: ds) s) r s)
def superS (tb : List (Str × DF)) (a : DM (List D)) : DS := thenS (superM tb a) fun _ => fun r s => .nx r s
structure SupF (X : Cx) (D : Addr) (C m : Str) (mf : DF) : Prop where
  cls : (PySem.W.clsIn X.K (He.ga X.K C)).isSome = true
  sub : PySem.W.mroIn X.K (He.ga X.K C) (.ref D) = some true
  ex : ∃ (g : Addr) (k : Nat), PySem.W.ks_superIn X.K (He.ga X.K C) D m = some (some (.ref g)) ∧ PySem.W.typeIn X.K (.ref g) = some (.type "function") ∧ PySem.W.fnIn X.K g = true ∧ FnD X.prog X.w X.K X.mg X.base k g mf ∧ Rm k X.A
inductive STab (X : Cx) (D : Addr) (m : Str) : List (Str × DF) → Prop
  | nil : STab X D m []
  | cons {C : Str} {f : DF} {r : List (Str × DF)} : SupF X D C m f → STab X D m r → STab X D m ((C, f) :: r)
theorem STab.get {X : Cx} {D : Addr} {m C : Str} {f : DF} : ∀ {tb : List (Str × DF)}, STab X D m tb → tb.lookup C = some f → SupF X D C m f
  | _, .nil, h => by simp at h
  | _, .cons (C := E) h1 r, h => by
    by_cases e : C = E
    · subst e
      rw [List.lookup_cons_self] at h
      cases h
      exact h1
    · have hb : (C == E) = false := by simpa using e
      rw [List.lookup_cons, hb] at h
      exact r.get h
/-- what a method's context has where super() may be said -/
structure SupX (X : Cx) (Dc f cc cda : Addr) (me : Str) : Prop where
  fu : X.env.func = some f
  co : X.env.code = .ref cda
  cl : X.env.cells.lookup ("__class__" : Str) = some cc
  ks : X.env.kindOf "super" = some .globalImplicit
  kc : X.env.kindOf "__class__" = some .free
  km : X.env.kindOf me = some .local
  n0 : X.N[0]? = some me
  fd : ∃ (oc : Value) (od : Option Addr) (fd : FuncData) (osl : Array (Option Value)) (ar : Arg), X.K.lookup f = some ⟨oc, od, .func fd, osl⟩ ∧ (fd.params.posonlyargs ++ fd.params.args).head? = some ar ∧ ar.arg = me
  cd : ∃ (ccl : Value) (cdd : Option Addr) (vs : Array Value) (ccs : Array (Option Value)) (file : Str) (tf : Tok), X.K.lookup cda = some ⟨ccl, cdd, .fields vs, ccs⟩ ∧ vs[2]? = some (.str file tf) ∧ ((X.prog.main.file : Str) == file) = true
  ce : ∃ (cl : Value) (cld : Option Addr) (csl : Array (Option Value)), X.K.lookup cc = some ⟨cl, cld, .cell (some (.ref Dc)), csl⟩
  cD : (PySem.W.clsIn X.K Dc).isSome = true
  nos : X.mg "super" = none
  top : (X.prog.main.scope.names.lookup ("super" : Str)).isSome = false
  tp : PySem.W.nsIn X.K cStatics "thirdparty.any" = some none
section
variable {X : Cx} {W : WX} {Dc f cc cda : Addr} {me m : Str} {tb : List (Str × DF)} {mr : DM (List D)} {a : Expr} {es : List Expr} {p0 p1 p2 apos pos : Pos} {body rest : List Stmt} {m2 : DS}
theorem cls_obj {K : Frag} {h : Heap} {C : Addr} (KX : K.In h) (hc : (PySem.W.clsIn K C).isSome = true) : ∃ (o : Obj) (cd : ClassData), h.get? C = some o ∧ o.data = .cls cd ∧ PySem.W.clsIn K C = some cd := by
  obtain ⟨cd, hc⟩ := Option.isSome_iff_exists.mp hc
  have hc' := hc
  unfold PySem.W.clsIn at hc
  split at hc
  · rename_i ho
    cases hc
    exact ⟨_, _, KX _ _ ho, rfl, hc'⟩
  · cases hc
theorem q_super (tk : Takes X W) (S : SupX X Dc f cc cda me) (T : STab X Dc m tb) (ha : PA X (a :: es) (tA X.K W mr)) (h2 : QSs X (.func body X.env) rest (tS X.K W m2)) (hat : (m == ("__class__" : Str)) = false := by decide)
    (he : starEach (a :: es) X.env = (false, eval a X.env) :: starEach es X.env := by rfl) (hpl : (backTo pos (starEach es X.env)).any (·.1) = false := by rfl) {pl : Sem Bool}
    (ht : eval (.Call (.Attribute (.Call (.Name "super" p0) [] [] p1) m apos) (a :: es) [] pos) X.env = (attributeBase (.Call (.Name "super" p0) [] [] p1) m X.env (eval (.Call (.Name "super" p0) [] [] p1) X.env) >>= fun ov => standAt apos.atName >>= fun _ => holding [ov] (getMethod ov m pl) >>= fun z => callWith pos z.1 z.2 (backTo pos (starEach (a :: es) X.env)) []) := by rfl)
    (hi : interactive X.env = false := by rfl) (hs : swapsWith (.Call (.Attribute (.Call (.Name "super" p0) [] [] p1) m apos) (a :: es) [] pos) none p2.line X.env = pure false := by rfl) :
    QSs X (.func body X.env) (.Expr (.Call (.Attribute (.Call (.Name "super" p0) [] [] p1) m apos) (a :: es) [] pos) p2 :: rest) (tS X.K W (seqS (superS tb mr) m2)) := by
  refine ⟨fun pins s t H E I h => ?_⟩
  have q := seq_imp h
  obtain ⟨r, so, w, rfl, env, st, hp⟩ := q
  refine ks_wpAt_execs_cons (ks_wpAt_Expr_any ?_ hi hs)
  refine ks_wpAt_MethodCall (pl := pl) ?_ ht
  obtain ⟨oc, od, fd, osl, ar, hf, har, rfl⟩ := S.fd
  obtain ⟨ccl, cdd, vs, ccs, file, tf, hcd, hvs, hfile⟩ := S.cd
  obtain ⟨cl, cld, csl, hce⟩ := S.ce
  obtain ⟨oD, cdD, hD1, hD2, hD3⟩ := cls_obj I.kIn S.cD
  obtain ⟨mb, hb1, hb2⟩ := I.mod.blt
  refine ks_wpAt_super_base (env := X.env) S.ks S.kc hat S.fu (I.kIn _ _ hf) rfl har S.co (I.kIn _ _ hcd) rfl hvs hfile S.top ?_
  refine PySem.W.ks_loadName_global I.ok.kind S.ks (Calls.loadGlobal_builtin (by rw [I.ok.glob]; exact I.mod.glob.keeps I.bk) S.nos (by rw [I.ok.blt]; exact hb1.keeps I.bk) ((hb2 "super" (by decide)).trans (by decide +kernel)) ⟨rfl, ?_⟩)
  refine wpAny_loadName_free I.ok.kind S.kc S.cl ⟨_, I.kIn _ _ hce, rfl⟩ ?_
  unfold superS superM thenS bindM vM at hp
  cases e0 : r[0]? with
  | none => rw [e0] at hp; exact hp.elim
  | some od0 =>
    rw [e0] at hp
    cases od0 with
    | none => exact hp.elim
    | some d =>
      dsimp only at hp
      obtain ⟨v, hv, rv⟩ := env.2 0 d e0
      cases e : insOf so d with
      | none => rw [e] at hp; exact hp.elim
      | some q =>
        obtain ⟨C, fs⟩ := q
        rw [e] at hp
        dsimp only at hp
        obtain ⟨q, dx, l, rfl, hh, kv⟩ := insOf_ok st rv e
        cases e2 : tb.lookup C with
        | none => rw [e2] at hp; exact hp.elim
        | some mf =>
          rw [e2] at hp
          dsimp only at hp
          have SF := T.get e2
          obtain ⟨g, k, hsup, hty, hfi, F, hr⟩ := SF.ex
          obtain ⟨m0, hn, hl⟩ := I.loc
          obtain ⟨u, ru, lk⟩ := hl 0 ar.arg _ S.n0 hv (.inl S.km)
          obtain rfl : u = Value.ref q := ru
          have hm0 : m0 ar.arg = some (.ref q) := by
            rcases lk with ⟨_, z⟩ | ⟨z, _⟩
            · exact z
            · rw [S.km] at z
              rcases z with z | z <;> cases z
          refine wpAny_loadName_local I.ok.kind S.km hn hm0 ?_
          refine ks_wpAny_isType_cls hD1 hD2 ⟨rfl, ?_⟩
          obtain ⟨mA, O, _⟩ := ins_get I.hok hh
          obtain ⟨odI, J, _⟩ := O.look
          have hnc : ∀ cx, (_ : Obj).data ≠ .cls cx := fun cx ez => by
            have z := J.no
            unfold PySem.W.notCls at z
            rw [ez] at z
            exact Bool.noConfusion z
          refine ks_wpAny_call_super hD1 hD2 J.at_ J.cls hnc (PySem.W.looks_mroIn I.kIn SF.sub) fun h1 hso k1 => ?_
          have I1 : Inv X pins t w.H { s with heap := h1, toks := s.toks } := I.kept k1
          obtain ⟨oC, cdC, hC1, hC2, hC3⟩ := cls_obj I1.kIn SF.cls
          have hsup2 : PySem.W.alongIn X.K m ((cdC.mro.dropWhile (· != .ref Dc)).drop 1) = some (some (.ref g)) := by
            unfold PySem.W.ks_superIn at hsup
            rw [hC3] at hsup
            exact hsup
          obtain ⟨oF, hoF, hcF⟩ : ∃ oF, h1.get? g = some oF ∧ oF.cls = .type "function" := by
            have z : (X.K.lookup g).map (·.cls) = some (.type "function") := hty
            cases y : X.K.lookup g with
            | none => rw [y] at z; cases z
            | some oF => rw [y] at z; exact ⟨oF, I1.kIn _ _ y, Option.some.inj z⟩
          have hmro : PySem.W.Looks (model X.prog X.w) h1 (mroOf (.ref (He.ga X.K C))) cdC.mro := fun A2 Q2 E2 s2 k2 q2 => wpAny_bind ((PySem.W.looks_clsIn I1.kIn hC3) A2 _ E2 s2 k2 (wpAny_pure q2))
          refine ks_wpAny_getMethod_super hso (PySem.W.looks_opaque I1.kIn S.tp) hmro rfl I1.kIn hsup2 hoF hcF (PySem.W.ks_ne I.kIn J hC3) hat ?_
          have I2 : Inv X pins t (upd w.H h1.objs.size (.met g q)) { s with heap := h1.push { cls := .type "method", data := .fields #[.ref g, .ref q] }, toks := s.toks + 1 } :=
            I1.laid (t' := s.toks + 1) (a := h1.objs.size) (o := .met g q) (fun b u z => Heap.get?_push_of_some _ z) (Nat.le_refl _) (Heap.get?_push_size h1 rfl)
          have hq1 : w.H h1.objs.size = none := I1.hok.fresh (Nat.le_refl _)
          have e3 := Wd.frz_ext st (o := .met g q) hq1
          have st3 := Wd.frz_st st (o := .met g q) hq1
          have hp3 := PostS.ext e3 hp
          rw [he]
          refine PySem.W.callWith_of (P := PySem.W.MethP X.K h1.objs.size g (.ref q)) (by show ((false || (backTo pos (starEach es X.env)).any (·.1)) || false) = false; rw [hpl]; rfl) (PySem.W.keeps_M hfi) (Calls.evalArgs_plain ?_)
          have hr1 := ha.run pos pins _ t (w.frz h1.objs.size (.met g q)).H (fun vs H2 => H2 h1.objs.size = some (.met g q) ∧ spD X.K mf (.ref q :: vs) H2 (fun _ H3 => tS X.K W m2 E t H3) (WE W t)) I2 ⟨r, so, w.frz h1.objs.size (.met g q), rfl, env.ext e3, st3, ?_⟩
          · rw [he] at hr1
            refine thn hr1 fun us s2 z => ?_
            obtain ⟨vs2, H2, I3, rv2, hmt, hsp⟩ := z
            refine ⟨met_P I3 hmt, ?_⟩
            refine wpAny_call (PySem.W.method_call (met_P I3 hmt).1 ?_)
            refine codeAny_mono (F X.A X.stack s2 H2 (.ref q :: us) (.ref q :: vs2) (fun _ H3 => tS X.K W m2 E t H3) (WE W t) hr I3.env0 (.cons rfl rv2) hsp) fun z s3 hz => ?_
            cases z with
            | error er => exact passAt tk t pins H2 s2 er s3 I3 hz
            | ok fl =>
              cases fl with
              | ret u3 =>
                obtain ⟨v3, H3, I4, rv3, q3⟩ := I3.after hz
                exact h2.run pins s3 t H3 E I4 q3
              | _ => exact hz.elim
          · cases e5 : mr r so with
            | bad => rw [e5] at hp3; exact hp3.elim
            | exc C5 f5 s5 =>
              rw [e5] at hp3
              exact fun ed w5 e6 st5 x5 => hp3 t ed w5 e6 ((env.ext e3).ext e6) st5 x5
            | ok dv s5 =>
              rw [e5] at hp3
              intro vs5 w5 e6 st5 r5
              refine ⟨(e6.H _ Wd.frz_z).trans Wd.frz_h, _, s5, w5, rfl, .cons ((rv.ext e3).ext e6) r5, st5, ?_⟩
              have hp5 := PostS.ext e6 hp3
              dsimp only at hp5
              cases e7 : mf (d :: dv) s5 with
              | bad => rw [e7] at hp5; exact hp5.elim
              | exc C8 f8 s8 =>
                rw [e7] at hp5
                exact fun ed w8 e8 st8 x8 => hp5 t ed w8 e8 (((env.ext e3).ext e6).ext e8) st8 x8
              | ok d8 s8 =>
                rw [e7] at hp5
                exact fun v8 w8 e8 st8 r8 => hp5 t w8 e8 (((env.ext e3).ext e6).ext e8) st8
end
/-- a method that says super(): its object, its code, its cell -/
structure FunS (K : Frag) (P : Program) (x qual : Str) (params : Arguments) (body : List Stmt) (scope : Scope) (f Dc cc cda : Addr) : Prop where
  ex : ∃ (oc : Value) (od : Option Addr) (kV doc pm : Value) (an : Option Addr) (ct : Value) (osl : Array (Option Value)), K.lookup f = some ⟨oc, od, .func (PySem.W.fnX x qual params body scope [("__class__", cc)] .none kV doc pm an (.ref cda) ct), osl⟩
  cdi : PySem.W.codeIn K (.ref cda) qual = true
  cd : ∃ (ccl : Value) (cdd : Option Addr) (vs : Array Value) (ccs : Array (Option Value)) (file : Str) (tf : Tok), K.lookup cda = some ⟨ccl, cdd, .fields vs, ccs⟩ ∧ vs[2]? = some (.str file tf) ∧ ((P.main.file : Str) == file) = true
  ce : ∃ (cl : Value) (cld : Option Addr) (csl : Array (Option Value)), K.lookup cc = some ⟨cl, cld, .cell (some (.ref Dc)), csl⟩
  cD : (PySem.W.clsIn K Dc).isSome = true
  kp : PySem.W.keepIn K (.ref f) = true
  tp : PySem.W.nsIn K cStatics "thirdparty.any" = some none
abbrev nfS (x qual : Str) (params : Arguments) (body : List Stmt) (scope : Scope) (cc cda : Addr) : NdefX.NF := ⟨x, qual, params, body, scope, [("__class__", cc)], cda⟩
abbrev cxS (P : Program) (w : World) (K : Frag) (mg : Str → Option Value) (base : Heap) (N : List Str) (x qual : Str) (params : Arguments) (body : List Stmt) (scope : Scope) (f cc cda : Addr) (A : Around) (outer : List Env) (s : Shared) (H : Hp) (E : XK) : Cx :=
  NdefX.ncx (L2.CX P w) P w K mg base N (nfS x qual params body scope cc cda) f A outer s H E
section
variable {P : Program} {w : World} {K : Frag} {mg : Str → Option Value} {base : Heap} {N ps : List Str} {x qual : Str} {params : Arguments} {body : List Stmt} {scope : Scope} {f Dc cc cda : Addr} {k : Nat} {b : DS} {A : Around} {outer : List Env} {s : Shared} {H : Hp} {E : XK}
theorem sup_x {me : Str} {ar : Arg} (F : FunS K P x qual params body scope f Dc cc cda) (har : (params.posonlyargs ++ params.args).head? = some ar) (hme : ar.arg = me) (hN : N[0]? = some me) (hks : scope.names.lookup ("super" : Str) = some .globalImplicit) (hkc : scope.names.lookup ("__class__" : Str) = some .free)
    (hkm : scope.names.lookup me = some .local) (hm : mg "super" = none) (ht : (P.main.scope.names.lookup ("super" : Str)).isSome = false) : SupX (cxS P w K mg base N x qual params body scope f cc cda A outer s H E) Dc f cc cda me := by
  obtain ⟨oc, od, kV, doc, pm, an, ct, osl, lk⟩ := F.ex
  exact ⟨rfl, rfl, rfl, hks, hkc, hkm, hN, ⟨_, _, _, _, ar, lk, har, hme⟩, F.cd, F.ce, F.cD, hm, ht, F.tp⟩
theorem fn_sup (F : FunS K P x qual params body scope f Dc cc cda) (S : NdefX.NScope N ps ["__class__"] scope)
    (hb : ∀ (kV doc pm : Value) (an : Option Addr) (ct : Value) (us : List Value), us.length = ps.length → bindArgs (PySem.W.fnX x qual params body scope [("__class__", cc)] .none kV doc pm an (.ref cda) ct) ⟨us, []⟩ = pure (ps.zip us))
    (hbody : ∀ (A : Around) (outer : List Env) (s : Shared) (H : Hp) (E : XK), Rm k (cxS P w K mg base N x qual params body scope f cc cda A outer s H E).A →
      QSs (cxS P w K mg base N x qual params body scope f cc cda A outer s H E) (.func body (cxS P w K mg base N x qual params body scope f cc cda A outer s H E).env) body (tS K (fun c d _ H' => E c d H') b)) : FnD P w K mg base (k + 1) f (bodyM ps.length [] N.length b) := by
  intro A outer s H us vs Q E hr e0 r h
  obtain ⟨ds, so, u, rfl, rs, st, hp⟩ := h
  unfold bodyM argsD at hp
  rw [List.drop_nil, List.append_nil] at hp
  split at hp
  · rename_i es he
    split at he
    · rename_i hc
      cases he
      have l1 := rs.length
      have hl : vs.length = ps.length := by
        have := hc.2
        simp only [List.length_nil] at this
        omega
      obtain ⟨oc, od, kV, doc, pm, an, ct, osl, lk⟩ := F.ex
      obtain ⟨cl, cld, csl, hce⟩ := F.ce
      have KX : K.In s.heap := e0.mod.kin.keeps fun b o e => (e0.bs b o e).1
      have lim : s.heap.NoLimit := e0.mod.nolimit.keeps fun b o e => (e0.bs b o e).1
      refine codeAny_call_function hr.rm.depth (KX _ _ lk) rfl S.co S.gen rfl (PySem.W.codeRec_of KX F.cdi) ?_
      rw [hb kV doc pm an ct us (by rw [← r.length]; exact hl)]
      refine wpAny_pure (wpAny_newFunctionEnv S.nocell (fun ⟨n, _⟩ hy => S.par n (List.of_mem_zip hy).1) (fun h₁ hns hsb => ⟨lim.fresh _ hsb, ?_⟩) S.kind)
      show codeAny _ _ (.func body (cxS P w K mg base N x qual params body scope f cc cda A outer s u.H E).env) _ _
      refine ks_codeAny_funcAt ?_
      have kp : ∀ b o, s.heap.get? b = some o → h₁.get? b = some o := fun b o e => hsb.extBut b o (Nat.ne_of_lt (Heap.lt_size e)) (Heap.get?_push_of_some _ e)
      have lk1 : ∀ y c, List.lookup y ([("__class__", cc)] : List (Str × Addr)) = some c → y = ("__class__" : Str) ∧ c = cc := fun y c e => by
        by_cases ey : y = ("__class__" : Str)
        · subst ey
          rw [List.lookup_cons_self] at e
          exact ⟨rfl, (Option.some.inj e).symm⟩
        · have hb : (y == ("__class__" : Str)) = false := by simpa using ey
          rw [List.lookup_cons, hb] at e
          simp at e
      have CA : NdefX.CellsAt (nfS x qual params body scope cc cda).cl ["__class__"] [none] s.heap u.H := by
        refine ⟨rfl, fun y c e => ?_, fun y z c e1 e2 => ?_, fun i y e => ?_⟩
        · obtain ⟨_, rfl⟩ := lk1 y c e
          exact ⟨(e0.bs _ _ (e0.mod.kin _ _ hce)).2, _, ⟨_, KX _ _ hce, rfl⟩⟩
        · exact (lk1 y c e1).1.trans (lk1 z c e2).1.symm
        · cases i with
          | zero =>
            simp at e
            subst e
            exact ⟨cc, List.lookup_cons_self, fun v hv => by simp at hv⟩
          | succ n => simp at e
      have hN : ps.length + 1 ≤ N.length := by
        have q := congrArg List.length S.pre
        rw [List.length_take, List.length_append] at q
        simp only [List.length_cons, List.length_nil] at q
        omega
      have hst : NdefX.startF N vs [none] = vs.map some ++ List.replicate (N.length - vs.length) none := by
        unfold NdefX.startF
        congr 1
        have e1 : N.length - vs.length = (N.length - vs.length - 1) + 1 := by omega
        rw [e1, List.replicate_succ]
        rfl
      have I : Inv (cxS P w K mg base N x qual params body scope f cc cda A outer s u.H E) [] (NdefX.startF N vs [none]) u.H { s with heap := h₁, toks := s.toks + (ps.zip us).length } := NdefX.inv_startN S hr.rm.hd e0 hl r CA hns kp
      have hq := body_end (n := N.length) (b := b) rs st hp
      rw [← hst] at hq
      refine PySem.wpAt_mono ((hbody A outer s u.H E (hr.deeper _)).run [] _ _ _ _ I hq) (fun fl s' hs => ?_) fun e s' hs => hs
      have fin : ∀ {σ' : L2.St} {H' : Hp} {v' : V} {u' : Value}, Inv (cxS P w K mg base N x qual params body scope f cc cda A outer s u.H E) [] σ' H' s' → RelV v' u' → Q v' H' → CE outer P w u.H s Q u' s' :=
        fun {σ' H' v' u'} J rv' q => ⟨v', H', J.os, J.bare, J.base, J.hok, rv', q⟩
      cases fl with
      | ret u' =>
        obtain ⟨v', σ', H', J, rv', q⟩ := hs
        exact fin J rv' q
      | next =>
        obtain ⟨σ', H', J, q⟩ := hs
        exact fin (v' := V.non) (u' := Value.none) J rfl q
      | brk =>
        obtain ⟨_, _, _, q⟩ := hs
        exact q.elim
      | cont =>
        obtain ⟨_, _, _, q⟩ := hs
        exact q.elim
    · cases he
  · exact hp.elim
end
end Mp
set_option Elab.async false
set_option linter.all false
set_option maxRecDepth 100000
set_option maxHeartbeats 4000000
/-! Mp: repr of plain data, chained comparisons. -/
namespace Mp
open PySem PySem.Spec PyProof.Rows L2
section
variable {X : Cx} {W : WX} {a b c : Expr} {pos : Pos} {ma mb mc : DE}
/-! a op b op c -/
def chainT (g : D → D → Sto → Res D) (y : D) (c : DE) : D → DE
  | .bl true => bindM c fun u => fun _ s => g y u s
  | .bl false => pureM (.bl false)
  | _ => fun _ _ => .bad
def chainM (f g : D → D → Sto → Res D) (a b c : DE) : DE := bindM a fun x => bindM b fun y => fun r s => match f x y s with
  | .ok z s' => chainT g y c z r s'
  | .exc C fs s' => .exc C fs s'
  | .bad => .bad
theorem chain_imp {op op' : CmpOp} {f g : D → D → Sto → Res D} {r r' : R2} (hv : VR2 X.K r f) (hv' : VR2 X.K r' g) {t : L2.St} {H : Hp} {Q : VK} (h : tE X.K W (chainM f g ma mb mc) t H Q) :
    tChain r r' (tE X.K W ma) (tE X.K W mb) (tE X.K W mc) t H Q := by
  obtain ⟨q, s, w, rfl, env, st, hp⟩ := h
  refine hp.bind env st fun x d s1 w1 e1 st1 r1 hp1 => ?_
  refine hp1.bind (env.ext e1) st1 fun y e s2 w2 e2 st2 r2 hp2 => ?_
  cases e5 : f d e s2 with
  | bad => rw [e5] at hp2; exact hp2.elim
  | exc C fs s3 =>
    rw [e5] at hp2
    refine hv w2 s2 x y d e _ (fun c d H' => W c d t H') st2 (r1.ext e2) r2 ?_
    rw [e5]
    exact hp2
  | ok z s3 =>
    rw [e5] at hp2
    refine hv w2 s2 x y d e _ (fun c d H' => W c d t H') st2 (r1.ext e2) r2 ?_
    rw [e5]
    intro vz w3 e3 st3 r3
    have hp3 := Post.ext e3 hp2
    cases z with
    | bl k =>
      cases r3
      refine ⟨k, rfl, ?_⟩
      cases k with
      | false =>
        exact hp3.pure st3 (.bl false)
      | true =>
        refine Post.bind (m := mc) (f := fun u => fun _ s => g e u s) (r := q) (R' := Rep X.K) hp3 (((env.ext e1).ext e2).ext e3) st3 fun u du s4 w4 e4 st4 r4 hp4 => ?_
        exact hv' w4 s4 y u e du Q _ st4 ((r2.ext e3).ext e4) r4 hp4
    | _ => exact hp3.elim
theorem e_chain {op op' : CmpOp} {f g : D → D → Sto → Res D} {r r' : R2} (ho : OpR X (compareOp op) r) (ho' : OpR X (compareOp op') r') (hv : VR2 X.K r f) (hv' : VR2 X.K r' g) (ha : PE X a (tE X.K W ma)) (hb : PE X b (tE X.K W mb)) (hc : PE X c (tE X.K W mc))
    (hm : lastMarks [op, op'] [b, c] = false := by with_unfolding_all rfl) : PE X (.Compare a [op, op'] [b, c] pos) (tE X.K W (chainM f g ma mb mc)) := PE.imp (pe_chain ho ho' ha hb hc hm) fun t H Q h => chain_imp (op := op) (op' := op') hv hv' h
end
end Mp
set_option Elab.async false
set_option linter.all false
set_option maxRecDepth 100000
set_option maxHeartbeats 4000000
/-! Mp: the end of a law, the head's facts. -/
namespace Mp
open PySem PySem.Spec PyProof.Rows L2
/-! ### the end -/
abbrev LawEnd (s₁ : Shared) : Result → Shared → Prop := fun r s' => r = .ok (.ret (.bool true)) ∧ OldK s₁.heap s'.heap ∧ s'.os = s₁.os ∧ AllBare s'.gens
section
end
end Mp
set_option Elab.async false
set_option linter.all false
set_option maxRecDepth 100000
set_option maxHeartbeats 4000000
/-! Mp: the head's facts. -/
namespace Mp
open PySem PySem.Spec PyProof.Rows L2
/-! ### defs -/
structure DefM where
  ad : Frag → Addr
  name : Str
  qual : Str
  params : Arguments
  body : List Stmt
  scope : Scope
  dfl : List He.Dv := []
  sup : Option Str := none
def fnWM (K : Frag) (d : DefM) : He.FnW := match K.lookup (d.ad K) with
  | some ⟨_, _, .func fd, _⟩ => some (fd.name, fd.qualname, fd.params, fd.body, fd.scope, fd.globals, [], fd.builtins)
  | _ => none
def DefM.val (d : DefM) : He.FnW := some (d.name, d.qual, d.params, .stmts d.body, d.scope, mainGlobals, [], builtinsNs)
def DefM.dvs (K : Frag) (d : DefM) : List V := d.dfl.map (He.Dv.v K)
def fileB (file : Str) (K : Frag) : Value → Bool
  | .ref c => (match K.lookup c with
    | some ⟨_, _, .fields vs, _⟩ => (match (vs[2]? : Option Value) with
      | some (.str f _) => file == f
      | _ => false)
    | _ => false)
  | _ => false
def clB (file : Str) (K : Frag) (sup : Option Str) (fd : FuncData) : Bool := match sup with
  | none => (match fd.closure with
    | [] => true
    | _ => false)
  | some C => (match fd.closure with
    | [(n, cc)] => decide (n = "__class__") && ((match K.lookup cc with
      | some ⟨_, _, .cell (some (.ref e)), _⟩ => decide (e = He.ga K C)
      | _ => false) && ((PySem.W.clsIn K (He.ga K C)).isSome && (fileB file K fd.code && He.eqO (PySem.W.nsIn K cStatics "thirdparty.any") (some none))))
    | _ => false)
def DefM.ok (file : Str) (K : Frag) (d : DefM) : Bool := PySem.W.keepIn K (.ref (d.ad K)) && (match K.lookup (d.ad K) with
  | some ⟨_, _, .func fd, _⟩ => PySem.W.codeIn K fd.code d.qual && (He.dflB K fd.defaults (d.dvs K) && clB file K d.sup fd)
  | _ => false)
theorem DefM.funD {file : Str} {K : Frag} {d : DefM} (hs : d.sup = none) (e : fnWM K d = d.val) (c : d.ok file K = true) : ∃ fd, FunD K d.name d.qual d.params d.body d.scope (d.dvs K) [] (d.ad K) fd := by
  obtain ⟨kp, c2⟩ := He.ba c
  unfold fnWM at e
  cases q : K.lookup (d.ad K) with
  | none => rw [q] at c2; cases c2
  | some o =>
    obtain ⟨oc, od, dt, osl⟩ := o
    rw [q] at c2 e
    cases dt with
    | func fd =>
      obtain ⟨n1, n2, n3, n4, n5, n6, n7, n8, n9, n10, n11, n12, n13, n14, n15⟩ := fd
      have e2 : (some (n1, n2, n3, n4, n5, n6, [], n15) : He.FnW) = some (d.name, d.qual, d.params, .stmts d.body, d.scope, mainGlobals, [], builtinsNs) := e
      simp only [Option.some.injEq, Prod.mk.injEq] at e2
      obtain ⟨h1, h2, h3, h4, h5, h6, _, h8⟩ := e2
      subst h1 h2 h3 h4 h5 h6 h8
      obtain ⟨k1, k2⟩ := He.ba c2
      obtain ⟨k3, k4⟩ := He.ba k2
      unfold clB at k4
      rw [hs] at k4
      dsimp only at k4
      cases n7 with
      | nil => exact ⟨_, ⟨oc, od, n8, n9, n10, n11, n12, n13, n14, osl, rfl, q, k1, He.dflB_ok k3, .inl rfl⟩, kp⟩
      | cons _ _ => cases k4
    | _ => cases c2
theorem DefM.funS {P : Program} {K : Frag} {d : DefM} {C : Str} (hs : d.sup = some C) (hd : d.dfl = []) (e : fnWM K d = d.val) (c : d.ok P.main.file K = true) :
    ∃ cc cda, FunS K P d.name d.qual d.params d.body d.scope (d.ad K) (He.ga K C) cc cda := by
  obtain ⟨kp, c2⟩ := He.ba c
  unfold fnWM at e
  cases q : K.lookup (d.ad K) with
  | none => rw [q] at c2; cases c2
  | some o =>
    obtain ⟨oc, od, dt, osl⟩ := o
    rw [q] at c2 e
    cases dt with
    | func fd =>
      obtain ⟨n1, n2, n3, n4, n5, n6, n7, n8, n9, n10, n11, n12, n13, n14, n15⟩ := fd
      have e2 : (some (n1, n2, n3, n4, n5, n6, [], n15) : He.FnW) = some (d.name, d.qual, d.params, .stmts d.body, d.scope, mainGlobals, [], builtinsNs) := e
      simp only [Option.some.injEq, Prod.mk.injEq] at e2
      obtain ⟨h1, h2, h3, h4, h5, h6, _, h8⟩ := e2
      subst h1 h2 h3 h4 h5 h6 h8
      obtain ⟨k1, k2⟩ := He.ba c2
      obtain ⟨k3, k4⟩ := He.ba k2
      unfold clB at k4
      rw [hs] at k4
      dsimp only at k4
      match n7, k4 with
      | [(n, cc)], k4 =>
        obtain ⟨a1, a⟩ := He.ba k4
        obtain ⟨a2, a⟩ := He.ba a
        obtain ⟨a3, a⟩ := He.ba a
        obtain ⟨a4, a5⟩ := He.ba a
        have en := of_decide_eq_true a1
        subst en
        have hdv : n8 = .none := by
          unfold DefM.dvs at k3
          rw [hd] at k3
          cases n8 with
          | none => rfl
          | _ => cases k3
        subst hdv
        cases n13 with
        | ref cda =>
          refine ⟨cc, cda, ⟨⟨oc, od, n9, n10, n11, n12, n14, osl, q⟩, k1, ?_, ?_, a3, kp, He.eqO_ok a5⟩⟩
          · have a4' : (match K.lookup cda with
              | some ⟨_, _, .fields vs, _⟩ => (match (vs[2]? : Option Value) with
                | some (.str f _) => P.main.file == f
                | _ => false)
              | _ => false) = true := a4
            cases q4 : K.lookup cda with
            | none => rw [q4] at a4'; cases a4'
            | some o4 =>
              obtain ⟨o1, o2, o3, o5⟩ := o4
              rw [q4] at a4'
              cases o3 with
              | fields vs4 =>
                dsimp only at a4'
                cases q5 : vs4[2]? with
                | none => rw [q5] at a4'; cases a4'
                | some v5 =>
                  rw [q5] at a4'
                  cases v5 with
                  | str f5 t5 => exact ⟨_, _, _, _, f5, t5, rfl, q5, a4'⟩
                  | _ => cases a4'
              | _ => cases a4'
          · cases q4 : K.lookup cc with
            | none => rw [q4] at a2; cases a2
            | some o4 =>
              obtain ⟨o1, o2, o3, o5⟩ := o4
              rw [q4] at a2
              cases o3 with
              | cell v4 =>
                cases v4 with
                | none => cases a2
                | some v4 =>
                  cases v4 with
                  | ref e4 =>
                    have z : e4 = He.ga K C := of_decide_eq_true a2
                    subst z
                    exact ⟨_, _, _, rfl⟩
                  | _ => cases a2
              | _ => cases a2
        | _ => cases a4
    | _ => cases c2
/-! ### the Hook -/
abbrev AlM : Type := Bool × List He.FnW
def obsM (file : Str) (fb : List (Frag → Bool)) (fn : List DefM) (K : Frag) : AlM := ((fb.all fun f => f K) && fn.all fun d => d.ok file K, fn.map fun d => fnWM K d)
def valM (fn : List DefM) : AlM := (true, fn.map DefM.val)
def SaysM (file : Str) (fb : List (Frag → Bool)) (fn : List DefM) (K : Frag) : Prop := obsM file fb fn K = valM fn
def refsM (g : Addr → Option Obj) (a : Addr) : List Addr := match g a with
  | some o => He.refsD o
  | none => []
/-- those that are not marked yet -/
def markK (k : Nat → List Addr → List Addr) : List Addr → Nat → List Addr → List Addr
  | [], seen, out => k seen out
  | a :: as, seen, out => (match Nat.testBit seen a with
    | true => markK k as seen out
    | false => markK k as (seen ||| (1 <<< a)) (a :: out))
def levelM (g : Addr → Option Obj) : Nat → List Addr → Nat → List Addr
  | 0, front, _ => front
  | n + 1, front, seen => front ++ markK (fun seen' out => levelM g n out seen') (front.flatMap (refsM g)) seen []
def asM (g : Addr → Option Obj) (n : Nat) : List Addr := cStatics :: sysModules :: levelM g n [mainGlobals] (1 <<< mainGlobals)
/-- all that a derivation may ask of the head -/
structure Fx (P : Program) (fb : List (Frag → Bool)) (fn : List DefM) (K : Frag) (mg : Str → Option Value) : Prop where
  says : SaysM P.main.file fb fn K
  ex : ∃ h : Heap, K.In h ∧ h.Ns mainGlobals mg
section
variable {P : Program} {fb : List (Frag → Bool)} {fn : List DefM} {K : Frag} {mg : Str → Option Value} (Z : Fx P fb fn K mg)
include Z
theorem Fx.fact (i : Nat) {f : Frag → Bool} (h : fb[i]? = some f) : f K = true := by
  have c1 := (He.ba (show ((fb.all fun f => f K) && fn.all fun d => d.ok P.main.file K) = true from congrArg (fun z : AlM => z.1) Z.says)).1
  exact List.all_eq_true.mp c1 f (List.mem_of_getElem? h)
theorem Fx.dfOk (i : Nat) {d : DefM} (h : fn[i]? = some d) : fnWM K d = d.val ∧ d.ok P.main.file K = true := by
  have c2 := (He.ba (show ((fb.all fun f => f K) && fn.all fun d => d.ok P.main.file K) = true from congrArg (fun z : AlM => z.1) Z.says)).2
  have e : fn.map (fun d => fnWM K d) = fn.map DefM.val := congrArg (fun z : AlM => z.2) Z.says
  have e2 : (fn.map fun d => fnWM K d)[i]? = (fn.map DefM.val)[i]? := by rw [e]
  rw [List.getElem?_map, List.getElem?_map, h] at e2
  exact ⟨Option.some.inj e2, List.all_eq_true.mp c2 d (List.mem_of_getElem? h)⟩
theorem Fx.df (i : Nat) {d : DefM} (h : fn[i]? = some d) (hs : d.sup = none) : ∃ fd, FunD K d.name d.qual d.params d.body d.scope (d.dvs K) [] (d.ad K) fd := let q := Z.dfOk i h; DefM.funD hs q.1 q.2
theorem Fx.dfS (i : Nat) {d : DefM} {C : Str} (h : fn[i]? = some d) (hs : d.sup = some C) (hd : d.dfl = []) : ∃ cc cda, FunS K P d.name d.qual d.params d.body d.scope (d.ad K) (He.ga K C) cc cda := let q := Z.dfOk i h; DefM.funS hs hd q.1 q.2
theorem Fx.keep (i : Nat) {d : DefM} (h : fn[i]? = some d) : PySem.W.keepIn K (.ref (d.ad K)) = true := (He.ba (Z.dfOk i h).2).1
abbrev ckF (f : He.Fa) : Frag → Bool := fun K => f.ok K
omit Z in
theorem fx_in (Z : Fx P fb fn K mg) {T : Prop} (k : ∀ h : Heap, K.In h → h.Ns mainGlobals mg → T) : T := let ⟨h, a, b⟩ := Z.ex; k h a b
theorem Fx.glo (i : Nat) {x : Str} (h : fb[i]? = some (ckF (.glo x))) : mg x = some (.ref (He.ga K x)) := fx_in Z fun _ a b => He.glo_ok a b (Z.fact i h)
theorem Fx.free (i : Nat) {x : Str} (h : fb[i]? = some (ckF (.free x))) : mg x = none := fx_in Z fun _ a b => He.free_ok a b (Z.fact i h)
theorem Fx.int (i : Nat) {x : Str} {j : Int} (h : fb[i]? = some (ckF (.int x j))) : ∃ t, mg x = some (.int j t) := fx_in Z fun _ a b => He.int_ok a b (Z.fact i h)
theorem Fx.str (i : Nat) {x z : Str} (h : fb[i]? = some (ckF (.str x z))) : ∃ t, mg x = some (.str z t) := fx_in Z fun _ a b => He.str_ok a b (Z.fact i h)
theorem Fx.cls (i : Nat) {x : Str} (h : fb[i]? = some (ckF (.cls x))) : Cls K (He.ga K x) := He.cls_ok (Z.fact i h)
theorem Fx.noat (i : Nat) {x f : Str} (h : fb[i]? = some (ckF (.noat x f))) : NoAttr K (He.ga K x) f := He.noat_ok (Z.fact i h)
theorem Fx.meth (i : Nat) {x f : Str} (h : fb[i]? = some (ckF (.meth x f))) : Meth K (He.ga K x) f (He.ma K (He.ga K x) f) := He.meth_ok (Z.fact i h)
theorem Fx.mkr (i : Nat) {x : Str} (h : fb[i]? = some (ckF (.mkr x))) : Mk K (He.ga K x) (He.ma K (He.ga K x) "__init__") := He.mkr_ok (Z.fact i h)
abbrev ckTup (x : Str) (vs : List He.Dv) : Frag → Bool := fun K => He.tupB K x vs
theorem Fx.tup (i : Nat) {x : Str} {vs : List He.Dv} (h : fb[i]? = some (ckTup x vs)) : KT K (He.ga K x) (vs.map (He.Dv.v K)) := by
  rcases He.tupB_ok (Z.fact i h) (fun _ => none) with (z | ⟨o, z⟩) | z
  · cases z
  · cases z
  · exact z
/-! own exceptions -/
abbrev ckExc (x : Str) (newId : String) (bm : List Value) : Frag → Bool := fun K => exB K (He.ga K x) bm newId && (He.eqO (PySem.W.findIn K (.ref (He.ga K x)) "__setattr__") (some (some (.builtin "object.__setattr__"))) && (decide (PySem.W.subIn K (.ref (He.ga K x)) (.type "BaseException") = some true) &&
  (decide (PySem.W.typeIn K (.ref (He.ga K x)) = some (.type "type")) && (PySem.W.keepIn K (.ref (He.ga K x)) && (He.eqO (PySem.W.findIn K (.ref (He.ga K x)) "__init__") (some (some (.ref (He.ma K (He.ga K x) "__init__")))) && decide (PySem.W.typeIn K (.ref (He.ma K (He.ga K x) "__init__")) = some (.type "function")))))))
theorem Fx.exc (i : Nat) {x : Str} {B newId initId : String} {bm : List Value} (b : BaseX B newId initId bm) (h : fb[i]? = some (ckExc x newId bm)) :
    OexB K (He.ga K x) B newId initId bm ∧ PySem.W.findIn K (.ref (He.ga K x)) "__init__" = some (some (.ref (He.ma K (He.ga K x) "__init__"))) ∧ PySem.W.typeIn K (.ref (He.ma K (He.ga K x) "__init__")) = some (.type "function") := by
  obtain ⟨h1, r⟩ := He.ba (Z.fact i h)
  obtain ⟨h2, r⟩ := He.ba r
  obtain ⟨h3, r⟩ := He.ba r
  obtain ⟨h4, r⟩ := He.ba r
  obtain ⟨h5, r⟩ := He.ba r
  obtain ⟨h6, h7⟩ := He.ba r
  exact ⟨⟨b, exB_ok h1, He.eqO_ok h2, of_decide_eq_true h3, of_decide_eq_true h4, h5⟩, He.eqO_ok h6, of_decide_eq_true h7⟩
abbrev ckExm (c : Frag → Value) (tb : List (Str × Bool)) : Frag → Bool := fun K => tb.all fun q => decide (PySem.W.exmOne K (.ref (He.ga K q.1)) (c K) = some q.2)
theorem Fx.exm (i : Nat) {c : Frag → Value} {tb : List (Str × Bool)} (h : fb[i]? = some (ckExm c tb)) : ExTab K (c K) tb := fun q hq => of_decide_eq_true (List.all_eq_true.mp (Z.fact i h) q hq)
/-! isinstance -/
abbrev ckTyC (x : Str) : Frag → Bool := fun K => (ckF (.cls x)) K && (He.eqO (PySem.W.findIn K (.ref (He.ga K x)) "__class__") (some (some (.builtin "object.__class__"))) && (He.eqO (PySem.W.specialIn K (.builtin "object.__class__") "__get__") (some (some (.builtin "getset_descriptor.__get__"))) &&
  (decide (PySem.W.takesIn K (.builtin "object.__class__") = some true) && decide (PySem.W.mroIn K (He.ga K x) (.type "object") = some true))))
abbrev ckIsi (it : Isi) : Frag → Bool := fun K => (it.cs.all fun C => ckTyC C K) && ((it.oo.all fun q => decide (PySem.W.kitOne K (.ref (He.ga K q.1.1)) (.ref (He.ga K q.1.2)) = some q.2)) && ((it.bo.all fun C => tyNames.all fun n => decide (PySem.W.kitOne K (.type n) (.ref (He.ga K C)) = some false)) &&
  it.ob.all fun q => decide (PySem.W.kitOne K (.ref (He.ga K q.1.1)) (.type q.1.2) = some q.2)))
theorem Fx.isi (i : Nat) {it : Isi} (h : fb[i]? = some (ckIsi it)) : IsiOk K it := by
  obtain ⟨h1, r⟩ := He.ba (Z.fact i h)
  obtain ⟨h2, r⟩ := He.ba r
  obtain ⟨h3, h4⟩ := He.ba r
  refine ⟨fun C hC => ?_, fun q hq => of_decide_eq_true (List.all_eq_true.mp h2 q hq), fun C hC n hn => of_decide_eq_true (List.all_eq_true.mp (List.all_eq_true.mp h3 C hC) n hn), fun q hq => of_decide_eq_true (List.all_eq_true.mp h4 q hq)⟩
  obtain ⟨a1, a⟩ := He.ba (List.all_eq_true.mp h1 C hC)
  obtain ⟨a2, a⟩ := He.ba a
  obtain ⟨a3, a⟩ := He.ba a
  obtain ⟨a4, a5⟩ := He.ba a
  exact ⟨He.cls_ok a1, He.eqO_ok a2, He.eqO_ok a3, of_decide_eq_true a4, of_decide_eq_true a5⟩
/-! bound methods, super -/
abbrev ckBm (x m : Str) : Frag → Bool := fun K => (ckF (.meth x m)) K && (He.eqO (PySem.W.specialIn K (.ref (He.ma K (He.ga K x) m)) "__get__") (some (some (.builtin "function.__get__"))) && (decide (PySem.W.takesIn K (.ref (He.ma K (He.ga K x) m)) = some false) && (!PySem.W.copiedNames.contains m && PySem.W.fnIn K (He.ma K (He.ga K x) m))))
theorem Fx.bm (i : Nat) {x m : Str} (h : fb[i]? = some (ckBm x m)) : BMeth K (He.ga K x) m (He.ma K (He.ga K x) m) := by
  obtain ⟨h1, r⟩ := He.ba (Z.fact i h)
  obtain ⟨h2, r⟩ := He.ba r
  obtain ⟨h3, r⟩ := He.ba r
  obtain ⟨h4, h5⟩ := He.ba r
  exact ⟨He.meth_ok h1, He.eqO_ok h2, of_decide_eq_true h3, by simpa using h4, h5⟩
abbrev ckSup (C E m : Str) (g : Frag → Addr) : Frag → Bool := fun K => (PySem.W.clsIn K (He.ga K C)).isSome && (decide (PySem.W.mroIn K (He.ga K C) (.ref (He.ga K E)) = some true) && (He.eqO (PySem.W.ks_superIn K (He.ga K C) (He.ga K E) m) (some (some (.ref (g K)))) && (decide (PySem.W.typeIn K (.ref (g K)) = some (.type "function")) && PySem.W.fnIn K (g K))))
end
theorem Fx.supF {X : Cx} {fb : List (Frag → Bool)} {fn : List DefM} (Z : Fx X.prog fb fn X.K X.mg) (i : Nat) {C E m : Str} {g : Frag → Addr} {mf : DF} {k : Nat} (h : fb[i]? = some (ckSup C E m g)) (F : FnD X.prog X.w X.K X.mg X.base k (g X.K) mf) (hr : Rm k X.A) : SupF X (He.ga X.K E) C m mf := by
  obtain ⟨h1, r⟩ := He.ba (Z.fact i h)
  obtain ⟨h2, r⟩ := He.ba r
  obtain ⟨h3, r⟩ := He.ba r
  obtain ⟨h4, h5⟩ := He.ba r
  exact ⟨h1, of_decide_eq_true h2, _, k, He.eqO_ok h3, of_decide_eq_true h4, h5, F, hr⟩
/-! properties, constants -/
abbrev ckCon (C f : Str) (v : He.Dv) : Frag → Bool := fun K => (match PySem.W.findIn K (.ref (He.ga K C)) f with
  | some (some u) => He.relB (v.v K) u && He.eqO (PySem.W.specialIn K u "__get__") (some none)
  | _ => false) && !PySem.W.copiedNames.contains f
theorem Fx.con {P : Program} {fb : List (Frag → Bool)} {fn : List DefM} {K : Frag} {mg : Str → Option Value} (Z : Fx P fb fn K mg) (i : Nat) {C f : Str} {v : He.Dv} (h : fb[i]? = some (ckCon C f v)) : ∃ u, Con K (He.ga K C) f (v.v K) u := by
  obtain ⟨h1, h2⟩ := He.ba (Z.fact i h)
  split at h1
  · rename_i u e
    obtain ⟨a, b⟩ := He.ba h1
    exact ⟨u, e, He.relB_ok a, He.eqO_ok b, by simpa using h2⟩
  · cases h1
end Mp
set_option Elab.async false
set_option linter.all false
set_option maxRecDepth 100000
set_option maxHeartbeats 4000000
/-! Mp: more built-in functions. -/
namespace Mp
open PySem PySem.Spec PyProof.Rows L2
def max2D (ds : List D) (s : Sto) : Res D := match ds with
  | [.int i, .int j] => .ok (.int (if j > i then j else i)) s
  | _ => .bad
def min2D (ds : List D) (s : Sto) : Res D := match ds with
  | [.int i, .int j] => .ok (.int (if j < i then j else i)) s
  | _ => .bad
section
variable {X : Cx}
theorem v_max2 : VRC X.K (fun xs H Q => ∃ i j, xs = [.int i, .int j] ∧ Q (.int (if j > i then j else i)) H) max2D := fun w s xs ds Q E st rs hp => by
  unfold max2D at hp
  split at hp
  · cases rs with | cons q r => cases r with | cons q2 r2 => cases q; cases q2; cases r2; exact ⟨_, _, rfl, hp.pure st (.int _)⟩
  · exact hp.elim
end
/-- a getter that lets no exception out -/
def noxF (m : DF) : DF := fun ds s => match m ds s with
  | .exc _ _ _ => .bad
  | r => r
theorem FnD.nox {P : Program} {w : World} {K : Frag} {mg : Str → Option Value} {base : Heap} {k : Nat} {f : Addr} {m : DF} (F : FnD P w K mg base k f m) : FnD P w K mg base k f (noxF m) := fun A outer s H us vs Q E hr e0 r h => by
  obtain ⟨ds, so, u, hu, rs, st, hp⟩ := h
  refine F A outer s H us vs Q E hr e0 r ⟨ds, so, u, hu, rs, st, ?_⟩
  unfold noxF at hp
  cases e : m ds so <;> rw [e] at hp
  · exact hp
  · exact hp.elim
  · exact hp
end Mp
set_option Elab.async false
set_option linter.all false
set_option maxRecDepth 100000
set_option maxHeartbeats 4000000
/-! Mp: a caught error as a value: isinstance(e, C). -/
namespace Mp
open PySem PySem.Spec PyProof.Rows L2 PySem.Calls
section
variable {prog : Program} {w : World} {A : Around} {E : Value → Shared → Prop} {s : Shared} {K : Frag} {x C : Addr} {ox : Obj} {od : Option Obj}
theorem fo_data {n : Str} {a g : Value} (hc : (PySem.W.clsIn K C).isSome = true) (ha : PySem.W.findIn K (.ref C) n = some (some a)) (hg : PySem.W.specialIn K a "__get__" = some (some g)) (ht : PySem.W.takesIn K a = some true) : PySem.W.findObj K C od n = some (.bind g a) := by
  cases od with
  | none => exact PySem.W.findObj_dataN hc ha hg ht
  | some o => exact PySem.W.findObj_data hc ha hg ht
/-- e.__class__, with an own dict or without -/
theorem exc_class {Q : Option Value → Shared → Prop} (T : ExcC K C) (X : K.In s.heap) (I : PySem.W.InstAt s.heap x ox C od) (h : Q (some (.ref C)) { s with toks := s.toks + 1 }) : wpAny (model prog w) A (getAttr? (.ref x) "__class__") Q E s := by
  have isS : (PySem.W.clsIn K C).isSome = true := by
    obtain ⟨cd, hc, _⟩ := PySem.W.any_some T.hd
    rw [hc] <;> rfl
  have hf := fo_data (od := od) isS T.ha T.hn T.ht
  obtain ⟨hp, g, d, t, os⟩ := s
  have l0 := I.type (M := model prog w)
  have l1 := PySem.W.looks_findIn (M := model prog w) X T.hg
  have l2 := PySem.W.looks_findIn (M := model prog w) X T.hk
  have l3 := PySem.W.looks_find (M := model prog w) X I hf
  have isB : PySem.W.Looks (model prog w) hp (isInstance (.ref x) (.type "BaseException")) true := l0.andThen (PySem.W.looks_subIn X T.hs)
  have n1 : (Value.builtin "BaseException.__getattribute__" == Value.builtin "object.__getattribute__") = false := by
    decide +kernel
  unfold getAttr? getAttrBy? getAttrBy
  refine wpAny_bind (wpAny_mkText (wpAny_bind (wpAny_attempt (wpAny_holding (wpAny_bind (l0.at (wpAny_bind (l1.at ?_))))))))
  dsimp only
  rw [show (onTheHeap (Value.ref C) && Value.builtin "BaseException.__getattribute__" == Value.builtin "object.__getattribute__") = false from by
    rw [n1] <;> rfl]
  rw [if_neg (by decide)]
  unfold getAttrByItsOwn hookBefore
  refine wpAny_bind ?_
  rw [if_pos (show onTheHeap (Value.ref C) = true by rfl)]
  refine l2.at (wpAny_bind (wpAny_attempt (wpAny_holding ?_)))
  unfold callGetattribute
  rw [show (false && onTheHeap (Value.builtin "BaseException.__getattribute__")) = false by rfl, if_neg (by decide)]
  unfold boundAndCalled
  rw [PySem.F.excAttr_ValueError.ga.bind (.ref x)]
  refine wpAny_bind (wpAny_pure (wpAny_call (codeAny_call_builtin PySem.F.excAttr_ValueError.ga.plain PySem.F.entry_bexc_ga ?_)))
  refine @PySem.W.check_slot (model prog w) _ _ ⟨hp, g, d, t + 1, os⟩ "BaseException.__getattribute__" "BaseException" "__getattribute__" (.ref x) [.str "__class__" t] [] _ (by decide +kernel)
    (by decide +kernel) isB (PySem.F.args_bexc_ga (.ref x) (.str "__class__" t)) ?_
  unfold Builtin.«object.__getattribute__»
  refine wpAny_bind (wpAny_of_eq (a := ((Value.ref x : Value), [Value.str "__class__" t])) (by
    first
      | rfl
      | (simp only [slotArgs] <;> rfl)) (wpAny_bind (wpAny_pure (wpAny_bind (l0.at (wpAny_bind (l3.at ?_)))))))
  refine wpAny_bind (wpAny_holding (wpAny_call (PySem.W.class_get (s := ⟨hp, g, d, t + 1, os⟩) (ox := ox) (od := od) X I T.hm (wpAny_pure ?_))))
  show wpAny _ _ (handedOut (Value.ref C)) _ _ _
  rw [PySem.W.handedOut_of (v := Value.ref C) rfl]
  first
    | exact wpAny_pure h
    | exact wpAny_pure (wpAny_pure h)
    | exact wpAny_pure (wpAny_bind (wpAny_pure (wpAny_pure h)))
theorem exc_kit (T : ExcC K C) : PySem.W.KitX K (.ref x) (.ref C) (fun h => PySem.W.InstAt h x ox C od) := by
  have key : ∃ (c : Value) (d : Option Addr) (cd : ClassData) (sl : Array (Option Value)), K.lookup C = some ⟨c, d, .cls cd, sl⟩ := by
    obtain ⟨cd, hc, _⟩ := PySem.W.any_some T.hd
    unfold PySem.W.clsIn at hc
    split at hc
    · rename_i c' d' cd' sl' ho
      exact ⟨_, _, _, _, ho⟩
    · cases hc
  obtain ⟨c, d, cd, sl, ho⟩ := key
  refine ⟨fun _ _ _ I => I.type, fun h h' X I => ?_, fun h tp dd its n sl' X htp => ?_, fun X I k => exc_class T X I k⟩
  · intro A' Q' E' s' k q
    unfold isType loadHead
    exact wpAny_bind (wpAny_loadPart (k _ _ (X _ _ ho)) (wpAny_pure q))
  · refine Bool.eq_false_iff.mpr fun q => ?_
    have e : C = tp := Value.ref.inj (beq_iff_eq.mp q)
    subst e
    exact nomatch (X _ _ ho).symm.trans htp
end
/-- what isinstance(e, c) asks, e the error that the suite holds -/
def rIsX (K : Frag) (C a : Addr) (d : Option Addr) : List V → Hp → VK → Prop := fun xs H Q => ∃ (c : V) (cv : Value) (b : Bool), xs = [.ref a, c] ∧ (∀ u, RelV c u → u = cv) ∧ PySem.W.kitOne K (.ref C) cv = some b ∧ (∀ dx, d = some dx → ∃ l, H dx = some (.xd l)) ∧ Q (.bl b) H
theorem call_isX {X : Cx} {a C : Addr} {d : Option Addr} {oe : Obj} {pn : List (Addr × Obj)} (T : ExcC X.K C) (hz : Zc (.ref C) d oe) (hf : ∃ vs, oe.data = .fields vs) : CallR (X.suite a ((a, oe) :: pn)) (.builtin "isinstance") (rIsX X.K C a d) := by
  intro pins s t H xs us Q I r h
  obtain ⟨c, cv, b, rfl, hcv, e, hx, q⟩ := h
  cases r with
  | cons rx rr =>
    cases rr with
    | cons rt rr =>
      cases rr
      cases rx
      obtain rfl := hcv _ rt
      obtain ⟨hget, _⟩ := I.pin (a, oe) (List.mem_append.mpr (.inl List.mem_cons_self))
      obtain ⟨vs, hv⟩ := hf
      have no : PySem.W.notCls oe = true := by
        unfold PySem.W.notCls
        rw [hv]
      obtain ⟨od, J⟩ : ∃ od, PySem.W.InstAt s.heap a oe C od := by
        cases d with
        | none => exact ⟨none, hget, hz.1, no, by rw [hz.2]; trivial⟩
        | some dx =>
          obtain ⟨l, hl⟩ := hx dx rfl
          obtain ⟨mA, hns, hr⟩ : ObjOk X.prog X.w H s.heap dx (.xd l) := I.hok dx _ hl
          obtain ⟨o, ho, _⟩ := lookIn_ns hns
          exact ⟨some o, hget, hz.1, no, by rw [hz.2]; exact ho⟩
      exact PySem.W.kia_one (exc_kit T) I.kIn J e (fun z => nomatch z) fun tk => ⟨.bl b, H, I.kept (t' := tk) fun _ _ z => z, rfl, q⟩
/-! ### on data -/
def isxD (a : Addr) (d : Option Addr) (tt : List (String × Bool)) (ds : List D) (s : Sto) : Res D := match ds with
  | [.exn a' d' _ _, .ty n] => if a' = a ∧ d' = d then (match tt.lookup n with
    | some b => .ok (.bl b) s
    | none => .bad) else .bad
  | _ => .bad
def KitTab (K : Frag) (C : Str) (tt : List (String × Bool)) : Prop := ∀ q ∈ tt, PySem.W.kitOne K (.ref (He.ga K C)) (.type q.1) = some q.2
theorem v_isx {X : Cx} {C : Str} {a : Addr} {d : Option Addr} {tt : List (String × Bool)} (hT : KitTab X.K C tt) : VRC X.K (rIsX X.K (He.ga X.K C) a d) (isxD a d tt) := fun w s xs ds Q E st rs hp => by
  unfold isxD at hp
  split at hp
  · cases rs with | cons q r => cases r with | cons q2 r2 =>
    cases r2
    cases q2
    obtain ⟨rfl, hx⟩ := q.exn_inv
    split at hp
    · rename_i hc
      obtain ⟨rfl, rfl⟩ := hc
      split at hp
      · rename_i b hb
        refine ⟨_, _, b, rfl, fun u z => z, hT _ (look_mem hb), fun dx hd => ?_, hp.pure st (.bl _)⟩
        subst hd
        obtain ⟨_, l, hl, _⟩ := hx
        exact ⟨l, hl⟩
      · exact hp.elim
    · exact hp.elim
  · exact hp.elim
/-! ### the head's facts -/
abbrev ckXc (x : Str) : Frag → Bool := fun K => decide (PySem.W.findIn K (.ref (He.ga K x)) "__getattribute__" = some (some (.builtin "BaseException.__getattribute__"))) && (decide (PySem.W.findIn K (.ref (He.ga K x)) "__getattr__" = some none) && (decide (PySem.W.subIn K (.ref (He.ga K x)) (.type "BaseException") = some true) &&
  (PySem.W.hasDictIn K (He.ga K x) && (decide (PySem.W.findIn K (.ref (He.ga K x)) "__class__" = some (some (.builtin "object.__class__"))) && (decide (PySem.W.specialIn K (.builtin "object.__class__") "__get__" = some (some (.builtin "getset_descriptor.__get__"))) &&
  (decide (PySem.W.takesIn K (.builtin "object.__class__") = some true) && decide (PySem.W.mroIn K (He.ga K x) (.type "object") = some true)))))))
theorem Fx.xc {P : Program} {fb : List (Frag → Bool)} {fn : List DefM} {K : Frag} {mg : Str → Option Value} (Z : Fx P fb fn K mg) (i : Nat) {x : Str} (h : fb[i]? = some (ckXc x)) : ExcC K (He.ga K x) := by
  have f := Z.fact i h
  simp only [ckXc, Bool.and_eq_true, decide_eq_true_eq] at f
  obtain ⟨h1, h2, h3, h4, h5, h6, h7, h8⟩ := f
  exact ⟨h1, h2, h3, h4, h5, h6, h7, h8⟩
theorem xf_of {K : Frag} {C : Addr} (T : ExcC K C) : XfC K C := ⟨T.hg, T.hk, T.hs, T.hd⟩
abbrev ckKt (x : Str) (tt : List (String × Bool)) : Frag → Bool := fun K => tt.all fun q => decide (PySem.W.kitOne K (.ref (He.ga K x)) (.type q.1) = some q.2)
theorem Fx.kt {P : Program} {fb : List (Frag → Bool)} {fn : List DefM} {K : Frag} {mg : Str → Option Value} (Z : Fx P fb fn K mg) (i : Nat) {x : Str} {tt : List (String × Bool)} (h : fb[i]? = some (ckKt x tt)) : KitTab K x tt := fun q hq => of_decide_eq_true (List.all_eq_true.mp (Z.fact i h) q hq)
end Mp
set_option Elab.async false
set_option linter.all false
set_option maxRecDepth 100000
set_option maxHeartbeats 4000000
/-! Mp: repr of data with dicts. -/
namespace Mp
open PySem PySem.Spec PyProof.Rows L2
def keyP : Key → PyData
  | .inl i => .int i
  | .inr z => .str z
mutual
inductive Dq (K : Frag) (H : Hp) : V → PyData → Prop
  | non : Dq K H .non .none
  | bl (b : Bool) : Dq K H (.bl b) (.bool b)
  | int (i : Int) : Dq K H (.int i) (.int i)
  | str (x : Str) : Dq K H (.str x) (.str x)
  | lst {a : Addr} {xs : List V} {ds : List PyData} : SqL K H a xs → Dqs K H xs ds → Dq K H (.ref a) (.list ds)
  | tup {a : Addr} {xs : List V} {ds : List PyData} : SqT K H a xs → Dqs K H xs ds → Dq K H (.ref a) (.tuple ds)
  | dic {a : Addr} {kvs : List (Key × V)} {ds : List PyData} : Rd H a (.dK kvs) → Dqs K H (kvs.map (·.2)) ds → Dq K H (.ref a) (.dict ((kvs.map fun p => keyP p.1).zip ds))
inductive Dqs (K : Frag) (H : Hp) : List V → List PyData → Prop
  | nil : Dqs K H [] []
  | cons {v : V} {vs : List V} {d : PyData} {ds : List PyData} : Dq K H v d → Dqs K H vs ds → Dqs K H (v :: vs) (d :: ds)
end
theorem Dqs.length {K : Frag} {H : Hp} : ∀ {vs : List V} {ds : List PyData}, Dqs K H vs ds → vs.length = ds.length
  | _, _, .nil => rfl
  | _, _, .cons _ r => congrArg (· + 1) r.length
/-- sys.modules is no list -/
def SysD (K : Frag) : Prop := ∃ o, K.lookup sysModules = some o ∧ o.cls = .type "dict"
theorem pairs_keys {P : Program} {w : World} {h : Heap} : ∀ {es : List DictEntry} {vs : List (Key × Value)}, Pairs (mixKind P w) es vs → ∃ as, ReadsAll h (es.map (·.key)) (vs.map fun p => keyP p.1) as ∧ sysModules ∉ as
  | _, _, .nil => ⟨[], .nil, by simp⟩
  | e :: es, kv :: vs, .cons h1 h2 r => by
    obtain ⟨as, ra, hn⟩ := pairs_keys (h := h) r
    have k1 : ∃ as1, Reads h e.key (keyP kv.1) as1 ∧ sysModules ∉ as1 := by
      rcases keyIs_shape h1 with ⟨i, t, e1, e2⟩ | ⟨x, t, e1, e2⟩
      · rw [e1, e2]
        exact ⟨_, .int i t, by simp⟩
      · rw [e1, e2]
        exact ⟨_, .str x t, by simp⟩
    obtain ⟨as1, r1, n1⟩ := k1
    exact ⟨_, .cons r1 ra, fun z => (List.mem_append.mp z).elim n1 hn⟩
theorem pairs_vals {P : Program} {w : World} : ∀ {es : List DictEntry} {vs : List (Key × Value)}, Pairs (mixKind P w) es vs → es.map (·.val) = vs.map (·.2)
  | _, _, .nil => rfl
  | e :: es, kv :: vs, .cons h1 h2 r => by
    rw [List.map_cons, List.map_cons, pairs_vals r, h2]
theorem kv_vals : ∀ {l : List (Key × V)} {m : List (Key × Value)}, KV l m → Vals (l.map (·.2)) (m.map (·.2)) ∧ l.map (·.1) = m.map (·.1)
  | _, _, .nil => ⟨.nil, rfl⟩
  | _, _, .cons h r => by
    obtain ⟨h1, h2⟩ := kv_vals r
    exact ⟨.cons h.2 h1, by rw [List.map_cons, List.map_cons, h2, h.1]⟩
section
variable {X : Cx} {pins : List (Addr × Obj)} {t : L2.St} {H : Hp} {s : Shared}
mutual
theorem Dq.reads (I : Inv X pins t H s) (hS : SysD X.K) : ∀ {v : V} {d : PyData}, Dq X.K H v d → ∀ {u : Value}, RelV v u → ∃ as, Reads s.heap u d as ∧ sysModules ∉ as
  | _, _, .non, _, r => by
    cases r
    exact ⟨_, .none, by simp⟩
  | _, _, .bl b, _, r => by
    cases r
    exact ⟨_, .bool b, by simp⟩
  | _, _, .int i, _, r => by
    obtain ⟨k, rfl⟩ := r
    exact ⟨_, .int i k, by simp⟩
  | _, _, .str x, _, r => by
    obtain ⟨k, rfl⟩ := r
    exact ⟨_, .str x k, by simp⟩
  | _, _, .lst hs ha, _, r => by
    cases r
    obtain ⟨its, rv, ⟨o, n, ho, hc, _, hd⟩, _⟩ := I.list hs
    obtain ⟨as, hr, hn⟩ := Dqs.reads I hS ha rv
    refine ⟨_, Reads.list ho hc hd hr, fun z => ?_⟩
    rcases List.mem_cons.mp z with z | z
    · obtain ⟨o2, h2, h3⟩ := hS
      have h4 := I.kIn _ _ h2
      rw [z, ho] at h4
      cases h4
      rw [hc] at h3
      exact absurd h3 (by decide)
    · exact hn z
  | _, _, .tup hs ha, _, r => by
    cases r
    obtain ⟨its, rv, ⟨o, ho, hc, n, hd⟩, _⟩ := I.tuple hs
    obtain ⟨as, hr, hn⟩ := Dqs.reads I hS ha rv
    exact ⟨_, Reads.tuple ho hc hd hr, hn⟩
  | _, _, .dic hs ha, _, r => by
    cases r
    obtain ⟨_, hne, vs, kv, o, es, ep, ho, hx, hd, _, hp, _⟩ := dk_rd I.hok hs
    obtain ⟨rv, rk⟩ := kv_vals kv
    obtain ⟨as, ra, na⟩ := pairs_keys (h := s.heap) hp
    obtain ⟨bs, rb, nb⟩ := Dqs.reads I hS ha rv
    have hl := ha.length
    have e1 : ∀ (ks : List PyData) (ds : List PyData), ks.length = ds.length → (ks.zip ds).map (·.1) = ks := fun ks ds hl => List.map_fst_zip (by omega)
    have e2 : ∀ (ks : List PyData) (ds : List PyData), ks.length = ds.length → (ks.zip ds).map (·.2) = ds := fun ks ds hl => List.map_snd_zip (by omega)
    rw [List.length_map] at hl
    refine ⟨_, Reads.dict (as := as) (bs := bs) ho hx.1 hd ?_ ?_, fun z => ?_⟩
    · rw [e1 _ _ (by rw [List.length_map]; exact hl)]
      have e3 : ∀ {l : List (Key × V)} {m : List (Key × Value)}, l.map (·.1) = m.map (·.1) → (l.map fun p => keyP p.1) = m.map fun p => keyP p.1 := fun {l m} e => by
        have := congrArg (List.map keyP) e
        rw [List.map_map, List.map_map] at this
        exact this
      rw [e3 rk]
      exact ra
    · rw [e2 _ _ (by rw [List.length_map]; exact hl), pairs_vals hp]
      exact rb
    · rw [List.mem_append, List.mem_cons] at z
      rcases z with (z | z) | z
      · subst z
        exact absurd hne (by simp)
      · exact na z
      · exact nb z
theorem Dqs.reads (I : Inv X pins t H s) (hS : SysD X.K) : ∀ {vs : List V} {ds : List PyData}, Dqs X.K H vs ds → ∀ {us : List Value}, Vals vs us → ∃ as, ReadsAll s.heap us ds as ∧ sysModules ∉ as
  | _, _, .nil, _, r => by
    cases r
    exact ⟨_, .nil, by simp⟩
  | _, _, .cons h1 h2, _, r => by
    cases r with
    | cons r1 r2 =>
      obtain ⟨as, q1, n1⟩ := Dq.reads I hS h1 r1
      obtain ⟨bs, q2, n2⟩ := Dqs.reads I hS h2 r2
      exact ⟨_, .cons q1 q2, fun z => (List.mem_append.mp z).elim n1 n2⟩
end
end
/-! ### on data -/
mutual
def rdP (s : Sto) : Nat → D → Option PyData
  | 0, _ => none
  | n + 1, d => match d with
    | .non => some .none
    | .bl b => some (.bool b)
    | .int i => some (.int i)
    | .str z => some (.str z)
    | .tup l => (rdPs s n l).map .tuple
    | .lst l => (rdPs s n l).map .list
    | .rol l => (rdPs s n l).map .list
    | .dct m => (rdPs s n (m.map (·.2))).map fun ps => .dict ((m.map fun p => keyP p.1).zip ps)
    | .cel k => (match s[k]? with
      | some (some (.lst l)) => (rdPs s n l).map .list
      | some (some (.dct m)) => (rdPs s n (m.map (·.2))).map fun ps => .dict ((m.map fun p => keyP p.1).zip ps)
      | some (some (.rod m)) => (rdPs s n (m.map (·.2))).map fun ps => .dict ((m.map fun p => keyP p.1).zip ps)
      | _ => none)
    | _ => none
def rdPs (s : Sto) : Nat → List D → Option (List PyData)
  | 0, _ => none
  | _ + 1, [] => some []
  | n + 1, d :: l => (rdP s n d).bind fun p => (rdPs s n l).map fun ps => p :: ps
end
section
variable {K : Frag} {w : Wd} {s : Sto}
theorem KVR.keyP {l : List (Key × V)} {m : List (Key × D)} (h : KVR K w l m) : (l.map fun p => Mp.keyP p.1) = m.map fun p => Mp.keyP p.1 := by
  have := congrArg (List.map Mp.keyP) h.keys
  rw [List.map_map, List.map_map] at this
  exact this
mutual
theorem rdP_ok (st : StR K w s) : ∀ {n : Nat} {d : D} {v : V} {p : PyData}, Rep K w v d → rdP s n d = some p → Dq K w.H v p
  | 0, _, _, _, _, e => by
    rw [rdP] at e
    cases e
  | n + 1, d, v, p, r, e => by
    cases d with
    | non =>
      simp only [rdP] at e
      cases r
      cases e
      exact .non
    | bl b =>
      simp only [rdP] at e
      cases r
      cases e
      exact .bl b
    | int i =>
      simp only [rdP] at e
      cases r
      cases e
      exact .int i
    | str z =>
      simp only [rdP] at e
      cases r
      cases e
      exact .str z
    | tup l =>
      simp only [rdP] at e
      cases r with
      | tup h1 rs =>
        obtain ⟨ps, e1, rfl⟩ := Option.map_eq_some_iff.mp e
        exact .tup h1.sq (rdPs_ok st rs e1)
    | lst l =>
      simp only [rdP] at e
      cases r with
      | lst z h1 rs =>
        obtain ⟨ps, e1, rfl⟩ := Option.map_eq_some_iff.mp e
        exact .lst (SqL.of h1) (rdPs_ok st rs e1)
    | rol l =>
      simp only [rdP] at e
      cases r with
      | rol h1 rs =>
        obtain ⟨ps, e1, rfl⟩ := Option.map_eq_some_iff.mp e
        exact .lst h1.sq (rdPs_ok st rs e1)
    | dct m =>
      simp only [rdP] at e
      obtain ⟨a, o, l, rfl, _, h1, h2⟩ := r.dct_inv
      obtain ⟨ps, e1, rfl⟩ := Option.map_eq_some_iff.mp e
      rw [← h2.keyP]
      exact .dic (.inr ⟨o, h1⟩) (rdPs_ok st h2.vals e1)
    | cel k =>
      simp only [rdP] at e
      cases r with
      | cel ha =>
        cases hk : s[k]? with
        | none => rw [hk] at e; cases e
        | some oc =>
          rw [hk] at e
          cases oc with
          | none => cases e
          | some c =>
            obtain ⟨a1, h1, _, h3⟩ := st.at_ k c hk
            have ea := Option.some.inj (h1.symm.trans ha)
            subst ea
            cases c with
            | lst l =>
              obtain ⟨vs, hh, rs⟩ := h3
              obtain ⟨ps, e1, rfl⟩ := Option.map_eq_some_iff.mp e
              exact .lst (SqL.of hh) (rdPs_ok st rs e1)
            | dct m =>
              obtain ⟨l, hh, rs⟩ := h3
              obtain ⟨ps, e1, rfl⟩ := Option.map_eq_some_iff.mp e
              rw [← rs.keyP]
              exact .dic (.inl hh) (rdPs_ok st rs.vals e1)
            | rod m =>
              obtain ⟨o, l, _, hh, rs⟩ := h3
              obtain ⟨ps, e1, rfl⟩ := Option.map_eq_some_iff.mp e
              rw [← rs.keyP]
              exact .dic (.inr ⟨o, hh⟩) (rdPs_ok st rs.vals e1)
            | ins C fs => cases e
            | tab x => cases e
            | dtt m => cases e
    | clo _ _ _ _ _ => simp [rdP] at e
    | kot _ => simp [rdP] at e
    | lam _ _ _ => simp [rdP] at e
    | ty _ => simp [rdP] at e
    | glo _ => simp [rdP] at e
    | ins _ _ => simp [rdP] at e
    | exn _ _ _ _ => simp [rdP] at e
theorem rdPs_ok (st : StR K w s) : ∀ {n : Nat} {ds : List D} {vs : List V} {ps : List PyData}, Reps K w vs ds → rdPs s n ds = some ps → Dqs K w.H vs ps
  | 0, _, _, _, _, e => by
    rw [rdPs] at e
    cases e
  | n + 1, [], _, _, r, e => by
    rw [rdPs] at e
    cases r
    cases e
    exact .nil
  | n + 1, d :: l, _, _, r, e => by
    rw [rdPs] at e
    cases r with
    | cons r1 r2 =>
      obtain ⟨p, e1, e2⟩ := Option.bind_eq_some_iff.mp e
      obtain ⟨ps, e3, rfl⟩ := Option.map_eq_some_iff.mp e2
      exact .cons (rdP_ok st r1 e1) (rdPs_ok st r2 e3)
end
end
def reprX (ds : List D) (s : Sto) : Res D := match ds with
  | [x] => (match rdP s 99 x with
    | some p => if p.showable = true ∧ p.depth < 60 ∧ p.shown.length ≤ sizeLine then .ok (.str p.shown) s else .bad
    | none => .bad)
  | _ => .bad
def rReprX (K : Frag) : List V → Hp → VK → Prop := fun xs H Q => ∃ v d, xs = [v] ∧ Dq K H v d ∧ d.showable = true ∧ d.depth < 60 ∧ d.shown.length ≤ sizeLine ∧ Q (.str d.shown) H
section
variable {X : Cx} {W : WX}
theorem call_reprX (hS : SysD X.K) (hg : X.A.guards = some []) (hu : X.A.units + 64 < cLine) : CallR X (.builtin "repr") (rReprX X.K) := by
  intro pins s t H xs us Q I r h
  obtain ⟨v, d, rfl, dp, h1, h3, h4, q⟩ := h
  obtain ⟨u, rfl, ru⟩ := vals1 r
  obtain ⟨as, rd, nas⟩ := Dq.reads I hS dp ru
  have fin : ∀ (h' : Heap) (tk : Nat) (tq : Tok), (∀ b o, s.heap.get? b = some o → h'.get? b = some o) → EP X pins t Q (.str d.shown tq) { s with heap := h', toks := tk } := fun h' tk tq k => ⟨.str d.shown, H, I.kept k, ⟨_, rfl⟩, q⟩
  cases u with
  | ref p => exact repr_of_reads' rd h1 (fun _ => nas) hg (by omega) (fun _ _ e => e) (fun h' tq tk k => fin h' tk tq k) h4
  | none =>
    cases rd
    exact PySem.P.repr_of_none (fin s.heap _ _ fun _ _ e => e)
  | bool k =>
    cases rd
    have e : (PyData.bool k).shown = if k = true then Str.ofString "True" else Str.ofString "False" := by
      simp only [PyData.shown]
    rw [e] at fin
    exact PySem.P.repr_of_bool (fin s.heap _ _ fun _ _ e => e)
  | int i tk =>
    cases rd
    have e : (PyData.int i).shown = toString i := by
      simp only [PyData.shown]
    rw [e] at fin
    exact PySem.P.repr_of_int (by simpa [PyData.showable] using h1) (fin s.heap _ _ fun _ _ e => e)
  | str z tk =>
    cases rd
    have e : (PyData.str z).shown = reprText z := by
      simp only [PyData.shown]
    rw [e] at fin h4
    exact PySem.P.repr_of_str (fin s.heap _ _ fun _ _ e => e) h4
  | _ => nomatch rd
theorem v_reprX : VRC X.K (rReprX X.K) reprX := fun w s xs ds Q E st rs hp => by
  unfold reprX at hp
  cases rs with
  | nil => exact hp.elim
  | @cons v d vs ds h1 rs =>
    cases rs with
    | cons _ _ => exact hp.elim
    | nil =>
      dsimp only at hp
      cases e : rdP s 99 d with
      | none => rw [e] at hp; exact hp.elim
      | some p =>
        rw [e] at hp
        dsimp only at hp
        split at hp
        · rename_i hc
          exact ⟨v, p, rfl, rdP_ok st h1 e, hc.1, hc.2.1, hc.2.2, hp.pure st (.str _)⟩
        · exact hp.elim
/-- {} : a new cell -/
def disp0M : DE := fun _ s => .ok (.cel s.length) (s ++ [some (.dct [])])
theorem e_disp0 {pos : Pos} : PE X (.Dict [] [] pos) (tE X.K W disp0M) := PE.imp pe_dnewK fun t H Q h => by
  obtain ⟨r, s, w, rfl, env, st, hp⟩ := h
  intro p np
  have e := Wd.cell_ext st (o := .dK []) np
  exact hp (.ref p) (w.cell s.length p (.dK [])) e (Wd.cell_st st np ⟨[], upd_same, .nil⟩) (.cel (if_pos rfl))
end
abbrev ckSys : Frag → Bool := fun K => match K.lookup sysModules with
  | some o => decide (o.cls = .type "dict")
  | none => false
theorem Fx.sys {P : Program} {fb : List (Frag → Bool)} {fn : List DefM} {K : Frag} {mg : Str → Option Value} (Z : Fx P fb fn K mg) (i : Nat) (h : fb[i]? = some ckSys) : SysD K := by
  have f := Z.fact i h
  dsimp only [ckSys] at f
  cases e : K.lookup sysModules with
  | none => rw [e] at f; cases f
  | some o =>
    rw [e] at f
    exact ⟨o, e, of_decide_eq_true f⟩
end Mp
set_option Elab.async false
set_option linter.all false
set_option maxRecDepth 100000
set_option maxHeartbeats 4000000
/-! Mp: methods of lists and texts. -/
namespace Mp
open PySem PySem.Spec PyProof.Rows L2
def isLstD (s : Sto) (x : D) : Bool := (lstOf s x).isSome
/-- o.m(..), o of a built-in type -/
def bmD (ty : Sto → D → Bool) (f : D → List D → Sto → Res D) (o : DE) (a : DM (List D)) : DE := bindM o fun x => fun r s => if ty s x = true then bindM a (fun ds => fun _ s => f x ds s) r s else .bad
def TyOk (K : Frag) (T : String) (ty : Sto → D → Bool) : Prop := ∀ w s x d, StR K w s → Rep K w x d → ty s d = true → tyV K T x w.H
def VRM (K : Frag) (r : V → List V → Hp → VK → Prop) (f : D → List D → Sto → Res D) : Prop := ∀ w s x xs d ds Q E, StR K w s → Rep K w x d → Reps K w xs ds → Post K (Rep K) w E Q (f d ds s) → r x xs w.H Q
theorem ty_lst {K : Frag} : TyOk K "list" isLstD := fun w s x d st r h => by
  unfold isLstD at h
  cases e : lstOf s d with
  | none => rw [e] at h; cases h
  | some l =>
    obtain ⟨p, vs, rfl, hs, _⟩ := lstOf_ok st r e
    exact .inl ⟨rfl, vs, hs⟩
section
variable {X : Cx} {W : WX} {o e : Expr} {es : List Expr} {apos cpos : Pos} {mo : DE} {ma : DM (List D)} {T id : String} {name : Str} {r : V → List V → Hp → VK → Prop} {ty : Sto → D → Bool} {f : D → List D → Sto → Res D}
theorem e_bm (pa : PlainAttrs T) (slot : Slot T name id) (hty : typeOf (.builtin id) = pure (.type "method_descriptor")) (hm : MtR X id r) (hT : TyOk X.K T ty) (hv : VRM X.K r f) (ho : PE X o (tE X.K W mo)) (ha : PA X (e :: es) (tA X.K W ma))
    (hbase : attributeBase o name X.env (eval o X.env) = eval o X.env := by rfl)
    (hfew : ((backTo cpos (starEach (e :: es) X.env)).all (fun x => !x.1) && (backToKw cpos (keywordEach [] X.env)).all (fun x => x.1.isSome)
      && decide ((e :: es).length + ([] : List Keyword).length + (if ([] : List Keyword).isEmpty then 0 else 1) < 30)) = true := by rfl)
    (hline : (apos.endLine == cpos.line) = true := by rfl) (hs : starEach (e :: es) X.env = (false, eval e X.env) :: starEach es X.env := by rfl) (hplain : (backTo cpos (starEach es X.env)).any (·.1) = false := by rfl) :
    PE X (.Call (.Attribute o name apos) (e :: es) [] cpos) (tE X.K W (bmD ty f mo ma)) := PE.imp (pe_bm pa slot hty hm ho ha hbase hfew hline hs hplain) fun t H Q h => by
  obtain ⟨r, s, w, rfl, env, st, hp⟩ := h
  exact hp.bind env st fun x d s1 w1 e1 st1 r1 hp1 => by
    by_cases hk : ty s1 d = true
    · rw [if_pos hk] at hp1
      exact ⟨hT w1 s1 x d st1 r1 hk, hp1.bind (env.ext e1) st1 fun xs ds s2 w2 e2 st2 r2 hp2 => hv w2 s2 x xs d ds Q _ st2 (r1.ext e2) r2 hp2⟩
    · rw [if_neg hk] at hp1
      exact hp1.elim
end
/-! ### lists -/
theorem Reps.one {K : Frag} {w : Wd} {xs : List V} {d : D} (h : Reps K w xs [d]) : ∃ x, xs = [x] ∧ Rep K w x d := by
  cases h with
  | cons q r => cases r; exact ⟨_, rfl, q⟩
theorem cel_lst {K : Frag} {w : Wd} {s : Sto} {x : V} {n : Nat} {l : List D} (st : StR K w s) (r : Rep K w x (.cel n)) (h : s[n]? = some (some (.lst l))) : ∃ a vs, x = .ref a ∧ w.A n = some a ∧ ¬ w.Z a ∧ ¬ w.P a ∧ w.H a = some (.lst vs) ∧ Reps K w vs l := by
  cases r with
  | @cel n a0 hA =>
    obtain ⟨a1, h1, hz, hc⟩ := st.at_ n _ h
    have ea : a1 = a0 := Option.some.inj (h1.symm.trans hA)
    subst ea
    obtain ⟨vs, hh, rs⟩ := hc
    exact ⟨a1, vs, rfl, h1, hz, st.np n _ a1 h h1, hh, rs⟩
/-- a list in a cell is changed, something is told -/
theorem cel_set {K : Frag} {w : Wd} {s : Sto} {n : Nat} {l l2 : List D} {a : Addr} {vs2 : List V} {v : V} {d : D} {Q : VK} {E : XK} (st : StR K w s) (h : s[n]? = some (some (.lst l))) (hA : w.A n = some a) (hz : ¬ w.Z a) (hP : ¬ w.P a) (rs : Reps K w vs2 l2) (rv : Rep K w v d)
    (hp : Post K (Rep K) w E Q (.ok d (s.set n (some (.lst l2))))) : Q v (upd w.H a (.lst vs2)) := by
  have e3 : Ext w (w.put a (.lst vs2)) := Wd.mut_ext hz hP
  exact hp v (w.put a (.lst vs2)) e3 (Wd.mut_st st h hA hz ⟨_, upd_same, rs.ext e3⟩) (rv.ext e3)
theorem v_app {K : Frag} : VRM K rAppend appD := fun w s x xs d ds Q E st r rs hp => by
  unfold appD at hp
  split at hp
  · split at hp
    · split at hp
      · split at hp
        · rename_i _ n _ l h _ d2 hl
          obtain ⟨a, vs, rfl, hA, hz, hP, hh, rv⟩ := cel_lst st r h
          obtain ⟨y, rfl, ry⟩ := rs.one
          exact ⟨a, vs, y, rfl, rfl, hh, by rw [rv.length]; exact hl, cel_set st h hA hz hP (rv.append (.cons ry .nil)) .non hp⟩
        · exact hp.elim
      · exact hp.elim
    · exact hp.elim
  · exact hp.elim
/-! ### texts -/
end Mp
set_option Elab.async false
set_option linter.all false
set_option maxRecDepth 100000
set_option maxHeartbeats 4000000
/-! Mp: dict comprehensions. -/
namespace Mp
open PySem PySem.Spec PyProof.Rows L2
section
end
end Mp
set_option Elab.async false
set_option linter.all false
set_option maxRecDepth 100000
set_option maxHeartbeats 4000000
/-! Mp: sorted, dict(..). -/
namespace Mp
open PySem PySem.Spec PyProof.Rows L2
section
end
end Mp
set_option Elab.async false
set_option linter.all false
set_option maxRecDepth 100000
set_option maxHeartbeats 1000000
/-! Mp: zip(*rows), rows a tuple of tuples of one length: at the library's level. -/
namespace ZN
open PySem RZ
open PySem.Sem (wp)
/-- iterators it, it + 1, .. over the tuples ls (below B), all at place k, with the items xs there -/
def Ready (h : Heap) (B k : Nat) : Nat → List Addr → List Value → Prop
  | _, [], xs => xs = []
  | it, l :: ls, xs => ∃ x xs', xs = x :: xs' ∧ h.IsTupleIter it l k ∧ @LT.lt Nat _ l B ∧ (∃ items, h.IsTuple l items ∧ items[k]? = some x) ∧ Ready h B k (it + 1) ls xs'
def After (h : Heap) (k : Nat) : Nat → List Addr → Prop
  | _, [] => True
  | it, l :: ls => h.IsTupleIter it l k ∧ After h k (it + 1) ls
theorem Ready.stay {B k : Nat} {h h' : Heap} : ∀ {ls : List Addr} {it : Nat} {xs : List Value}, (∀ (c : Nat) (o : Obj), (c < B ∨ it ≤ c ∧ c < it + ls.length) → h.get? c = some o → h'.get? c = some o) → Ready h B k it ls xs → Ready h' B k it ls xs
  | [], _, _, _, r => r
  | l :: ls, it, xs, k1, ⟨x, xs', e, h1, h2, ⟨items, ⟨o, ho, hr⟩, hx⟩, h4⟩ => ⟨x, xs', e, h1.at fun o q => k1 it o (.inr ⟨Nat.le_refl _, by simp⟩) q, h2, ⟨items, ⟨o, k1 l o (.inl h2) ho, hr⟩, hx⟩,
      Ready.stay (fun (c : Nat) (o : Obj) hc q => k1 c o (hc.imp id fun z => ⟨by omega, by simp only [List.length_cons]; omega⟩) q) h4⟩
theorem After.stay {k : Nat} {h h' : Heap} : ∀ {ls : List Addr} {it : Nat}, (∀ (c : Nat) (o : Obj), it ≤ c ∧ c < it + ls.length → h.get? c = some o → h'.get? c = some o) → After h k it ls → After h' k it ls
  | [], _, _, _ => trivial
  | l :: ls, it, k1, ⟨h1, h4⟩ => ⟨h1.at fun o q => k1 it o ⟨Nat.le_refl _, by simp⟩ q, After.stay (fun (c : Nat) (o : Obj) hc q => k1 c o ⟨by omega, by simp only [List.length_cons]; omega⟩ q) h4⟩
theorem After.get {k : Nat} {h : Heap} : ∀ {ls : List Addr} {it : Nat} {c : Nat}, After h k it ls → it ≤ c → c < it + ls.length → ∃ l, h.IsTupleIter c l k
  | [], it, c, _, h1, h2 => by simp at h2; omega
  | l :: ls, it, c, a, h1, h2 => by
    by_cases e : c = it
    · subst e; exact ⟨l, a.1⟩
    · exact a.2.get (by omega) (by simp only [List.length_cons] at h2; omega)
theorem Ready.after {B k : Nat} {h : Heap} : ∀ {ls : List Addr} {it : Nat} {xs : List Value}, Ready h B k it ls xs → After h k it ls
  | [], _, _, _ => trivial
  | _ :: _, _, _, ⟨_, _, _, h1, _, _, h4⟩ => ⟨h1, h4.after⟩
theorem Ready.length {B k : Nat} {h : Heap} : ∀ {ls : List Addr} {it : Nat} {xs : List Value}, Ready h B k it ls xs → xs.length = ls.length
  | [], _, _, r => by rw [show _ = [] from r]; rfl
  | _ :: _, _, _, ⟨_, _, e, _, _, _, h4⟩ => by rw [e, List.length_cons, List.length_cons, h4.length]
section
end
/-- the zip object: what it handed out last, whether it was held -/
def IsZ (h : Heap) (z TI TO : Nat) : Prop := ∃ (g0 : Value) (b : Bool), (g0 = .none ∨ ∃ T : Nat, g0 = rawInt T) ∧ h.get? z = some { cls := .type "zip", dict := none, data := .fields #[g0, .bool b, .bool false, .ref TI, .ref TO], slots := #[] }
theorem IsZ.at {h h' : Heap} {z TI TO : Nat} (x : IsZ h z TI TO) (e : ∀ o, h.get? z = some o → h'.get? z = some o) : IsZ h' z TI TO := let ⟨g, b, q, r⟩ := x; ⟨g, b, q, e _ r⟩
section
end
section
end
section
end
end ZN
set_option Elab.async false
set_option linter.all false
set_option maxRecDepth 100000
set_option maxHeartbeats 4000000
/-! Mp: zip(*rows). -/
namespace Mp
open PySem PySem.Spec PyProof.Rows L2
def colV (i : Nat) : List (List V) → Option (List V)
  | [] => some []
  | r :: rs => (match r[i]?, colV i rs with
    | some x, some xs => some (x :: xs)
    | _, _ => none)
/-! ### on data -/
inductive RowR (K : Frag) (w : Wd) : List Addr → List (List V) → List (List D) → Prop
  | nil : RowR K w [] [] []
  | cons {a : Addr} {vs : List V} {ds : List D} {as : List Addr} {vss : List (List V)} {dss : List (List D)} : TAt K w a vs → Reps K w vs ds → RowR K w as vss dss → RowR K w (a :: as) (vs :: vss) (ds :: dss)
theorem RowR.ext {K : Frag} {w w' : Wd} (e : Ext w w') : ∀ {ls : List Addr} {vss : List (List V)} {dss : List (List D)}, RowR K w ls vss dss → RowR K w' ls vss dss
  | _, _, _, .nil => .nil
  | _, _, _, .cons h r t => .cons (h.ext e) (r.ext e) (t.ext e)
theorem RowR.col {K : Frag} {w : Wd} {i : Nat} : ∀ {ls : List Addr} {vss : List (List V)} {dss : List (List D)}, RowR K w ls vss dss → (∀ r ∈ dss, i < r.length) → ∃ xs, colV i vss = some xs ∧ Reps K w xs (dss.map fun r => r.getD i .non)
  | _, _, _, .nil, _ => ⟨[], rfl, .nil⟩
  | _, _, _, .cons (vs := vs) (ds := ds) h r t, hi => by
    obtain ⟨xs, e, q⟩ := t.col fun r hr => hi r (List.mem_cons_of_mem _ hr)
    have hlt := hi ds List.mem_cons_self
    have hd : ds[i]? = some (ds.getD i .non) := by rw [List.getElem?_eq_getElem hlt, List.getD_eq_getElem?_getD, List.getElem?_eq_getElem hlt]; rfl
    obtain ⟨v, hv, rv⟩ := r.get hd
    refine ⟨v :: xs, ?_, .cons rv q⟩
    unfold colV
    rw [hv, e]
section
end
end Mp
set_option Elab.async false
set_option linter.all false
set_option maxRecDepth 100000
set_option maxHeartbeats 4000000
/-! Mp: isinstance of a tuple of classes, len of dicts, list(range(n)). -/
namespace Mp
open PySem PySem.Spec PyProof.Rows L2
section
end
section
/-! ### len -/
end
/-! ### list(range(n)) -/
section
end
end Mp
set_option Elab.async false
set_option linter.all false
set_option maxRecDepth 100000
set_option maxHeartbeats 4000000
/-! Mp: lambdas without parameters, handed to a def. -/
namespace Mp
open PySem PySem.Spec PyProof.Rows L2
/-! ### a frame as data -/
theorem repE_of {K : Frag} {w : Wd} : ∀ {r : En} {t : L2.St}, EnvR K w r t → RepE K w t r
  | [], [], _ => .nil
  | [], _ :: _, h => by cases h.1
  | _ :: _, [], h => by cases h.1
  | x :: r, y :: t, h => by
    have tl : EnvR K w r t := ⟨by simpa using h.1, fun i d q => h.2 (i + 1) d (by simpa using q)⟩
    cases x with
    | none => exact .non (repE_of tl)
    | some d =>
      obtain ⟨v, e, rv⟩ := h.2 0 d rfl
      have e : y = some v := by simpa using e
      subst e
      exact .som rv (repE_of tl)
theorem envR_of {K : Frag} {w : Wd} : ∀ {r : En} {t : L2.St}, RepE K w t r → EnvR K w r t
  | _, _, .nil => ⟨rfl, fun i d q => by simp at q⟩
  | _, _, .non h => by
    obtain ⟨h1, h2⟩ := envR_of h
    refine ⟨by simp [h1], fun i d q => ?_⟩
    cases i with
    | zero => cases q
    | succ i => exact h2 i d (by simpa using q)
  | _, _, .som rv h => by
    obtain ⟨h1, h2⟩ := envR_of h
    refine ⟨by simp [h1], fun i d q => ?_⟩
    cases i with
    | zero =>
      have q : some (some _) = some (some d) := q
      cases q
      exact ⟨_, rfl, rv⟩
    | succ i => exact h2 i d (by simpa using q)
/-! ### mirrors -/
/-- the call of what was handed over: only of the very one -/
noncomputable def thM (f c : Addr) (q : Str) (t : L2.St) (r0 : En) (te : DE) : DE := fun r s => by
  classical
  exact if r[0]? = some (some (D.clo f c q t r0)) then te r0 s else .bad
def resF : Fl → Res D
  | .nx _ s' => .ok .non s'
  | .rt d s' => .ok d s'
  | _ => .bad
/-- g(lambda: e), g's text b, the table of the def around in cell i -/
noncomputable def lamM (i : Nat) (x : Str) (n : Nat) (b : DE → DS) (te : DE) : DE := fun r s => by
  classical
  exact if s[i]? = some (some (.tab x)) then if h : ∃ R : Res D, ∀ (f c : Addr) (t : L2.St), resF (b (thM f c (lamQ x) t r te) (some (.clo f c (lamQ x) t r) :: List.replicate n none) s) = R then h.choose else .bad else .bad
theorem lamM_eq {i n : Nat} {b : DE → DS} {te : DE} {r : En} {s : Sto} {x : Str} {R : Res D} (h : s[i]? = some (some (.tab x))) (hR : ∀ (f c : Addr) (t : L2.St), resF (b (thM f c (lamQ x) t r te) (some (.clo f c (lamQ x) t r) :: List.replicate n none) s) = R) : lamM i x n b te r s = R := by
  unfold lamM
  rw [if_pos h]
  have hx : ∃ R : Res D, ∀ (f c : Addr) (t : L2.St), resF (b (thM f c (lamQ x) t r te) (some (.clo f c (lamQ x) t r) :: List.replicate n none) s) = R := ⟨R, hR⟩
  rw [dif_pos hx]
  exact (hx.choose_spec 0 0 []).symm.trans (hR 0 0 [])
/-! ### the lambda is made -/
/-- the heap behind: as it was, or with a new code object, told in the table -/
def LamStep (H : Hp) (P : Addr) (q : Str) (ps : Array Value) (pos : Pos) (c : Addr) (H1 : Hp) : Prop :=
  (H1 = H ∧ codeAmong pos ps.toList = some (.ref c)) ∨ (H c = none ∧ c ≠ P ∧ H1 = upd (upd H P (.tbl (ps ++ #[rawInt pos.line, rawInt pos.col, .ref c]))) c (LamX.CodeO c q))
abbrev lamO (X : Cx) (params : Arguments) (body : Expr) (scope : Scope) (pm : Value) (c : Addr) (ctv : Value) : Obj := PySem.W.kla_obj "<lambda>" (X.env.qual ++ "<lambda>") params body scope (cloFrom X.env.cells scope.names []) pm c ctv
section
variable {X : Cx} {pins : List (Addr × Obj)} {t : L2.St} {H : Hp} {s : Shared}
theorem lam_new {c P : Addr} {params : Arguments} {body : Expr} {scope : Scope} {pos : Pos} {ps : Array Value} {E : Value → Shared → Prop} {Q : Value → Shared → Prop} (I : Inv X pins t H s) (TB : LamX.TabB X.base X.mg c P) (hcode : X.env.code = .ref c)
    (hP : H P = some (.tbl ps)) (ht : TriplesOk ps.toList) (ha : ∀ (p : Pos) (cv : Value), codeAmong p ps.toList = some cv → ∃ c, cv = .ref c) (hdef : defaultsOf params X.env = ([], [])) (hfree : ∀ y ∈ scope.names, y.2 = .free → ∃ c, X.env.cells.lookup y.1 = some c)
    (h : ∀ (f c' : Addr) (pm ctv : Value) (H1 : Hp) (s' : Shared), Inv X pins t H1 s' → LamStep H P (X.env.qual ++ "<lambda>") ps pos c' H1 → s'.heap.get? f = some (lamO X params body scope pm c' ctv) → H1 f = none → f ∉ frs X.stack → Q (.ref f) s') :
    wpAny (model X.prog X.w) X.A (eval (.Lambda params body scope pos) X.env) Q E s := by
  have onP : s.heap.get? P = some { cls := .none, data := .fields ps } := I.hok P _ hP
  have young : ∀ f, s.heap.objs.size ≤ f → f ∉ frs X.stack := fun f hf z => by
    rcases List.mem_cons.mp (I.stkSub _ z) with e | e
    · have l1 := I.lt
      rw [← e] at l1
      exact absurd (Nat.lt_of_lt_of_le l1 hf) (Nat.lt_irrefl _)
    · exact I.nofs hf e
  have nsg := I.mod.glob.keeps I.bk
  have bP := TB.bm.keeps I.bk
  have cP := TB.code.keeps I.bk
  have cl := closure_ok (scope := scope) (env := X.env) hfree
  refine PySem.W.kla_eval hdef ?_
  cases hc : codeAmong pos ps.toList with
  | none =>
    refine PySem.W.kla_makeFunction (mg := X.mg) cl I.ok.glob nsg hcode cP onP ht hc TB.gP bP fun c' ctv h' tk hx hge hlt hrec htb => ?_
    obtain ⟨c2, oc, vs, u, e2, hoc, hd, hv⟩ := hrec
    cases e2
    have hsz : s.heap.objs.size ≤ h'.objs.size := Nat.le_trans hge (Nat.le_of_lt hlt)
    have nC : H c' = none := I.hok.fresh hge
    have nP : c' ≠ P := fun z => by
      rw [z, hP] at nC
      cases nC
    have J := LamX.inv_table (t' := tk) (more := #[rawInt pos.line, rawInt pos.col, .ref c']) (h' := h'.push (lamO X params body scope ((X.mg "__name__").getD .none) c' ctv)) I hP
      (fun b o hb e => Heap.get?_push_of_some _ (hx b o hb e)) (Heap.get?_push_of_some _ htb) hge ⟨oc, vs, u, Heap.get?_push_of_some _ hoc, hd, hv⟩
    refine h h'.objs.size c' _ ctv _ _ J (.inr ⟨nC, nP, rfl⟩) (Heap.get?_push_size _ rfl) ?_ (young _ hsz)
    have n2 : h'.objs.size ≠ P := Nat.ne_of_gt (Nat.lt_of_lt_of_le (Heap.lt_size onP) hsz)
    rw [upd_ne (Nat.ne_of_gt hlt), upd_ne n2]
    exact I.hok.fresh hsz
  | some cv =>
    obtain ⟨c', e⟩ := ha pos cv hc
    subst e
    refine PySem.W.kla_makeFunctionHit (mg := X.mg) cl I.ok.glob nsg hcode cP onP ht hc bP fun ctv h' tk hx hsz => ?_
    have J : Inv X pins t H { s with heap := h'.push (lamO X params body scope ((X.mg "__name__").getD .none) c' ctv), toks := tk } := I.kept fun b o e => Heap.get?_push_of_some _ (hx b o e)
    exact h h'.objs.size c' _ ctv H _ J (.inl ⟨rfl, hc⟩) (Heap.get?_push_size _ rfl) (I.hok.fresh hsz) (young _ hsz)
end
/-- .. in the world -/
theorem lam_world {K : Frag} {w : Wd} {so : Sto} {i : Nat} {x : Str} {P c : Addr} {ps : Array Value} {pos : Pos} {H1 : Hp} (st : StR K w so) (hi : so[i]? = some (some (.tab x))) (hA : w.A i = some P) (hz : ¬ w.Z P) (eP : P = tabA K x) (hP : w.H P = some (.tbl ps)) (ht : TriplesOk ps.toList)
    (ha : ∀ (p : Pos) (cv : Value), codeAmong p ps.toList = some cv → ∃ c, cv = .ref c ∧ w.Z c ∧ w.H c = some (LamX.CodeO c (lamQ x))) (h : LamStep w.H P (lamQ x) ps pos c H1) : ∃ w1 : Wd, w1.H = H1 ∧ Ext w w1 ∧ StR K w1 so ∧ w1.Z c ∧ w1.H c = some (LamX.CodeO c (lamQ x)) := by
  rcases h with ⟨rfl, hc⟩ | ⟨nC, nP, rfl⟩
  · obtain ⟨c2, e, z, hh⟩ := ha pos _ hc
    cases e
    exact ⟨w, rfl, Ext.refl w, st, z, hh⟩
  · let w1 : Wd := ⟨w.A, fun a => w.Z a ∨ a = c, w.P, upd (upd w.H P (.tbl (ps ++ #[rawInt pos.line, rawInt pos.col, .ref c]))) c (LamX.CodeO c (lamQ x))⟩
    have hne : ∀ b, w.H b ≠ none → b ≠ c := fun b hb z => hb (z ▸ nC)
    have keepB : ∀ b, b ≠ P → w.H b ≠ none → w1.H b = w.H b := fun b h1 h2 => by
      show upd (upd w.H P _) c _ b = _
      rw [upd_ne (hne b h2), upd_ne h1]
    have e : Ext w w1 := ⟨⟨fun _ _ h => h, fun _ h => .inl h, fun a z => keepB a (fun q => hz (q ▸ z)) (st.fz a z)⟩, fun _ h => h, fun a z => keepB a (fun q => st.np i _ P hi hA (q ▸ z)) (st.pz a z).2⟩
    have hPne : w.H P ≠ none := by rw [hP]; exact fun z => nomatch z
    refine ⟨w1, rfl, e, ⟨fun m ct q => ?_, st.np, fun a z => ⟨fun q => Or.elim q (st.pz a z).1 fun q2 => hne a (st.pz a z).2 q2, ?_⟩, st.inj, fun a z => ?_, st.new, st.ptk (fun _ h => h) e.HP⟩, .inr rfl, upd_same⟩
    · obtain ⟨a, k1, k2, k3⟩ := st.at_ m ct q
      obtain ⟨ob, ho, _⟩ := k3.some
      have hac : a ≠ c := hne a (by rw [ho]; exact fun z => nomatch z)
      have nz : NZ w1 a ct := k2.mono (w' := w1) fun (z : w.Z a ∨ a = c) => Or.elim z id fun q2 => absurd q2 hac
      by_cases hm : m = i
      · subst hm
        have e2 : a = P := Option.some.inj (k1.symm.trans hA)
        subst e2
        rw [hi] at q
        cases q
        refine ⟨a, k1, nz, eP, ps ++ #[rawInt pos.line, rawInt pos.col, .ref c], ?_, ?_, fun p cv hcv => ?_⟩
        · show upd (upd w.H a _) c _ a = _
          rw [upd_ne (Ne.symm nP), upd_same]
        · have eL : (ps ++ #[rawInt pos.line, rawInt pos.col, .ref c]).toList = ps.toList ++ [rawInt pos.line, rawInt pos.col, .ref c] := by simp
          rw [eL]
          exact PySem.TriplesOk_snoc _ _ _ _ ht
        · have eL : (ps ++ #[rawInt pos.line, rawInt pos.col, .ref c]).toList = ps.toList ++ [rawInt pos.line, rawInt pos.col, .ref c] := by simp
          rw [eL] at hcv
          rcases LamX.among_app _ ht hcv with z | z
          · obtain ⟨c0, q1, q2, q3⟩ := ha p cv z
            exact ⟨c0, q1, .inl q2, (e.H c0 q2).trans q3⟩
          · exact ⟨c, z, .inr rfl, upd_same⟩
      · have hap : a ≠ P := fun z => hm (st.inj m i P ct _ q hi (z ▸ k1) hA)
        exact ⟨a, k1, nz, k3.same e (keepB a hap (by rw [ho]; exact fun z => nomatch z))⟩
    · rw [keepB a (fun q => st.np i _ P hi hA (q ▸ z)) (st.pz a z).2]
      exact (st.pz a z).2
    · rcases z with z | z
      · rw [keepB a (fun q => hz (q ▸ z)) (st.fz a z)]
        exact st.fz a z
      · rw [z]
        show upd _ c _ c ≠ none
        rw [upd_same]
        exact fun z => nomatch z
/-! ### it is called -/
section
variable {X : Cx} {pins : List (Addr × Obj)} {t : L2.St} {H : Hp} {s : Shared}
abbrev gCx (X : Cx) (Ng : List Str) (qg : Str) (sg : Scope) (g : Addr) (cdg : Value) (s : Shared) (H : Hp) : Cx := cxOf C8.CX0 X.prog X.w X.K X.mg X.base Ng qg sg g cdg X.A X.stack s H C8.E0
theorem act_lam {Ng : List Str} {qg q : Str} {sg : Scope} {g f c : Addr} {cdg pm ctv : Value} {params : Arguments} {body : Expr} {scope : Scope} {k : Nat} {a : Str} {pn : List (Addr × Obj)} {xe : Value → Shared → Prop} {W : WX} {te : DE} {r0 : En} {p1 p2 : Pos}
    (I : Inv X pins t H s) (L : LamX.LamS X.env.scope scope) (eq : q = X.env.qual ++ "<lambda>") (hf : s.heap.get? f = some (lamO X params body scope pm c ctv)) (hfn : H f = none) (hfr : f ∉ frs X.stack)
    (hbind : bindArgs (PySem.W.kla_fn "<lambda>" (X.env.qual ++ "<lambda>") params body scope (cloFrom X.env.cells scope.names []) pm (.ref c) ctv) ⟨[], []⟩ = pure [])
    (tk : Takes ((gCx X Ng qg sg g cdg s H).tr pn xe) W) (hr : Rm (k + 1) (X.A.deeper (envOfC qg sg s.heap.objs.size g cdg)))
    (hbody : ∀ (A : Around) (outer : List Env) (s : Shared) (H : Hp) (E : XK), Rm k (A.deeper (LamX.lamEnv X scope s.heap.objs.size f c)) → PE (LamX.lamCx X A outer s H E scope f c) body (tE X.K (fun cl d _ H' => E cl d H') te))
    (hN : Ng[0]? = some a) (hv : Vis sg a) (hd : (a == ("__debug__" : Str)) = false) (hcd : (a == ("__classdict__" : Str)) = false) :
    PE ((gCx X Ng qg sg g cdg s H).tr pn xe) (.Call (.Name a p1) [] [] p2) (tE X.K W (thM f c q t r0 te)) := by
  classical
  refine ⟨fun pinsZ sZ tz HZ Q IZ h => ?_⟩
  obtain ⟨rz, so, w, rfl, envz, st, hp⟩ := h
  by_cases hz : rz[0]? = some (some (D.clo f c q t r0))
  rotate_left
  · have e : thM f c q t r0 te rz so = .bad := by
      unfold thM
      rw [if_neg hz]
    rw [e] at hp
    exact hp.elim
  have e : thM f c q t r0 te rz so = te r0 so := by
    unfold thM
    rw [if_pos hz]
  rw [e] at hp
  obtain ⟨v0, hs, rv⟩ := envz.2 0 _ hz
  cases rv with
  | clo zc hc re =>
    have env0 := envR_of re
    refine wpAny_Call_Name_kw (thn ((pe_var (pos := p1) (i := 0) hN hv hd hcd).run pinsZ sZ tz w.H (fun v H1 => v = .ref f ∧ H1 = w.H) IZ ⟨.ref f, hs, rfl, rfl⟩) fun u s1 z => ?_)
    obtain ⟨v, H1, I1, r1, rfl, eH⟩ := z
    rw [eH] at I1
    obtain rfl : u = Value.ref f := r1
    have at1 : s1.heap.get? f = some (lamO X params body scope pm c ctv) := I1.base.keep f _ hf hfn hfr fun z => nomatch (show f ∈ ([] : List Addr) from z)
    refine PySem.W.callWith_F0 ⟨_, _, _, _, at1⟩ ?_
    have un : Un (frs X.stack) [] H w.H s.heap s1.heap := I1.base
    have hcq : w.H c = some (LamX.CodeO c (X.env.qual ++ "<lambda>")) := eq ▸ hc
    obtain ⟨⟨oc, vs, u2, hoc, hdc, hvc⟩, _, _⟩ := I1.hok c _ hcq
    have rc : codeAny (model X.prog X.w) (X.A.deeper (envOfC qg sg s.heap.objs.size g cdg)) (.call (.ref f) ⟨[], []⟩) (CR (L2.CX X.prog X.w) (envOfC qg sg s.heap.objs.size g cdg :: X.stack) X.prog X.w w.H s1 Q (WE W tz)) s1 := by
      refine PySem.W.kla_callFunE hr.rm.depth at1 rfl L.co L.gen rfl ⟨c, oc, vs, u2, rfl, hoc, hdc, hvc⟩ ?_
      rw [hbind]
      refine wpAny_pure ?_
      refine wpAny_newFunctionEnv (fun y m => (L.own y m).2) (fun y m => absurd m (by simp)) ?_ L.kind
      intro h₁ hns hsb
      refine ⟨I1.nolimit.fresh _ hsb, ?_⟩
      show codeAny _ _ (.expr body (LamX.lamEnv X scope s1.heap.objs.size f c)) _ _
      have kp : ∀ (b : Addr) (o : Obj), s1.heap.get? b = some o → h₁.get? b = some o := by
        intro b o e
        exact hsb.extBut b o (Nat.ne_of_lt (Heap.lt_size e)) (Heap.get?_push_of_some _ e)
      have J := LamX.lam_start2 (E := WE W tz) (f := f) (c' := c) (tk := s1.toks + ([] : List (Str × Value)).length) I L I1.env0 hr.rm.hd un hns kp
      refine PySem.W.kla_codeExpr (wpAny_mono ((hbody _ _ s1 w.H (WE W tz) (hr.deeper _)).run [] _ _ w.H Q J ⟨r0, so, w, rfl, env0, st, hp⟩) (fun v s' hq => ?_) fun e s' hq => hq)
      obtain ⟨v2, H2, J2, rv2, q2⟩ := hq
      exact ⟨v2, H2, J2.os, J2.bare, J2.base, J2.hok, rv2, q2⟩
    refine wpAny_call (codeAny_mono rc fun z s' hq => ?_)
    cases z with
    | error er => exact passAt tk tz pinsZ w.H s1 er s' I1 hq
    | ok fl =>
      cases fl with
      | ret u => exact I1.after hq
      | _ => exact hq.elim
/-- a def that gets a lambda: its text for any reading of the call -/
def LamD (P : Program) (w : World) (K : Frag) (mg : Str → Option Value) (base : Heap) (N : List Str) (x : Str) (sg : Scope) (g : Addr) (k : Nat) (bg : List Stmt) (a : Str) (b : DE → DS) : Prop :=
  ∀ (cdv : Value) (A : Around) (outer : List Env) (s : Shared) (H : Hp) (th : DE), Rm k (A.deeper (envOfC x sg s.heap.objs.size g cdv)) →
    (∀ (pn : List (Addr × Obj)) (xe : Value → Shared → Prop) (W : WX) (p1 p2 : Pos), Takes ((cxOf C8.CX0 P w K mg base N x sg g cdv A outer s H C8.E0).tr pn xe) W → PE ((cxOf C8.CX0 P w K mg base N x sg g cdv A outer s H C8.E0).tr pn xe) (.Call (.Name a p1) [] [] p2) (tE K W th)) →
    PSs (cxOf C8.CX0 P w K mg base N x sg g cdv A outer s H C8.E0).nox bg (tS K W0 (b th))
/-- g(lambda: body) -/
theorem e_lam {W : WX} {x y a : Str} {g : Addr} {k i : Nat} {pg : Arguments} {bg : List Stmt} {sg : Scope} {kws : List (Str × V)} {fd : FuncData} {Ng : List Str} {params : Arguments} {body : Expr} {scope : Scope} {te : DE} {b : DE → DS} {p lpos pos : Pos}
    (F : FunD X.K x x pg bg sg [] kws g fd) (hb : Binds X.K fd [a] []) (Sg : FnScope (a :: Ng) [a] sg) (hva : Vis sg a) (hG : LamD X.prog X.w X.K X.mg X.base (a :: Ng) x sg g (k + 1) bg a b) (hg : Gl X x) (hm : X.mg x = some (.ref g))
    (TB : LamX.TabB X.base X.mg (codeA X.K y) (tabA X.K y)) (hcode : X.env.code = .ref (codeA X.K y)) (hq : lamQ y = X.env.qual ++ "<lambda>") (hr : Rm (k + 2) X.A) (L : LamX.LamS X.env.scope scope) (hdef : defaultsOf params X.env = ([], []))
    (hbind : ∀ (q : Str) (cl : List (Str × Addr)) (pm cv ctv : Value), bindArgs (PySem.W.kla_fn "<lambda>" q params body scope cl pm cv ctv) ⟨[], []⟩ = pure [])
    (hbody : ∀ (f c : Addr) (A : Around) (outer : List Env) (s : Shared) (H : Hp) (E : XK), Rm k (A.deeper (LamX.lamEnv X scope s.heap.objs.size f c)) → PE (LamX.lamCx X A outer s H E scope f c) body (tE X.K (fun cl d _ H' => E cl d H') te))
    (hdb : (x == ("__debug__" : Str)) = false := by decide) (hd : (a == ("__debug__" : Str)) = false := by decide) (hcd : (a == ("__classdict__" : Str)) = false := by decide) :
    PE X (.Call (.Name x p) [.Lambda params body scope lpos] [] pos) (tE X.K W (lamM i y Ng.length b te)) := by
  classical
  refine ⟨fun pins s t H Q I h => ?_⟩
  obtain ⟨r, so, w, rfl, env, st, hp⟩ := h
  unfold lamM at hp
  split at hp
  rotate_left
  · exact hp.elim
  rename_i hi
  split at hp
  rotate_left
  · exact hp.elim
  rename_i hx
  have hR := hx.choose_spec
  generalize hx.choose = R at hp hR
  obtain ⟨P, hA, hz, eP, ps, hP, ht, ha⟩ := st.at_ i _ hi
  obtain ⟨oc, od, dV, kV, doc, pm0, an, cdv, ct, osl, rfl, lk, hcg, hD, hK⟩ := F.ex
  refine wpAny_Call_Name_kw (ld_glob I hg hm ?_ hdb)
  refine PySem.W.callWith_K (h₀ := X.base) I.ok.mod.kin F.kp ?_ (by rfl) (by rfl)
  show wpAny _ _ (spliced ((false, eval (.Lambda params body scope lpos) X.env) :: backTo pos (starEach [] X.env))) _ _ s
  refine Calls.spliced_cons (lam_new I (eP ▸ TB) hcode hP ht (fun q cv e => (ha q cv e).imp fun _ z => z.1) hdef (L.has I.ok) fun f c pm ctv H1 s' I1 ls hf hfn hfr => ?_)
  refine Calls.spliced_nil ⟨I1.kIn, ?_⟩
  rw [← hq] at ls
  obtain ⟨w1, rfl, e1, st1, zc, hc⟩ := lam_world st hi hA hz eP hP ht ha ls
  have rc : codeAny (model X.prog X.w) X.A (.call (.ref g) ⟨[.ref f], []⟩) (CR C8.CX0 X.stack X.prog X.w w1.H s' Q C8.E0) s' := by
    refine LamX.run_ofS (N := a :: Ng) (ps := [a]) (us := [.ref f]) (vs := [.ref f]) lk hcg Sg hr.rm I1.env0 (hb s' [.ref f] I1.kIn rfl) (.cons rfl .nil) rfl fun hr' => ?_
    have hr2 : Rm (k + 1) (X.A.deeper (envOfC x sg s'.heap.objs.size g cdv)) := ⟨hr', hr.gd⟩
    refine ⟨_, (hG cdv X.A X.stack s' w1.H (thM f c (lamQ y) t r te) hr2 fun pn xe W' p1 p2 tk => act_lam I1 L hq hf hfn hfr (hbind _ _ _ _ _) tk hr2 (fun A outer s2 H2 E2 hr3 => hbody f c A outer s2 H2 E2 hr3) rfl hva hd hcd).nox, ?_⟩
    have hrun := hR f c t
    refine ⟨some (.clo f c (lamQ y) t r) :: List.replicate Ng.length none, so, w1, rfl, ?_, st1, ?_⟩
    · exact env_start (n := Ng.length + 1) (.cons (.clo zc hc (repE_of (env.ext e1))) .nil)
    · cases e : b (thM f c (lamQ y) t r te) (some (.clo f c (lamQ y) t r) :: List.replicate Ng.length none) so with
      | nx r' s2 =>
        rw [e] at hrun
        rw [← show Res.ok D.non s2 = R from hrun] at hp
        exact fun t' w' e' _ st' => hp .non w' (e1.trans e') st' .non
      | rt d s2 =>
        rw [e] at hrun
        rw [← show Res.ok d s2 = R from hrun] at hp
        exact fun v w' e' st' rv => hp v w' (e1.trans e') st' rv
      | _ =>
        rw [e] at hrun
        rw [← show Res.bad = R from hrun] at hp
        exact hp.elim
  refine wpAny_call (codeAny_mono rc fun z s2 hz2 => ?_)
  cases z with
  | error er => exact (show False from hz2).elim
  | ok fl =>
    cases fl with
    | ret u => exact I1.after hz2
    | _ => exact hz2.elim
end
end Mp
set_option Elab.async false
set_option linter.all false
set_option maxRecDepth 100000
set_option maxHeartbeats 4000000
/-! Mp: the head and the end of a law in which lambdas are made. -/
namespace Mp
open PySem PySem.Spec PyProof.Rows L2
/-! ### the head -/
def tabO : Obj := { cls := .none, data := .fields #[] }
def isNoneV : Value → Bool
  | .none => true
  | _ => false
def isNil : Data → Bool
  | .fields vs => vs.isEmpty
  | _ => false
theorem isNoneV_ok {v : Value} (h : isNoneV v = true) : v = .none := by
  cases v <;> first | rfl | cases h
theorem isNil_ok {d : Data} (h : isNil d = true) : d = .fields #[] := by
  cases d with
  | fields vs =>
    have e : vs = #[] := by
      have h : vs.isEmpty = true := h
      simpa using h
    rw [e]
  | _ => cases h
def noTab (o : Obj) : Bool := !(isNoneV o.cls && isNil o.data)
def isTabB : Option Obj → Bool
  | some o => isNoneV o.cls && (o.dict.isNone && (isNil o.data && o.slots.isEmpty))
  | none => false
theorem isTabB_ok {o : Option Obj} (h : isTabB o = true) : o = some tabO := by
  cases o with
  | none => cases h
  | some o =>
    obtain ⟨h1, h2⟩ := He.ba h
    obtain ⟨h3, h4⟩ := He.ba h2
    obtain ⟨h5, h6⟩ := He.ba h4
    obtain ⟨oc, od, dt, sl⟩ := o
    have e1 : oc = .none := isNoneV_ok h1
    have e2 : od = none := by simpa using h3
    have e3 : dt = .fields #[] := isNil_ok h5
    have e4 : sl = #[] := by simpa using h6
    rw [e1, e2, e3, e4]
    rfl
def frM (g : Addr → Option Obj) (as : List Addr) : Frag := as.filterMap fun a => (g a).bind fun o => if noTab o = true then some (a, o) else none
theorem frM_at {g : Addr → Option Obj} {a : Addr} {o : Obj} : ∀ as : List Addr, (frM g as).lookup a = some o → g a = some o
  | [], e => nomatch (show (none : Option Obj) = some o from e)
  | b :: r, e => by
    unfold frM at e
    rw [List.filterMap_cons] at e
    cases hb : g b with
    | none =>
      rw [hb] at e
      exact frM_at r e
    | some o2 =>
      rw [hb] at e
      by_cases hn : noTab o2 = true
      · simp only [Option.bind_some, if_pos hn, List.lookup_cons] at e
        split at e
        · rename_i hk
          have ek := eq_of_beq hk
          cases e
          rw [ek]
          exact hb
        · exact frM_at r e
      · simp only [Option.bind_some, if_neg hn] at e
        exact frM_at r e
theorem frM_in {h : Heap} {as : List Addr} : PySem.W.Frag.In (frM h.get? as) h := fun a o e => frM_at as e
def isStrV : Value → Bool
  | .str _ _ => true
  | _ => false
def isIntV : Value → Bool
  | .int _ _ => true
  | _ => false
def isBoolV : Value → Bool
  | .bool _ => true
  | _ => false
def isCodeV : Value → Bool
  | .type ty => decide (ty = "code")
  | _ => false
theorem isStrV_ok {v : Value} (h : isStrV v = true) : ∃ a b, v = .str a b := by
  cases v <;> first | exact ⟨_, _, rfl⟩ | cases h
theorem isIntV_ok {v : Value} (h : isIntV v = true) : ∃ a b, v = .int a b := by
  cases v <;> first | exact ⟨_, _, rfl⟩ | cases h
theorem isBoolV_ok {v : Value} (h : isBoolV v = true) : ∃ a, v = .bool a := by
  cases v <;> first | exact ⟨_, rfl⟩ | cases h
theorem isCodeV_ok {v : Value} (h : isCodeV v = true) : v = .type "code" := by
  cases v with
  | type ty =>
    have e : ty = "code" := of_decide_eq_true h
    rw [e]
  | _ => cases h
/-- the code object of x and its table, as the making of a lambda asks -/
def codeB (K : Frag) (x : Str) : Bool := match codeV K x with
  | .ref c => (match K.lookup c with
    | some ⟨oc, _, .fields vs, _⟩ => isCodeV oc && ((match (vs[11]? : Option Value) with
      | some (.ref P) => !decide (c = P)
      | _ => false) && (isStrV (vs.getD 18 .none) && (isIntV (vs.getD 7 .none) && (isBoolV (vs.getD 9 .none) && isIntV (vs.getD 10 .none)))))
    | _ => false)
  | _ => false
theorem codeB_ok {K : Frag} {x : Str} {h : Heap} (KX : K.In h) (e : codeB K x = true) : codeV K x = .ref (codeA K x) ∧ PySem.W.CodeHd h (codeA K x) (tabA K x) := by
  unfold codeB at e
  split at e
  · rename_i c hc
    have ec : codeA K x = c := by unfold codeA; rw [hc]
    split at e
    · rename_i oc d vs sl hk
      obtain ⟨h1, h2⟩ := He.ba e
      obtain ⟨h3, h4⟩ := He.ba h2
      obtain ⟨h5, h6⟩ := He.ba h4
      obtain ⟨h7, h8⟩ := He.ba h6
      obtain ⟨h9, h10⟩ := He.ba h8
      have e1 := isCodeV_ok h1
      subst e1
      obtain ⟨a1, a2, g1⟩ := isStrV_ok h5
      obtain ⟨a3, a4, g2⟩ := isIntV_ok h7
      obtain ⟨a5, g3⟩ := isBoolV_ok h9
      obtain ⟨a6, a7, g4⟩ := isIntV_ok h10
      split at h3
      · rename_i P hP
        have eT : tabA K x = P := by
          unfold tabA
          rw [ec, hk]
          dsimp only
          rw [hP]
        rw [ec, eT]
        refine ⟨hc, _, vs, a1, a2, a3, a4, a5, a6, a7, KX c _ hk, rfl, rfl, hP, ?_, g1, g2, g3, g4, ?_⟩
        · rw [Array.getD_eq_getD_getElem?, hP]
          rfl
        · exact of_decide_eq_false (by simpa using h3)
      · cases h3
    · cases e
  · cases e
def tabsB (g : Addr → Option Obj) (K : Frag) (tl : List Str) : Bool := (tl.all fun x => codeB K x && (isTabB (g (tabA K x)) && (K.lookup (tabA K x)).isNone)) && decide ((tl.map (tabA K)).Nodup)
def TabSays (K : Frag) (h : Heap) (tl : List Str) : Prop := (∀ x ∈ tl, codeB K x = true ∧ h.get? (tabA K x) = some tabO ∧ K.lookup (tabA K x) = none) ∧ (tl.map (tabA K)).Nodup
abbrev AlT : Type := Bool × AlM
def obsTG (n : Nat) (file : Str) (fb : List (Frag → Bool)) (fn : List DefM) (tl : List Str) (g : Addr → Option Obj) : AlT := (tabsB g (frM g (asM g n)) tl, obsM file fb fn (frM g (asM g n)))
def hookT (n : Nat) (file : Str) (fb : List (Frag → Bool)) (fn : List DefM) (tl : List Str) : PySem.W.Hook where
  α := AlT
  obs := fun s => obsTG n file fb fn tl s.heap.get?
  val := fun _ => (true, valM fn)
  says := fun _ h => ∃ K : Frag, K.In h ∧ SaysM file fb fn K ∧ TabSays K h tl
  of := fun _ s e => by
    have e1 : tabsB s.heap.get? (frM s.heap.get? (asM s.heap.get? n)) tl = true := congrArg (fun z : AlT => z.1) e
    have e2 : obsM file fb fn (frM s.heap.get? (asM s.heap.get? n)) = valM fn := congrArg (fun z : AlT => z.2) e
    obtain ⟨t1, t2⟩ := He.ba e1
    refine ⟨_, frM_in, e2, fun x hx => ?_, of_decide_eq_true t2⟩
    obtain ⟨q1, q2⟩ := He.ba (List.all_eq_true.mp t1 x hx)
    obtain ⟨q3, q4⟩ := He.ba q2
    exact ⟨q1, isTabB_ok q3, by simpa using q4⟩
  keeps := fun _ _ _ ⟨K, hK, c, t⟩ k => ⟨K, PySem.W.Frag.In.keeps hK k, c, fun x hx => ⟨(t.1 x hx).1, k _ _ (t.1 x hx).2.1, (t.1 x hx).2.2⟩, t.2⟩
theorem obsTG_eq {n : Nat} {file : Str} {fb : List (Frag → Bool)} {fn : List DefM} {tl : List Str} {g : Addr → Option Obj} {s : Shared} (h : ∀ a, g a = s.heap.get? a) : obsTG n file fb fn tl g = (hookT n file fb fn tl).obs s := by
  have e : g = s.heap.get? := funext h
  rw [e]
  rfl
/-- what a law's defs may lean on where lambdas are made -/
abbrev Tbs (K : Frag) (mg : Str → Option Value) (base : Heap) (tl : List Str) : Prop := ∀ x ∈ tl, LamX.TabB base mg (codeA K x) (tabA K x) ∧ codeV K x = .ref (codeA K x)
/-! ### the end -/
def s0T (tl : List Str) : Sto := tl.map fun x => some (.tab x)
section
variable {P : Program} {w : World} {K : Frag} {mg mb : Str → Option Value} {k : Nat} {fa a : Addr} {s₁ : Shared} {vs : List Value} {ns : List Int} {m : DF} {tl : List Str}
theorem st_tabs {H : Hp} {a : Addr} (hH : ∀ x ∈ tl, H (tabA K x) = some (.tbl #[])) (nd : (tl.map (tabA K)).Nodup) : StR K ⟨fun n => (tl[n]?).map (tabA K), fun b => H b ≠ none ∧ b ∉ tl.map (tabA K), fun _ => False, H⟩ (s0T tl) := by
  have at0 : ∀ n ct, (s0T tl)[n]? = some (some ct) → ∃ x, tl[n]? = some x ∧ ct = Ct.tab x := fun n ct q => by
    unfold s0T at q
    rw [List.getElem?_map] at q
    cases e : tl[n]? with
    | none => rw [e] at q; cases q
    | some x => rw [e] at q; cases q; exact ⟨x, e, rfl⟩
  refine ⟨fun n ct q => ?_, fun _ _ _ _ _ z => z, fun _ z => z.elim, fun n m b c d q1 q2 h1 h2 => ?_, fun b z => z.1, fun n hn => ?_, fun _ z => z.elim⟩
  · obtain ⟨x, e, rfl⟩ := at0 n ct q
    have hx : x ∈ tl := List.mem_of_getElem? e
    have nz : ¬ (H (tabA K x) ≠ none ∧ tabA K x ∉ tl.map (tabA K)) := fun z => z.2 (List.mem_map_of_mem hx)
    refine ⟨tabA K x, by show (tl[n]?).map (tabA K) = _; rw [e]; rfl, nz, rfl, #[], hH x hx, trivial, fun pos cv hc => ?_⟩
    have z : codeAmong pos [] = some cv := hc
    simp [codeAmong] at z
  · obtain ⟨x, e1, rfl⟩ := at0 n c q1
    obtain ⟨y, e2, rfl⟩ := at0 m d q2
    have g1 : (tl.map (tabA K))[n]? = some b := by rw [List.getElem?_map]; exact h1
    have g2 : (tl.map (tabA K))[m]? = some b := by rw [List.getElem?_map]; exact h2
    obtain ⟨l1, f1⟩ := List.getElem?_eq_some_iff.mp g1
    obtain ⟨l2, f2⟩ := List.getElem?_eq_some_iff.mp g2
    have pw := List.pairwise_iff_getElem.mp nd
    rcases Nat.lt_trichotomy n m with z | z | z
    · exact absurd (f1.trans f2.symm) (pw n m l1 l2 z)
    · exact z
    · exact absurd (f2.trans f1.symm) (pw m n l2 l1 z)
  · have e : tl[n]? = none := List.getElem?_eq_none (by unfold s0T at hn; rw [List.length_map] at hn; exact hn)
    show (tl[n]?).map (tabA K) = none
    rw [e]
    rfl
theorem law_coreT (KX : K.In s₁.heap) (hns : s₁.heap.Ns mainGlobals mg) (hb : s₁.heap.Ns builtinsNs mb) (hbb : ∀ x : Str, x ≠ "__name__" → mb x = bootBuiltins x) (hlim : s₁.heap.NoLimit) (hg : s₁.gens = #[])
    (hbm : ∃ (bm : Addr) (ob : Obj), mg "__builtins__" = some (.ref bm) ∧ bm ≠ builtinsNs ∧ s₁.heap.get? bm = some ob ∧ ob.cls = .type "module" ∧ ob.dict = some builtinsNs ∧ ob.data = .plain)
    (ha : s₁.heap.get? a = some { cls := .type "list", data := .seq vs.toArray }) (T : TabSays K s₁.heap tl) (hr : Rm k callerA) (F : ∀ base : Heap, K.In base → base.Ns mainGlobals mg → Tbs K mg base tl → FnD P w K mg base k fa m) (hm : ∃ s', m [.rol (ns.map .int)] (s0T tl) = .ok (.bl true) s')
    (H : Hp) (hH : ∀ x ∈ tl, H (tabA K x) = some (.tbl #[])) (hO : ∀ b, H b = none ∨ b ∈ tl.map (tabA K) ∨ ∃ o xs, H b = some (.frz o (.lst xs))) (hS : SqL K H a (ns.map V.int)) (hok : HOk P w H s₁.heap) (hA : ∀ b, H b ≠ none → b = a ∨ b ∈ tl.map (tabA K)) (hK : H a ≠ none → K.lookup a = none) :
    codeAny (model P w) callerA (.call (.ref fa) ⟨[.ref a], []⟩) (LawEnd s₁) s₁ := by
  have atT : ∀ b, b ∈ tl.map (tabA K) → ∃ x ∈ tl, b = tabA K x ∧ s₁.heap.get? b = some tabO := fun b hb => by
    obtain ⟨x, hx, e⟩ := List.mem_map.mp hb
    exact ⟨x, hx, e.symm, e ▸ (T.1 x hx).2.1⟩
  have aT : a ∉ tl.map (tabA K) := fun z => by
    obtain ⟨x, hx, _, q⟩ := atT a z
    rw [ha] at q
    have z2 : Data.seq vs.toArray _ = Data.fields #[] := congrArg Obj.data (Option.some.inj q)
    cases z2
  have off : ∀ {b : Addr} {o : Obj}, s₁.heap.get? b = some o → (∀ u n, o.data ≠ .seq u n) → o.data ≠ .fields #[] → H b = none := fun {b o} e d1 d2 => by
    by_cases q : H b = none
    · exact q
    · rcases hA b q with z | z
      · subst z
        rw [ha] at e
        cases e
        exact absurd rfl (d1 _ _)
      · obtain ⟨x, hx, _, q2⟩ := atT b z
        rw [q2] at e
        cases e
        exact absurd rfl d2
  have nsH : ∀ {b : Addr} {f : Str → Option Value}, s₁.heap.Ns b f → (hidT s₁.heap H).Ns b f := fun ⟨o, es, ep, e, d, r⟩ => ⟨o, es, ep, hidT_get e (off e (by rw [d]; exact fun _ _ z => nomatch z) (by rw [d]; exact fun z => nomatch z)), d, r⟩
  have KH : K.In (hidT s₁.heap H) := fun b o e => hidT_get (KX b o e) (by
    by_cases q : H b = none
    · exact q
    · rcases hA b q with z | z
      · subst z
        rw [hK q] at e
        cases e
      · obtain ⟨x, hx, rfl, _⟩ := atT b z
        rw [(T.1 x hx).2.2] at e
        cases e)
  have M0 : Mod K mg (hidT s₁.heap H) := ⟨KH, nsH hns, ⟨mb, nsH hb, hbb⟩, hlim.elim fun mc z => ⟨mc, nsH z.1, z.2⟩⟩
  have E0 : Env0 P w K mg (hidT s₁.heap H) callerA [] s₁ H := ⟨rfl, M0, fun b o e => of_hidT e, Nat.le_of_eq (hidT_size _ _), trivial, fun b z => absurd (show b ∈ ([] : List Addr) from z) (by simp), hok, .of_eq hg⟩
  have TB : Tbs K mg (hidT s₁.heap H) tl := fun x hx => by
    obtain ⟨cB, gT, nT⟩ := T.1 x hx
    obtain ⟨c1, o, us, file, tf, flags, tg, inF, text, tt, q1, r1, r2, r3, r4, r5, r6, r7, r8, hne⟩ := codeB_ok KX cB
    refine ⟨⟨⟨o, us, file, tf, flags, tg, inF, text, tt, hidT_get q1 (off q1 (by rw [r2]; exact fun _ _ z => nomatch z) fun z => ?_), r1, r2, r3, r4, r5, r6, r7, r8, hne⟩, ?_, fun z => ?_⟩, c1⟩
    · rw [r2] at z
      cases z
      simp at r3
    · obtain ⟨bm, ob, b1, b2, b3, b4, b5, b6⟩ := hbm
      refine ⟨bm, ob, b1, b2, fun q => ?_, fun q => ?_, hidT_get b3 (off b3 (by rw [b6]; exact fun _ _ z => nomatch z) (by rw [b6]; exact fun z => nomatch z)), b4, b5, b6⟩
      · obtain ⟨o2, es, ep, e, hd, _⟩ := hns
        rw [q, e] at b3
        cases b3
        rw [hd] at b6
        cases b6
      · rw [q, gT] at b3
        cases b3
        cases b6
    · obtain ⟨o2, es, ep, e, hd, _⟩ := hns
      rw [z, gT] at e
      cases e
      cases hd
  obtain ⟨s', hm⟩ := hm
  have hsp : spD K m [.ref a] H (fun v _ => v = .bl true) fun _ _ _ => False := by
    refine ⟨[.rol (ns.map .int)], s0T tl, ⟨fun n => (tl[n]?).map (tabA K), fun b => H b ≠ none ∧ b ∉ tl.map (tabA K), fun _ => False, H⟩, rfl, .cons (.rol (hS.elim (fun z => .inl ⟨⟨?_, aT⟩, z⟩) .inr) ?_) .nil, st_tabs (a := a) hH T.2, ?_⟩
    · rcases z with z | ⟨o, z⟩ <;> exact fun e => by rw [e] at z; cases z
    · clear hm hS
      induction ns with
      | nil => exact .nil
      | cons i r ih => exact .cons (.int i) ih
    · rw [hm]
      intro v w' _ _ rv
      cases rv
      rfl
  refine codeAny_mono (F _ KH (nsH hns) TB callerA [] s₁ H [.ref a] [.ref a] _ _ hr E0 (.cons rfl .nil) hsp) fun r s' h => ?_
  cases r with
  | error e =>
    obtain ⟨_, _, _, _, _, _, _, _, _, _, _, _, z⟩ := h
    exact z.elim
  | ok fl =>
    cases fl with
    | ret u =>
      obtain ⟨v, H', os, bare, un, hok', r', q⟩ := h
      obtain rfl : v = .bl true := q
      obtain rfl : u = Value.bool true := r'
      have same : ∀ (b : Addr) (o : Obj), b ∉ tl.map (tabA K) → s₁.heap.get? b = some o → s'.heap.get? b = some o := fun b o nb e => by
        rcases hO b with z | z | ⟨ob, xs, z⟩
        · exact un.keep b o e z (fun y => absurd (show b ∈ ([] : List Addr) from y) (by simp)) (by simp)
        · exact absurd z nb
        · have e1 := (hok b _ z).1
          have e2 := (hok' b _ (un.frzs b ob _ z)).1
          rw [e] at e1
          cases e1
          exact e2
      have more : ∀ x ∈ tl, ∃ ys : Array Value, s'.heap.get? (tabA K x) = some { cls := .none, data := .fields ys } := fun x hx => by
        obtain ⟨ys, z⟩ := un.tbls (tabA K x) #[] (hH x hx)
        exact ⟨_, hok' _ _ z⟩
      refine ⟨rfl, ⟨fun b o e => ?_, fun b o e => ?_⟩, os, bare⟩
      · by_cases hb : b ∈ tl.map (tabA K)
        · obtain ⟨x, hx, rfl, gT⟩ := atT b hb
          obtain ⟨ys, hy⟩ := more x hx
          rw [gT] at e
          cases e
          have C := (codeB_ok KX (T.1 x hx).1).2
          exact .inr (.inl ⟨(C.tab gT).isCodeTable, rfl, #[], ys, rfl, by rw [Array.empty_append]; exact hy⟩)
        · exact .inl (same b o hb e)
      · by_cases hb : b ∈ tl.map (tabA K)
        · obtain ⟨x, hx, rfl, _⟩ := atT b hb
          obtain ⟨ys, hy⟩ := more x hx
          exact ⟨_, hy⟩
        · exact ⟨o, same b o hb e⟩
    | _ => exact h.elim
theorem law_endT (KX : K.In s₁.heap) (hns : s₁.heap.Ns mainGlobals mg) (hb : s₁.heap.Ns builtinsNs mb) (hbb : ∀ x : Str, x ≠ "__name__" → mb x = bootBuiltins x) (hlim : s₁.heap.NoLimit) (hg : s₁.gens = #[])
    (hbm : ∃ (bm : Addr) (ob : Obj), mg "__builtins__" = some (.ref bm) ∧ bm ≠ builtinsNs ∧ s₁.heap.get? bm = some ob ∧ ob.cls = .type "module" ∧ ob.dict = some builtinsNs ∧ ob.data = .plain)
    (ha : s₁.heap.get? a = some { cls := .type "list", data := .seq vs.toArray }) (hi : IntsAre vs ns) (hl : ns.length ≤ sizeLine) (T : TabSays K s₁.heap tl) (hr : Rm k callerA) (F : ∀ base : Heap, K.In base → base.Ns mainGlobals mg → Tbs K mg base tl → FnD P w K mg base k fa m) (hm : ∃ s', m [.rol (ns.map .int)] (s0T tl) = .ok (.bl true) s') :
    codeAny (model P w) callerA (.call (.ref fa) ⟨[.ref a], []⟩) (LawEnd s₁) s₁ := by
  have go := law_coreT (m := m) (ns := ns) KX hns hb hbb hlim hg hbm ha T hr F hm
  have rv := vals_ints hi
  have tabAt : ∀ b, b ∈ tl.map (tabA K) → s₁.heap.get? b = some tabO := fun b hb => by
    obtain ⟨x, hx, e⟩ := List.mem_map.mp hb
    exact e ▸ (T.1 x hx).2.1
  have aT : a ∉ tl.map (tabA K) := fun z => by
    have q := tabAt a z
    rw [ha] at q
    have z2 : Data.seq vs.toArray _ = Data.fields #[] := congrArg Obj.data (Option.some.inj q)
    cases z2
  have tT : ∀ x ∈ tl, tabA K x ∈ tl.map (tabA K) := fun x hx => List.mem_map_of_mem hx
  let H0 : Hp := fun b => if b ∈ tl.map (tabA K) then some (.tbl #[]) else none
  have in0 : ∀ b, b ∈ tl.map (tabA K) → H0 b = some (.tbl #[]) := fun b h => if_pos h
  have out0 : ∀ b, b ∉ tl.map (tabA K) → H0 b = none := fun b h => if_neg h
  cases hk : K.lookup a with
  | some o =>
    have e := KX a o hk
    rw [ha] at e
    cases e
    refine go H0 (fun x hx => in0 _ (tT x hx)) (fun b => ?_) (.inr ⟨_, vs.toArray, _, hk, rfl, rfl, rfl, by rw [List.size_toArray, hi.length]; exact hl, by simpa using rv⟩) (fun b u z => ?_) (fun b z => ?_) fun z => absurd (out0 a aT) z
    · by_cases h : b ∈ tl.map (tabA K)
      · exact .inr (.inl h)
      · exact .inl (out0 b h)
    · by_cases h : b ∈ tl.map (tabA K)
      · rw [in0 b h] at z
        cases z
        exact tabAt b h
      · rw [out0 b h] at z
        cases z
    · by_cases h : b ∈ tl.map (tabA K)
      · exact .inr h
      · exact absurd (out0 b h) z
  | none =>
    have ne : ∀ b, b ∈ tl.map (tabA K) → b ≠ a := fun b h z => aT (z ▸ h)
    refine go (upd H0 a (.frz { cls := .type "list", data := .seq vs.toArray } (.lst (ns.map V.int)))) (fun x hx => (upd_ne (ne _ (tT x hx))).trans (in0 _ (tT x hx))) (fun b => ?_) (.inl (.inr ⟨_, upd_same⟩)) (fun b u z => ?_) (fun b z => ?_) fun _ => hk
    · by_cases e : b = a
      · subst e
        exact .inr (.inr ⟨_, _, upd_same⟩)
      · by_cases h : b ∈ tl.map (tabA K)
        · exact .inr (.inl h)
        · exact .inl ((upd_ne e).trans (out0 b h))
    · by_cases e : b = a
      · subst e
        rw [upd_same] at z
        cases z
        exact ⟨ha, by rw [List.length_map]; exact hl, vs, _, rv, ha⟩
      · rw [upd_ne e] at z
        by_cases h : b ∈ tl.map (tabA K)
        · rw [in0 b h] at z
          cases z
          exact tabAt b h
        · rw [out0 b h] at z
          cases z
    · by_cases e : b = a
      · exact .inl e
      · by_cases h : b ∈ tl.map (tabA K)
        · exact .inr h
        · exact absurd ((upd_ne e).trans (out0 b h)) z
end
/-- a law row in which lambdas are made -/
theorem walk_endT {l : PySem.W.OpenLaw} {n k : Nat} {q : Program} {loose : List Str} {XP : (Str → Option Value) → Heap → Prop} {YP : World → Heap → Prop} {d : DefRec} {m : DF} {tl : List Str} (hn : l.most = some n) (hn2 : n ≤ sizeLine) (hdf : d.params.defaults = []) (hr : Rm k callerA)
    (F : ∀ (w : World) (mg : Str → Option Value) (fa : Addr) (h : Heap), YP w h → h.Ns mainGlobals mg → mg d.name = some (.ref fa) → ∃ K : Frag, K.In h ∧ TabSays K h tl ∧ ∀ base : Heap, K.In base → base.Ns mainGlobals mg → Tbs K mg base tl → FnD l.prog w K mg base k fa m)
    (hm : ∀ ns : List Int, ns.length ≤ n → (∀ z ∈ ns, Builtin.Int.intBits z ≤ 1048576) → ∃ s', m [.rol (ns.map .int)] (s0T tl) = .ok (.bl true) s') : PySem.W.WalkO q loose XP YP l.row.toRowW d [] (fun f vs => PySem.call f vs) := by
  refine Att.attach_callB hn hdf fun w s₀ s₁ mg mb fa o pm cd doc a vs ns G Y ho hd hcd hmg hobj hints hlen hbits hg => ?_
  obtain ⟨K, KX, T, hF⟩ := F w mg fa _ Y G.T.g hmg
  exact law_endT KX G.T.g G.T.b G.T.builtins G.T.nolimit hg G.T.bmain hobj hints (Nat.le_trans hlen hn2) T hr hF (hm ns hlen hbits)
/-! ### a def in which lambdas are made -/
section
variable {P : Program} {w : World} {K : Frag} {mg : Str → Option Value} {base : Heap}
theorem LamD.mono {N : List Str} {x a : Str} {sg : Scope} {g : Addr} {k j : Nat} {bg : List Stmt} {b : DE → DS} (h : LamD P w K mg base N x sg g k bg a b) (hk : k ≤ j) : LamD P w K mg base N x sg g j bg a b := fun cdv A outer s H th hr act => h cdv A outer s H th (hr.mono hk) act
end
end Mp
set_option Elab.async false
set_option linter.all false
set_option maxRecDepth 100000
set_option maxHeartbeats 4000000
/-! Mp: a text some times. -/
namespace Mp
open PySem PySem.Spec PyProof.Rows L2
section
end
end Mp
set_option Elab.async false
set_option linter.all false
set_option maxRecDepth 100000
set_option maxHeartbeats 4000000
/-! Mp: a text backwards. -/
namespace Mp
open PySem PySem.Spec PyProof.Rows L2
section
end
end Mp
set_option Elab.async false
set_option linter.all false
set_option maxRecDepth 100000
set_option maxHeartbeats 4000000
/-! Mp: classmethods; a class called by a local name. -/
namespace Mp
open PySem PySem.Spec PyProof.Rows L2
section
end
/-! ### the head's facts -/
end Mp
set_option Elab.async false
set_option linter.all false
set_option maxRecDepth 100000
set_option maxHeartbeats 4000000
/-! Mp: several except clauses, with names or without. -/
namespace Mp
open PySem PySem.Spec PyProof.Rows L2
/-- a clause: its class, the slot of its name, its suite -/
structure Cl where
  c : Value
  i : Option Nat
  ts : Addr → Value → Option Addr → TS
def endN (D : Ends) : Option Nat → Ends
  | none => D
  | some i => { nx := fun u H => D.nx (u.set i none) H, rt := D.rt, bk := fun u H => D.bk (u.set i none) H, ct := fun u H => D.ct (u.set i none) H }
def putN (t : L2.St) (a : Addr) : Option Nat → L2.St
  | none => t
  | some i => t.set i (some (.ref a))
/-- what the clauses wish of an exception, one after the other -/
def wN (K : Frag) (W : WX) (D : Ends) : List Cl → WX
  | [] => W
  | q :: r => fun cls d t H => ∃ b, PySem.W.exmOne K cls q.c = some b ∧ (b = true → ∀ a, H a = none → q.ts a cls d (endN D q.i) (putN t a q.i) H) ∧ (b = false → wN K W D r cls d t H)
inductive HdN (X : Cx) : List ExceptHandler → List Cl → Prop
  | nil : HdN X [] []
  | cons {x : Str} {c : Value} {ts : Addr → Value → Option Addr → TS} {b0 : Stmt} {suite : List Stmt} {np pos : Pos} {hds : List ExceptHandler} {l : List Cl} (hc : Names X x c)
      (hsu : ∀ (a : Addr) (oe : Obj) (cls : Value) (d : Option Addr) (pn : List (Addr × Obj)), Zc cls d oe → (∃ vs, oe.data = .fields vs) → PSs (X.suite a ((a, oe) :: pn)) (b0 :: suite) (ts a cls d)) (r : HdN X hds l) :
      HdN X (.ExceptHandler (some (.Name x np)) none (b0 :: suite) pos :: hds) (⟨c, none, ts⟩ :: l)
  | as {x n : Str} {i : Nat} {c : Value} {ts : Addr → Value → Option Addr → TS} {b0 : Stmt} {suite : List Stmt} {np pos : Pos} {hds : List ExceptHandler} {l : List Cl} (hi : X.N[i]? = some n) (hln : X.env.kindOf n = some .local) (hc : Names X x c)
      (hsu : ∀ (a : Addr) (oe : Obj) (cls : Value) (d : Option Addr) (pn : List (Addr × Obj)), Zc cls d oe → (∃ vs, oe.data = .fields vs) → PSs (X.suite a ((a, oe) :: pn)) (b0 :: suite) (ts a cls d)) (r : HdN X hds l) :
      HdN X (.ExceptHandler (some (.Name x np)) (some n) (b0 :: suite) pos :: hds) (⟨c, some i, ts⟩ :: l)
section
variable {X : Cx} {body : List Stmt} {h0 : ExceptHandler} {hds : List ExceptHandler} {l : List Cl} {pos : Pos} {tb : WX → TS} {W : WX}
theorem ps_tryN (hs : X.stack = X.env :: X.outer) (hf : X.env.frame = some X.env.locals) (hN : X.N.Nodup) (tk : Takes X W)
    (hb : ∀ (W' : WX) (pn : List (Addr × Obj)) (xe : Value → Shared → Prop), Takes (X.tr pn xe) W' → PassesOwn (model X.prog X.w) X.A X.env xe → PSs (X.tr pn xe) body (tb W'))
    (hh : HdN X (h0 :: hds) l) : PS X (.Try body (h0 :: hds) [] [] pos) (fun D t H => tb (wN X.K W D l) D t H) := by
  refine ⟨fun pins s t H D I h => ?_⟩
  have ok := I.ok
  have hfr : X.A.frames = some (X.env :: X.outer) := by rw [ok.frames, hs]
  refine wpAny_Try_except ?_
  refine wpAny_mono ((hb (wN X.K W D l) (X.pn ++ pins) (fun e s1 => wpAny (model X.prog X.w) X.A (noteFrame e X.env) (fun _ s2 => wpAny (model X.prog X.w) X.A (setFlight e none) (fun _ s3 =>
    wpAny (model X.prog X.w) X.A (handleBy e X.env (h0 :: hds)) (SP X pins D) X.xe s3) X.xe s2) X.xe s1) (fun u s' xx => ?_) PassesOwn.looking).run [] s t H D (I.toTry _) h) (fun f s1 hsp => ?_) (fun e s1 he => he)
  · obtain ⟨a, B, sI, pins', t', H', cls, d, rfl, J', nb, up, sky, na, os, ag, wish⟩ := xx
    have J : Inv X pins t' H' sI := J'.ofTry ok
    have sky' : Sky B (X.env :: X.outer) a (Zc cls d) X.env.locals s'.heap := by rw [← hs]; exact sky
    show wpAny (model X.prog X.w) X.A (noteFrame (.ref a) X.env) _ _ _
    refine Sky.land Zc.steady hfr hf sky' fun h3 fl3 up3 => ?_
    have J3 : Inv X pins t' H' { s' with heap := h3 } := J.landed nb fl3.1 (up.trans up3) os ag
    obtain ⟨oe3, vs3, he3, hz3, hd3⟩ := fl3.there
    have nfr : a ∉ frs (X.env :: X.outer) := fun hm => by
      obtain ⟨_, o', e', hnf⟩ := Heap.FunFrames.mem fl3.2.2.1 hm
      rw [he3] at e'
      cases e'
      exact hnf _ hd3
    have nL : a ≠ X.env.locals := fun z => nfr (List.mem_filterMap.mpr ⟨X.env, List.mem_cons_self, by rw [hf, z]⟩)
    have nF : a ∉ X.fs := fun hm => by
      obtain ⟨e, he, q⟩ := List.mem_filterMap.mp hm
      exact nfr (List.mem_filterMap.mpr ⟨e, List.mem_cons_of_mem _ he, q⟩)
    have S3 := J3.suite he3 hd3 na nL nF
    have LT : PySem.W.Looks (model X.prog X.w) h3 (typeOf (.ref a)) cls := fun A Q E s k q => wpAny_typeOf_ref (k _ _ he3) (by rw [hz3.1]; exact q)
    have test : ∀ {x : Str} {np : Pos} {c : Value} {Q : Value → Shared → Prop} {E : Value → Shared → Prop}, Names X x c → Q c { s' with heap := h3 } → wpAny (model X.prog X.w) (X.A.mark (some (.ref a))) (eval (.Name x np) X.env) Q E { s' with heap := h3 } := fun {x np c Q E} hc q => by
      obtain ⟨hg, hdbg, hm | ⟨hm, hv, hnn⟩⟩ := hc
      · exact ld_glob (X := X.suite a ((a, oe3) :: (X.pn ++ pins))) S3 hg hm q hdbg
      · exact ld_blt (X := X.suite a ((a, oe3) :: (X.pn ++ pins))) S3 hg hm hv q hnn hdbg
    have go : ∀ {hds' : List ExceptHandler} {l' : List Cl}, HdN X hds' l' → wN X.K W D l' cls d t' H' → wpAny (model X.prog X.w) X.A (handleBy (.ref a) X.env hds') (SP X pins D) X.xe { s' with heap := h3 } := by
      intro hds' l' hk
      induction hk with
      | nil =>
        intro wi
        refine wpAny_handleBy_nil ?_
        obtain ⟨k1, k2, k3, oe, vs, T, oT, ts', he, hz, hd, h1, hr⟩ := id fl3
        unfold PySem.passOn
        refine wpAny_bind (wpAny_field he hd h1 ?_)
        rw [if_neg (show ¬ ((Value.ref T == Value.none) = true) from by simp)]
        have fin : wpAny (model X.prog X.w) X.A (setFlight (.ref a) X.env.frame) (fun _ s4 => wpAny (model X.prog X.w) X.A (throw (.ref a) : Sem Flow) (SP X pins D) X.xe s4) X.xe { s' with heap := h3 } := by
          rw [hf]
          refine HandSPX.setFlight_upZ fl3 fun h4 hh4 up4 => wpAny_throw (tk _ _ ?_)
          exact ⟨a, B, sI, pins, t', H', cls, d, rfl, J, nb, (up.trans up3).trans up4, .inr (.inr (by rw [hs]; exact hh4)), na, os, ag, wi⟩
        first
          | exact wpAny_bind (wpAny_pure (wpAny_bind fin))
          | exact wpAny_bind fin
      | @cons x c ts b0 suite np pos' hds2 l2 hc hsu r ih =>
        intro wi
        obtain ⟨b, hb1, hyes, hno⟩ := wi
        refine wpAny_handleBy_cons (codeAny_handlers_test ?_) (by intro q; cases q)
        refine test hc ((PySem.W.exm_one (M := model X.prog X.w) (J3.kIn) LT hb1).here ?_)
        cases b with
        | true =>
          refine codeAny_handlers_suite ?_
          refine HandSPX.lands_againZ fl3 fun h4 fl4 up4 => ?_
          have J4 : Inv X pins t' H' { s' with heap := h4 } := J.landed nb fl4.1 ((up.trans up3).trans up4) os ag
          obtain ⟨oe4, vs4, he4, hz4, hd4⟩ := fl4.there
          have S4 := J4.suite he4 hd4 na nL nF
          refine wpAny_mono ((hsu a oe4 cls d (X.pn ++ pins) hz4 ⟨_, hd4⟩).run [] _ _ H' _ S4 (hyes rfl a na)) (fun f s6 hsp => ?_) (fun _ _ z => False.elim z)
          cases f with
          | ret u =>
            obtain ⟨v6, t6, H6, S6, r6, q6⟩ := hsp
            exact ⟨_, _, _, S6.unsuite ok, r6, q6⟩
          | _ =>
            obtain ⟨t6, H6, S6, q6⟩ := hsp
            exact ⟨_, _, S6.unsuite ok, q6⟩
        | false =>
          show wpAny _ X.A (handleBy (.ref a) X.env hds2) _ _ _
          exact ih (hno rfl)
      | @as x n i c ts b0 suite np pos' hds2 l2 hi hln hc hsu r ih =>
        intro wi
        obtain ⟨b, hb1, hyes, hno⟩ := wi
        refine wpAny_handleBy_cons (codeAny_handlers_test ?_) (by intro q; cases q)
        refine test hc ((PySem.W.exm_one (M := model X.prog X.w) (J3.kIn) LT hb1).here ?_)
        cases b with
        | true =>
          refine codeAny_handlers_suite_as ?_
          refine HandSPX.lands_againZ fl3 fun h4 fl4 up4 => ?_
          have J4 : Inv X pins t' H' { s' with heap := h4 } := J.landed nb fl4.1 ((up.trans up3).trans up4) os ag
          obtain ⟨oe4, vs4, he4, hz4, hd4⟩ := fl4.there
          have S4 := J4.suite he4 hd4 na nL nF
          refine store_ok (X := X.suite a ((a, oe4) :: (X.pn ++ pins))) (v := .ref a) S4 hN hi (.inl hln) rfl (fun s5 S5 => ?_) (.inr hln)
          refine wpAny_mono ((hsu a oe4 cls d (X.pn ++ pins) hz4 ⟨_, hd4⟩).run [] s5 _ H' _ S5 (hyes rfl a na)) (fun f s6 hsp => ?_) (fun _ _ z => False.elim z)
          have off : ∀ {t6 : L2.St} {H6 : Hp} {Q : Shared → Prop}, Inv (X.suite a ((a, oe4) :: (X.pn ++ pins))) [] t6 H6 s6 → (∀ s7, Inv X pins (t6.set i none) H6 s7 → Q s7) →
              wpAny (model X.prog X.w) X.A (do bindName X.env n .none; unbindBehindTheSuite X.env n pos') (fun _ s7 => Q s7) X.xe s6 := fun S6 hq => gone_ok (S6.unsuite ok) hN hi hln hq
          cases f with
          | ret u =>
            obtain ⟨v6, t6, H6, S6, r6, q6⟩ := hsp
            exact off S6 fun s7 J7 => ⟨_, _, _, J7, r6, q6⟩
          | _ =>
            obtain ⟨t6, H6, S6, q6⟩ := hsp
            exact off S6 fun s7 J7 => ⟨_, _, J7, q6⟩
        | false =>
          show wpAny _ X.A (handleBy (.ref a) X.env hds2) _ _ _
          exact ih (hno rfl)
    exact go hh wish
  · cases f with
    | next =>
      obtain ⟨t', H', J', q⟩ := hsp
      exact wpAny_execs_nil ⟨t', H', J'.ofTry ok, q⟩
    | brk =>
      obtain ⟨t', H', J', q⟩ := hsp
      exact ⟨t', H', J'.ofTry ok, q⟩
    | cont =>
      obtain ⟨t', H', J', q⟩ := hsp
      exact ⟨t', H', J'.ofTry ok, q⟩
    | ret u =>
      obtain ⟨v, t', H', J', r, q⟩ := hsp
      exact ⟨v, t', H', J'.ofTry ok, r, q⟩
end
/-! ### on data -/
inductive Hd where
  | pl (tb : List (Str × Bool)) (mh : DS)
  | as (i : Nat) (E : Str) (tb : List (Str × Bool)) (mh : Addr → Option Addr → List (Str × D) → DS)
noncomputable def manyF : List Hd → Str → List (Str × D) → En → Sto → Fl
  | [], C, fs, r, s => .exc C fs r s
  | .pl tb mh :: hs, C, fs, r, s => match tb.lookup C with
    | some true => noExc (mh r s)
    | some false => manyF hs C fs r s
    | none => .bad
  | .as i E tb mh :: hs, C, fs, r, s => match tb.lookup C with
    | some true => if C = E then joinF (fun a d => offS i (mh a d fs (r.set i (some (.exn a d C fs))) s)) else .bad
    | some false => manyF hs C fs r s
    | none => .bad
noncomputable def tryNS (mb : DS) (hs : List Hd) : DS := fun r s => match mb r s with
  | .exc C fs r' s' => manyF hs C fs r' s'
  | f => f
/-- the clauses and their meaning -/
inductive HdD (X : Cx) : List ExceptHandler → List Hd → Prop
  | nil : HdD X [] []
  | cons {x : Str} {c : Value} {tb : List (Str × Bool)} {mh : DS} {b0 : Stmt} {suite : List Stmt} {np pos : Pos} {hds : List ExceptHandler} {l : List Hd} (hc : Names X x c) (T : ExTab X.K c tb)
      (hsu : ∀ (a : Addr) (oe : Obj) (cls : Value) (d : Option Addr) (pn : List (Addr × Obj)), Zc cls d oe → (∃ vs, oe.data = .fields vs) → PSs (X.suite a ((a, oe) :: pn)) (b0 :: suite) (tS X.K W0 mh)) (r : HdD X hds l) :
      HdD X (.ExceptHandler (some (.Name x np)) none (b0 :: suite) pos :: hds) (.pl tb mh :: l)
  | as {x n E : Str} {i : Nat} {c : Value} {tb : List (Str × Bool)} {mh : Addr → Option Addr → List (Str × D) → DS} {b0 : Stmt} {suite : List Stmt} {np pos : Pos} {hds : List ExceptHandler} {l : List Hd} (hi : X.N[i]? = some n) (hln : X.env.kindOf n = some .local) (hc : Names X x c) (T : ExTab X.K c tb)
      (hsu : ∀ (a : Addr) (oe : Obj) (d : Option Addr) (pn : List (Addr × Obj)) (fs : List (Str × D)), Zc (.ref (He.ga X.K E)) d oe → (∃ vs, oe.data = .fields vs) → PSs (X.suite a ((a, oe) :: pn)) (b0 :: suite) (tS X.K W0 (mh a d fs))) (r : HdD X hds l) :
      HdD X (.ExceptHandler (some (.Name x np)) (some n) (b0 :: suite) pos :: hds) (.as i E tb mh :: l)
section
variable {X : Cx} {W : WX}
theorem hdD_go {hds : List ExceptHandler} {l : List Hd} (h : HdD X hds l) : ∃ ls : List Cl, HdN X hds ls ∧ ∀ (w : Wd) (Z : Ends) (C : Str) (fs : List (Str × D)) (r : En) (s : Sto) (t : L2.St) (ed : Option Addr), EnvR X.K w r t → StR X.K w s → ExR X.K w ed fs → PostS X.K w W Z (manyF l C fs r s) → wN X.K W Z ls (.ref (He.ga X.K C)) ed t w.H := by
  induction h with
  | nil => exact ⟨[], .nil, fun w Z C fs r s t ed env st x hp => hp t ed w (Ext.refl w) env st x⟩
  | @cons x c tb mh b0 suite np pos hds l hc T hsu r ih =>
    obtain ⟨ls, h1, h2⟩ := ih
    refine ⟨⟨c, none, fun _ _ _ => tS X.K W0 mh⟩ :: ls, .cons hc hsu h1, fun w Z C fs r s t ed env st x hp => ?_⟩
    unfold manyF at hp
    cases e2 : tb.lookup C with
    | none => rw [e2] at hp; exact hp.elim
    | some k =>
      rw [e2] at hp
      refine ⟨k, T _ (look_mem e2), fun hk a _ => ?_, fun hk => ?_⟩
      · subst hk
        exact ⟨r, s, w, rfl, env, st, noExc_post hp⟩
      · subst hk
        exact h2 w Z C fs r s t ed env st x hp
  | @as x n E i c tb mh b0 suite np pos hds l hi hln hc T hsu r ih =>
    obtain ⟨ls, h1, h2⟩ := ih
    refine ⟨⟨c, some i, fun a cls d Z t H => ∃ fs, cls = .ref (He.ga X.K E) ∧ tS X.K W0 (mh a d fs) Z t H⟩ :: ls, .as hi hln hc (fun a oe cls d pn hz hd => ⟨fun pins s t H Z I z => by
      obtain ⟨fs, rfl, z⟩ := z
      exact (hsu a oe d pn fs hz hd).run pins s t H Z I z⟩) h1, fun w Z C fs r s t ed env st x hp => ?_⟩
    unfold manyF at hp
    cases e2 : tb.lookup C with
    | none => rw [e2] at hp; exact hp.elim
    | some k =>
      rw [e2] at hp
      refine ⟨k, T _ (look_mem e2), fun hk a _ => ?_, fun hk => ?_⟩
      · subst hk
        dsimp only at hp
        by_cases hC : C = E
        · rw [if_pos hC] at hp
          subst hC
          unfold joinF at hp
          split at hp
          · rename_i hj
            rw [← hj a ed] at hp
            dsimp only at hp
            refine ⟨fs, rfl, r.set i (some (.exn a ed C fs)), s, w, rfl, env.set (Rep.exnK x) i, st, ?_⟩
            cases e3 : mh a ed fs (r.set i (some (.exn a ed C fs))) s with
            | nx r3 s3 => rw [e3] at hp; exact fun t4 w4 e4 env4 st4 => hp _ w4 e4 (env4.unset i) st4
            | bk r3 s3 => rw [e3] at hp; exact fun t4 w4 e4 env4 st4 => hp _ w4 e4 (env4.unset i) st4
            | ct r3 s3 => rw [e3] at hp; exact fun t4 w4 e4 env4 st4 => hp _ w4 e4 (env4.unset i) st4
            | rt d3 s3 => rw [e3] at hp; exact hp
            | exc C3 f3 r3 s3 => rw [e3] at hp; exact hp.elim
            | bad => rw [e3] at hp; exact hp.elim
          · exact hp.elim
        · rw [if_neg hC] at hp
          exact hp.elim
      · subst hk
        exact h2 w Z C fs r s t ed env st x hp
theorem s_tryN {body : List Stmt} {h0 : ExceptHandler} {hds : List ExceptHandler} {l : List Hd} {pos : Pos} {mb : DS} (hs : X.stack = X.env :: X.outer) (hf : X.env.frame = some X.env.locals) (hN : X.N.Nodup) (tk : Takes X W)
    (hb : ∀ (W' : WX) (pn : List (Addr × Obj)) (xe : Value → Shared → Prop), Takes (X.tr pn xe) W' → PassesOwn (model X.prog X.w) X.A X.env xe → PSs (X.tr pn xe) body (tS X.K W' mb))
    (hh : HdD X (h0 :: hds) l) : PS X (.Try body (h0 :: hds) [] [] pos) (tS X.K W (tryNS mb l)) := by
  obtain ⟨ls, h1, h2⟩ := hdD_go (W := W) hh
  refine PS.imp (ps_tryN (tb := fun W' => tS X.K W' mb) hs hf hN tk hb h1) fun Z t H h => ?_
  obtain ⟨r, s, w, rfl, env, st, hp⟩ := h
  refine ⟨r, s, w, rfl, env, st, ?_⟩
  unfold tryNS at hp
  cases e : mb r s with
  | exc C fs r' s' =>
    rw [e] at hp
    exact fun t' ed w' e' env' st' x' => h2 w' Z C fs r' s' t' ed env' st' x' (PostS.ext e' hp)
  | nx r' s' => rw [e] at hp; exact hp
  | rt d s' => rw [e] at hp; exact hp
  | bk r' s' => rw [e] at hp; exact hp
  | ct r' s' => rw [e] at hp; exact hp
  | bad => rw [e] at hp; exact hp
end
end Mp
set_option Elab.async false
set_option linter.all false
set_option maxRecDepth 100000
set_option maxHeartbeats 4000000
/-! Mp: a text any number of times. -/
namespace Mp
open PySem PySem.Spec PyProof.Rows L2
section
end
end Mp
set_option Elab.async false
set_option linter.all false
set_option maxRecDepth 100000
set_option maxHeartbeats 1000000
/-! Mp: zip(*rows), rows a tuple of lists of one length: at the library's level. -/
namespace ZL
open PySem RZ
open PySem.Sem (wp)
/-- iterators it, it + 1, .. over the tuples ls (below B), all at place k, with the items xs there -/
def Ready (h : Heap) (B k : Nat) : Nat → List Addr → List Value → Prop
  | _, [], xs => xs = []
  | it, l :: ls, xs => ∃ x xs', xs = x :: xs' ∧ h.IsListIter it l k ∧ @LT.lt Nat _ l B ∧ (∃ items, h.IsList l items ∧ items[k]? = some x) ∧ Ready h B k (it + 1) ls xs'
def After (h : Heap) (k : Nat) : Nat → List Addr → Prop
  | _, [] => True
  | it, l :: ls => h.IsListIter it l k ∧ After h k (it + 1) ls
theorem Ready.stay {B k : Nat} {h h' : Heap} : ∀ {ls : List Addr} {it : Nat} {xs : List Value}, (∀ (c : Nat) (o : Obj), (c < B ∨ it ≤ c ∧ c < it + ls.length) → h.get? c = some o → h'.get? c = some o) → Ready h B k it ls xs → Ready h' B k it ls xs
  | [], _, _, _, r => r
  | l :: ls, it, xs, k1, ⟨x, xs', e, h1, h2, ⟨items, ⟨o, ho, hr⟩, hx⟩, h4⟩ => ⟨x, xs', e, h1.at fun o q => k1 it o (.inr ⟨Nat.le_refl _, by simp⟩) q, h2, ⟨items, ⟨o, k1 l o (.inl h2) ho, hr⟩, hx⟩,
      Ready.stay (fun (c : Nat) (o : Obj) hc q => k1 c o (hc.imp id fun z => ⟨by omega, by simp only [List.length_cons]; omega⟩) q) h4⟩
theorem After.stay {k : Nat} {h h' : Heap} : ∀ {ls : List Addr} {it : Nat}, (∀ (c : Nat) (o : Obj), it ≤ c ∧ c < it + ls.length → h.get? c = some o → h'.get? c = some o) → After h k it ls → After h' k it ls
  | [], _, _, _ => trivial
  | l :: ls, it, k1, ⟨h1, h4⟩ => ⟨h1.at fun o q => k1 it o ⟨Nat.le_refl _, by simp⟩ q, After.stay (fun (c : Nat) (o : Obj) hc q => k1 c o ⟨by omega, by simp only [List.length_cons]; omega⟩ q) h4⟩
theorem After.get {k : Nat} {h : Heap} : ∀ {ls : List Addr} {it : Nat} {c : Nat}, After h k it ls → it ≤ c → c < it + ls.length → ∃ l, h.IsListIter c l k
  | [], it, c, _, h1, h2 => by simp at h2; omega
  | l :: ls, it, c, a, h1, h2 => by
    by_cases e : c = it
    · subst e; exact ⟨l, a.1⟩
    · exact a.2.get (by omega) (by simp only [List.length_cons] at h2; omega)
theorem Ready.after {B k : Nat} {h : Heap} : ∀ {ls : List Addr} {it : Nat} {xs : List Value}, Ready h B k it ls xs → After h k it ls
  | [], _, _, _ => trivial
  | _ :: _, _, _, ⟨_, _, _, h1, _, _, h4⟩ => ⟨h1, h4.after⟩
theorem Ready.length {B k : Nat} {h : Heap} : ∀ {ls : List Addr} {it : Nat} {xs : List Value}, Ready h B k it ls xs → xs.length = ls.length
  | [], _, _, r => by rw [show _ = [] from r]; rfl
  | _ :: _, _, _, ⟨_, _, e, _, _, _, h4⟩ => by rw [e, List.length_cons, List.length_cons, h4.length]
section
end
/-- the zip object: what it handed out last, whether it was held -/
def IsZ (h : Heap) (z TI TO : Nat) : Prop := ∃ (g0 : Value) (b : Bool), (g0 = .none ∨ ∃ T : Nat, g0 = rawInt T) ∧ h.get? z = some { cls := .type "zip", dict := none, data := .fields #[g0, .bool b, .bool false, .ref TI, .ref TO], slots := #[] }
theorem IsZ.at {h h' : Heap} {z TI TO : Nat} (x : IsZ h z TI TO) (e : ∀ o, h.get? z = some o → h'.get? z = some o) : IsZ h' z TI TO := let ⟨g, b, q, r⟩ := x; ⟨g, b, q, e _ r⟩
section
end
section
end
section
end
end ZL
set_option Elab.async false
set_option linter.all false
set_option maxRecDepth 100000
set_option maxHeartbeats 4000000
/-! Mp: zip(*rows), the rows lists or tuples. -/
namespace Mp
open PySem PySem.Spec PyProof.Rows L2
/-! ### on data -/
inductive RowRL (K : Frag) (w : Wd) : List Addr → List (List V) → List (List D) → Prop
  | nil : RowRL K w [] [] []
  | cons {a : Addr} {vs : List V} {ds : List D} {as : List Addr} {vss : List (List V)} {dss : List (List D)} : LAt K w a vs → Reps K w vs ds → RowRL K w as vss dss → RowRL K w (a :: as) (vs :: vss) (ds :: dss)
theorem RowRL.ext {K : Frag} {w w' : Wd} (e : Ext w w') : ∀ {ls : List Addr} {vss : List (List V)} {dss : List (List D)}, RowRL K w ls vss dss → RowRL K w' ls vss dss
  | _, _, _, .nil => .nil
  | _, _, _, .cons h r t => .cons (h.ext e) (r.ext e) (t.ext e)
theorem RowRL.col {K : Frag} {w : Wd} {i : Nat} : ∀ {ls : List Addr} {vss : List (List V)} {dss : List (List D)}, RowRL K w ls vss dss → (∀ r ∈ dss, i < r.length) → ∃ xs, colV i vss = some xs ∧ Reps K w xs (dss.map fun r => r.getD i .non)
  | _, _, _, .nil, _ => ⟨[], rfl, .nil⟩
  | _, _, _, .cons (vs := vs) (ds := ds) h r t, hi => by
    obtain ⟨xs, e, q⟩ := t.col fun r hr => hi r (List.mem_cons_of_mem _ hr)
    have hlt := hi ds List.mem_cons_self
    have hd : ds[i]? = some (ds.getD i .non) := by rw [List.getElem?_eq_getElem hlt, List.getD_eq_getElem?_getD, List.getElem?_eq_getElem hlt]; rfl
    obtain ⟨v, hv, rv⟩ := r.get hd
    refine ⟨v :: xs, ?_, .cons rv q⟩
    unfold colV
    rw [hv, e]
section
end
end Mp
set_option Elab.async false
set_option linter.all false
set_option maxRecDepth 100000
set_option maxHeartbeats 4000000
/-! Mp: comprehensions of two clauses, starred items of a display. -/
namespace Mp
open PySem PySem.Spec PyProof.Rows L2
open Classical in
noncomputable def lcF2 (c : Src) (g : DG) (tt : DM Bool) (mi1 : DM Src) (g1 : DG) (tt1 : DM Bool) (te : DE) (vs1 : List Nat) (r : En) : List D → List D → Sto → Res (List D)
  | [], acc, s => if SrcOk c s then .ok acc s else .bad
  | d :: l, acc, s => if SrcOk c s then (match g d r s with
    | none => .bad
    | some p => (match tt p.1 p.2 with
      | .ok k s1 => if k = true then (match mi1 p.1 s1 with
        | .ok c1 s2 => (match lcF c1 g1 tt1 te (wipeE p.1 vs1) c1.its acc s2 with
          | .ok acc2 s3 => lcF2 c g tt mi1 g1 tt1 te vs1 r l acc2 s3
          | _ => .bad)
        | _ => .bad) else lcF2 c g tt mi1 g1 tt1 te vs1 r l acc s1
      | _ => .bad)) else .bad
noncomputable def lc2M (k : Bool) (mi : DM Src) (g : DG) (tt : DM Bool) (mi1 : DM Src) (g1 : DG) (tt1 : DM Bool) (te : DE) (vs vs1 : List Nat) : DE := bindM mi fun c => fun r s => match lcF2 c g tt mi1 g1 tt1 te vs1 (wipeE r vs) c.its [] s with
  | .ok acc s' => newL k acc s'
  | _ => .bad
section
end
/-- a list, a tuple, a text that is walked within -/
def srcJ (s : Sto) : D → Option Src
  | .tup l => some ⟨l, none⟩
  | .lst l => some ⟨l, none⟩
  | .rol l => some ⟨l, none⟩
  | .str z => some ⟨chars z, none⟩
  | .cel n => (match s[n]? with
    | some (some (.lst l)) => some ⟨l, some n⟩
    | _ => none)
  | _ => none
def seqJ (a : DE) : DM Src := bindM a fun x => fun _ s => okO s (srcJ s x)
section
end
section
end
/-! ### starred items -/
def starC (e : DE) (m : DM (List D)) : DM (List D) := bindM e fun x => bindM (fun _ s => okO s (seqOf s x)) fun l => bindM m fun ys => pureM (l ++ ys)
section
end
end Mp
set_option Elab.async false
set_option linter.all false
set_option maxRecDepth 100000
set_option maxHeartbeats 4000000
/-! Mp: a dict merged into an empty one (displays with two stars, calls with two stars). -/
namespace MmX
open PySem PySem.Spec PyProof.Rows L2
section
end
section
end
end MmX
namespace Mp
open PySem PySem.Spec PyProof.Rows L2
/-- {**e} -/
def sprM (e : DE) : DE := bindM e fun x => fun _ s => match dctOf s x with
  | some m => .ok (.dct m) s
  | none => .bad
section
end
end Mp
set_option Elab.async false
set_option linter.all false
set_option maxRecDepth 100000
set_option maxHeartbeats 4000000
/-! Mp: operators and comparisons by a class's own defs. -/
namespace OwI
open PySem PySem.Spec PyProof.Rows L2
section
end
end OwI
namespace Mp
open PySem PySem.Spec PyProof.Rows L2
/-- an operator: an own def where both are instances of one class, otherwise f -/
def ownD (tb : List (Str × DF)) (f : D → D → Sto → Res D) (x y : D) (s : Sto) : Res D := match insOf s x with
  | some (C, _) => (match insOf s y with
    | some (C', _) => if C' = C then (match tb.lookup C with
      | some m => m [x, y] s
      | none => .bad) else .bad
    | none => .bad)
  | none => f x y s
def negB : Res D → Res D
  | .ok (.bl b) s => .ok (.bl (!b)) s
  | .ok _ _ => .bad
  | .exc C fs s => .exc C fs s
  | .bad => .bad
/-- == and != by an own __eq__ where both are instances -/
def eqO (neg : Bool) (tb : List ((Str × Str) × DF)) (x y : D) (s : Sto) : Res D := match insOf s x with
  | some (C, _) => (match insOf s y with
    | some (C', _) => (match tb.lookup (C, C') with
      | some m => if neg then negB (m [x, y] s) else m [x, y] s
      | none => .bad)
    | none => .bad)
  | none => eqG neg x y s
section
variable {X : Cx} {W : WX} {a b : Expr} {pos : Pos} {ma mb : DE}
/-- the rows: the def, and the class before the others of its own order -/
inductive OTab (X : Cx) (m : Str) : List (Str × DF) → Prop
  | nil : OTab X m []
  | cons {C : Str} {f : DF} {r : List (Str × DF)} : MethD X C m f → PySem.W.selfFirst X.K (He.ga X.K C) = true → OTab X m r → OTab X m ((C, f) :: r)
theorem OTab.get {m C : Str} {f : DF} : ∀ {tb : List (Str × DF)}, OTab X m tb → tb.lookup C = some f → MethD X C m f ∧ PySem.W.selfFirst X.K (He.ga X.K C) = true
  | _, .nil, h => by simp at h
  | _, .cons (C := E) h1 h2 r, h => by
    by_cases e : C = E
    · subst e
      rw [List.lookup_cons_self] at h
      cases h
      exact ⟨h1, h2⟩
    · rw [List.lookup_cons, show (C == E) = false from beq_eq_false_iff_ne.mpr e] at h
      exact r.get h
/-- rows for two classes -/
inductive QTab (X : Cx) (neg : Bool) : List ((Str × Str) × DF) → Prop
  | nil : QTab X neg []
  | cons {C C' : Str} {f : DF} {r : List ((Str × Str) × DF)} : MethD X C "__eq__" f → (∃ k, neg = true → (∃ g, Meth X.K (He.ga X.K C) "__eq__" g ∧ FnD X.prog X.w X.K X.mg X.base k g f ∧ Rm (k + 1) X.A) ∧ PySem.W.findIn X.K (.ref (He.ga X.K C)) "__ne__" = some (some (.builtin "object.__ne__")) ∧ PySem.W.subIn X.K (.ref (He.ga X.K C)) (.type "object") = some true) → PySem.W.notFirst X.K (He.ga X.K C) (.ref (He.ga X.K C')) = true → QTab X neg r → QTab X neg (((C, C'), f) :: r)
theorem QTab.get {neg : Bool} {C C' : Str} {f : DF} : ∀ {tb : List ((Str × Str) × DF)}, QTab X neg tb → tb.lookup (C, C') = some f → MethD X C "__eq__" f ∧ (∃ k, neg = true → (∃ g, Meth X.K (He.ga X.K C) "__eq__" g ∧ FnD X.prog X.w X.K X.mg X.base k g f ∧ Rm (k + 1) X.A) ∧ PySem.W.findIn X.K (.ref (He.ga X.K C)) "__ne__" = some (some (.builtin "object.__ne__")) ∧ PySem.W.subIn X.K (.ref (He.ga X.K C)) (.type "object") = some true) ∧ PySem.W.notFirst X.K (He.ga X.K C) (.ref (He.ga X.K C')) = true
  | _, .nil, h => by simp at h
  | _, .cons (C := E) (C' := E') h1 h2 h3 r, h => by
    by_cases e : (C, C') = (E, E')
    · cases e
      rw [List.lookup_cons_self] at h
      cases h
      exact ⟨h1, h2, h3⟩
    · rw [List.lookup_cons, show ((C, C') == (E, E')) = false from beq_eq_false_iff_ne.mpr e] at h
      exact r.get h
end
end Mp
set_option Elab.async false
set_option linter.all false
set_option maxRecDepth 100000
set_option maxHeartbeats 4000000
/-! Mp: dict(pairs), dict(d); get, items of dicts. -/
namespace Mp
open PySem PySem.Spec PyProof.Rows L2
section
end
section
end
end Mp
set_option Elab.async false
set_option linter.all false
set_option maxRecDepth 100000
set_option maxHeartbeats 4000000
/-! Mp: a tuple times an int; operators by own defs, the usual ones behind them; facts of own comparisons. -/
namespace TmX
open PySem PySem.Spec PyProof.Rows L2
open AutoSeq1 (wpAny_loadPart')
section
end
end TmX
namespace Mp
open PySem PySem.Spec PyProof.Rows L2
section
end
end Mp
set_option Elab.async false
set_option linter.all false
set_option maxRecDepth 100000
/-! Mp: the head's run, looked at thrice. -/
noncomputable section
namespace Mp
open PySem PySem.W PySem.Calls PyProof.Rows HandSHeadRun
def hdA (r : OpenRow) (M : Nat) (w : World) (os : OsState) : Option Bool := (endF (stepQ (denQ tabQ) r.prog w) M r.prog w os).map fun s => looksF r.prog (boot_heap w.params) s.abs
def hdB (r : OpenRow) (q : Program) (M : Nat) (loose : List PySem.Str) (w : World) (os : OsState) := (endF (stepQ (denQ tabQ) r.prog w) M r.prog w os).map fun s => seenQ q loose (importedModules r.prog.main.body) (fun s => xlAt q [] s && recOk r.toRowW.records s) s.abs
def hdC {T : Type} (r : OpenRow) (ob : SharedT → T) (M : Nat) (w : World) (os : OsState) : Option T := (endF (stepQ (denQ tabQ) r.prog w) M r.prog w os).map ob
theorem run_split {r : OpenRow} {q : Program} {H : Hook} {ob : SharedT → H.α} {M : Nat} {loose : List PySem.Str} {w : World} (a : ∀ os, hdA r M w os = some true) (b : ∀ os, hdB r q M loose w os = some (openGood q loose)) (c : ∀ os, hdC r ob M w os = some (H.val w)) : RunEq r q H ob M loose w := fun os => by
  have ha := a os
  have hb := b os
  have hc := c os
  unfold hdA at ha
  unfold hdB at hb
  unfold hdC at hc
  cases e : endF (stepQ (denQ tabQ) r.prog w) M r.prog w os with
  | none => rw [e] at ha; cases ha
  | some s =>
    rw [e] at ha hb hc
    have ha := Option.some.inj ha
    have hb := Option.some.inj hb
    have hc := Option.some.inj hc
    show some (looksF r.prog (boot_heap w.params) s.abs, seenQ q loose (importedModules r.prog.main.body) (fun s => xlAt q [] s && recOk r.toRowW.records s) s.abs, ob s) = _
    dsimp only at ha hb
    rw [ha, hb, hc]
end Mp
set_option Elab.async false
set_option linter.all false
set_option maxRecDepth 100000
/-! Mp: the head's third look, in parts. -/
noncomputable section
namespace Mp
open PySem PySem.W PySem.Calls PyProof.Rows HandSHeadRun
def fgT (n : Nat) (s : SharedT) : Frag := frM (getT s) (asM (getT s) n)
section
variable {r : OpenRow} {M : Nat} {w : World} {os : OsState} {T U : Type}
theorem hdC_pair {f : SharedT → T} {g : SharedT → U} {x : T} {y : U} (a : hdC r f M w os = some x) (b : hdC r g M w os = some y) : hdC r (fun s => (f s, g s)) M w os = some (x, y) := by
  unfold hdC at *
  cases e : endF (stepQ (denQ tabQ) r.prog w) M r.prog w os with
  | none => rw [e] at a; cases a
  | some s =>
    rw [e] at a b
    have a := Option.some.inj a
    have b := Option.some.inj b
    show some (f s, g s) = _
    rw [a, b]
theorem hdC_and {f g : SharedT → Bool} (a : hdC r f M w os = some true) (b : hdC r g M w os = some true) : hdC r (fun s => f s && g s) M w os = some true := by
  unfold hdC at *
  cases e : endF (stepQ (denQ tabQ) r.prog w) M r.prog w os with
  | none => rw [e] at a; cases a
  | some s =>
    rw [e] at a b
    have a := Option.some.inj a
    have b := Option.some.inj b
    show some (f s && g s) = _
    rw [a, b]
    rfl
theorem hdC_all {X : Type} {F : SharedT → X} {l m : List (X → Bool)} (a : hdC r (fun s => l.all fun f => f (F s)) M w os = some true) (b : hdC r (fun s => m.all fun f => f (F s)) M w os = some true) : hdC r (fun s => (l ++ m).all fun f => f (F s)) M w os = some true := by
  have h := hdC_and a b
  have e : (fun s : SharedT => (l ++ m).all fun f => f (F s)) = fun s => (l.all fun f => f (F s)) && (m.all fun f => f (F s)) := funext fun s => List.all_append
  rw [e]
  exact h
end
end Mp
set_option Elab.async false
set_option linter.all false
set_option maxRecDepth 100000
set_option maxHeartbeats 4000000
/-! Mp: defs with a parameter of two stars; calls with keywords for it. -/
namespace KwX
open PySem PySem.Spec PyProof.Rows L2
/-! ### the dict is filled -/
section
variable {prog : Program} {w : World} {A : Around} {E : Value → Shared → Prop} {d : Addr}
def kK {T : Type} (l : List (Str × T)) : List (Key × T) := l.map fun p => (.inr p.1, p.2)
end
/-! ### a new object laid ahead of a def's body, in more than one step -/
section
end
end KwX
namespace Mp
open PySem PySem.Spec PyProof.Rows L2
/-- values by position, values by keywords -/
def spDK (K : Frag) (m : DF) (vs : List V) (kvs : List (Str × V)) : Hp → VK → XK → Prop := fun H Q E => ∃ ds dks so u, u.H = H ∧ Reps K u vs ds ∧ KVR K u kvs dks ∧ StR K u so ∧ Post K (Rep K) u E Q (m (ds ++ [.dct (KwX.kK dks)]) so)
def FnDK (P : Program) (w : World) (K : Frag) (mg : Str → Option Value) (base : Heap) (k : Nat) (f : Addr) (m : DF) : Prop :=
  ∀ (A : Around) (outer : List Env) (s : Shared) (H : Hp) (us : List Value) (vs : List V) (kws : List (Str × Value)) (kvs : List (Str × V)) (Q : VK) (E : XK), Rm k A → Env0 P w K mg base A outer s H → Vals vs us → KV kvs kws → spDK K m vs kvs H Q E →
    codeAny (model P w) A (.call (.ref f) ⟨us, kws⟩) (CR (L2.CX P w) outer P w H s Q E) s
theorem FnDK.mono {P : Program} {w : World} {K : Frag} {mg : Str → Option Value} {base : Heap} {j k : Nat} {f : Addr} {m : DF} (F : FnDK P w K mg base j f m) (h : j ≤ k) : FnDK P w K mg base k f m := fun A outer s H us vs kws kvs Q E hr => F A outer s H us vs kws kvs Q E (hr.mono h)
section
end
end Mp
set_option Elab.async false
set_option linter.all false
set_option maxRecDepth 100000
set_option maxHeartbeats 4000000
/-! Mp: an own class called with keywords, with a dict behind two stars. -/
namespace KwX
open PySem PySem.Spec PyProof.Rows L2
section
end
section
end
section
end
end KwX
namespace Mp
open PySem PySem.Spec PyProof.Rows L2
section
variable {X : Cx} {W : WX} {a e : Expr} {es : List Expr} {pos p kp : Pos} {mr : DM (List D)} {me mn : DE} {x cc : Str} {k : Nat} {f : Addr} {mf : DF} {kws : List Keyword}
/-! ### keywords that are written -/
theorem ka_nil : PK X [] (tA X.K W nilA) := ⟨fun pos pins s t H Q I h => by
  obtain ⟨r, so, w, rfl, env, st, hp⟩ := h
  exact wpAny_evalAll_nil ⟨[], _, I, .nil, hp.pure st .nil⟩⟩
theorem ka_cons {nm : Option Str} (ha : PE X a (tE X.K W me)) (hr : PK X kws (tA X.K W mr)) : PK X (⟨nm, a, kp⟩ :: kws) (tA X.K W (consA me mr)) := ⟨fun pos pins s t H Q I h => (pk_cons (nm := nm) (kpos := kp) ha hr).run pos pins s t H Q I (by
  obtain ⟨r, so, w, rfl, env, st, hp⟩ := h
  exact hp.bind env st fun x d s1 w1 e1 st1 r1 hp1 => hp1.bind (env.ext e1) st1 fun y d2 s2 w2 e2 st2 r2 hp2 => hp2.pure st2 (.cons (r1.ext e2) r2))⟩
end
end Mp
set_option Elab.async false
set_option linter.all false
set_option maxRecDepth 100000
set_option maxHeartbeats 4000000
/-! Mp: dict.get, list(d), max(xs), sorted texts of any number, a dict held against an empty one. -/
namespace Mp
open PySem PySem.Spec PyProof.Rows L2
/-! ### d.get(k, x) -/
section
end
/-! ### sorted(xs) of texts, any number of them -/
section
end
/-! ### list(d) -/
section
end
/-! ### max(xs) of ints -/
section
end
/-! ### d == {} -/
section
end
/-! ### xs * n, a list of one's own -/
section
end
end Mp
set_option Elab.async false
set_option linter.all false
set_option maxRecDepth 100000
set_option maxHeartbeats 4000000
/-! Mp: sorted(xs, key=f), f a method of an own object or a function of one's own: the sort, over any law J that the calls of f keep. -/
namespace SkJ
open PySem PySem.W PySem.Calls PyProof.Rows
section
end
end SkJ
set_option Elab.async false
set_option linter.all false
set_option maxRecDepth 100000
set_option maxHeartbeats 4000000
/-! Mp: sorted(xs, key=o.m) as a rule. -/
namespace Mp
open PySem PySem.Spec PyProof.Rows L2
abbrev KP := Int × Str
def kP (p : KP) : PyData := .tuple [.int p.1, .str p.2]
def keysF (f : DF) (y : D) : List D → List KP → Sto → Res (List KP)
  | [], kd, s => .ok kd s
  | d :: l, kd, s => match f [y, d] s with
    | .ok (.tup [.int c, .str z]) s' => keysF f y l (kd ++ [(c, z)]) s'
    | _ => .bad
noncomputable def outK (kd : List KP) (l : List D) : List D := ((kd.zip l).mergeSort (PySem.W.dataLe false fun p => kP p.1)).map (·.2)
/-- the sort of the items x of the object y -/
noncomputable def sortF (f : DF) : DF := fun ds s => match ds with
  | [y, x] => (match lstOf s x with
    | some l => (match keysF f y l [] s with
      | .ok kd s' => .ok (.lst (outK kd l)) s'
      | _ => .bad)
    | none => .bad)
  | _ => .bad
section
end
end Mp
set_option Elab.async false
set_option linter.all false
set_option maxRecDepth 100000
set_option maxHeartbeats 4000000
/-! Mp: sorted(xs, key=o.m): the rule. -/
namespace Mp
open PySem PySem.Spec PyProof.Rows L2
structure MethK (X : Cx) (C m : Str) (mf : DF) : Prop where
  cls : Cls X.K (He.ga X.K C)
  ex : ∃ (g : Addr) (k : Nat), BMeth X.K (He.ga X.K C) m g ∧ FnD X.prog X.w X.K X.mg X.base k g mf ∧ Rm (k + 2) X.A
inductive KTab (X : Cx) (m : Str) : List (Str × DF) → Prop
  | nil : KTab X m []
  | cons {C : Str} {f : DF} {r : List (Str × DF)} : MethK X C m f → KTab X m r → KTab X m ((C, f) :: r)
theorem KTab.get {X : Cx} {m C : Str} {f' : DF} : ∀ {tb : List (Str × DF)}, KTab X m tb → (tb.map fun p => (p.1, sortF p.2)).lookup C = some f' → ∃ f, f' = sortF f ∧ MethK X C m f
  | _, .nil, h => by simp at h
  | _, .cons (C := E) (f := f) h1 r, h => by
    rw [List.map_cons] at h
    by_cases e : C = E
    · subst e
      rw [List.lookup_cons_self] at h
      cases h
      exact ⟨f, rfl, h1⟩
    · have hb : (C == E) = false := by simpa using e
      rw [List.lookup_cons, hb] at h
      exact r.get h
section
end
end Mp
set_option Elab.async false
set_option linter.all false
set_option maxRecDepth 100000
set_option maxHeartbeats 4000000
/-! Mp: < of two keys (number, text). -/
namespace Mp
open PySem PySem.Spec PyProof.Rows L2
section
end
end Mp
set_option Elab.async false
set_option linter.all false
set_option maxRecDepth 100000
set_option maxHeartbeats 4000000
/-! Mp: list(d.values()), list(d.items()). -/
namespace Mp
open PySem PySem.Spec PyProof.Rows L2 LiI
section
end
/-! the combinators -/
section
end
section
end
end Mp
set_option Elab.async false
set_option linter.all false
set_option maxRecDepth 100000
set_option maxHeartbeats 4000000
/-! Mp: repr of whole numbers of up to 4300 digits, and of lists and tuples of them. -/
namespace Mp
open PySem PySem.Spec PyProof.Rows L2
open PySem.Builtin
section
section
end
end
section
end
end Mp
set_option Elab.async false
set_option linter.all false
set_option maxRecDepth 100000
set_option maxHeartbeats 4000000
/-! Mp: a list comprehension whose element may raise. -/
namespace L2
open PySem PySem.Spec PyProof.Rows
section
end
section
end
section
end
end L2
namespace Mp
open PySem PySem.Spec PyProof.Rows L2
section
end
end Mp
set_option Elab.async false
set_option linter.all false
set_option maxRecDepth 100000
set_option maxHeartbeats 4000000
/-! Mp: enumerate(text). -/
namespace L2
open PySem PySem.Spec PyProof.Rows
section
end
end L2
namespace Mp
open PySem PySem.Spec PyProof.Rows L2
section
end
section
end
end Mp
set_option Elab.async false
set_option linter.all false
set_option maxRecDepth 100000
set_option maxHeartbeats 4000000
/-! Mp: zip of a list with a tuple. -/
namespace L2
open PySem PySem.Spec PyProof.Rows
end L2
namespace Mp
open PySem PySem.Spec PyProof.Rows L2
section
end
section
end
end Mp
set_option Elab.async false
set_option linter.all false
set_option maxRecDepth 100000
set_option maxHeartbeats 4000000
/-! Mp: methods with a parameter of two stars, called with keywords; str.index. -/
namespace Mp
open PySem PySem.Spec PyProof.Rows L2
section
variable {X : Cx} {W : WX} {o : Expr} {pos apos kp : Pos} {mo : DE} {m : Str} {k : Nat} {f : Addr} {mf : DF} {kws : List Keyword}
structure WMethKD (X : Cx) (C m : Str) (mf : DF) : Prop where
  cls : Cls X.K (He.ga X.K C)
  ex : ∃ (g : Addr) (k : Nat), Meth X.K (He.ga X.K C) m g ∧ FnDK X.prog X.w X.K X.mg X.base k g mf ∧ Rm k X.A
inductive WTabK (X : Cx) (m : Str) : List (Str × DF) → Prop
  | nil : WTabK X m []
  | cons {C : Str} {f : DF} {r : List (Str × DF)} : WMethKD X C m f → WTabK X m r → WTabK X m ((C, f) :: r)
theorem WTabK.get {C : Str} {f : DF} : ∀ {tb : List (Str × DF)}, WTabK X m tb → tb.lookup C = some f → WMethKD X C m f
  | _, .nil, h => by simp at h
  | _, .cons (C := E) h1 r, h => by
    by_cases e : C = E
    · subst e
      rw [List.lookup_cons_self] at h
      cases h
      exact h1
    · have hb : (C == E) = false := by simpa using e
      rw [List.lookup_cons, hb] at h
      exact r.get h
end
/-! ### list(text) -/
section
end
end Mp
set_option Elab.async false
set_option linter.all false
set_option maxRecDepth 100000
set_option maxHeartbeats 4000000
/-! Mp: dict(zip(keys, values)) of two lists. -/
namespace L2
open PySem PySem.Spec PyProof.Rows
end L2
namespace Mp
open PySem PySem.Spec PyProof.Rows L2
section
end
section
end
end Mp
set_option Elab.async false
set_option linter.all false
set_option maxRecDepth 100000
set_option maxHeartbeats 4000000
/-! Mp: split, upper, f-strings, int(text), xs[::-1], defs called by keywords in their order. -/
namespace Mp
open PySem PySem.Spec PyProof.Rows L2
section
/-! ### f-strings -/
end
/-! ### a def called by keywords, in the order of its parameters -/
def FnN (P : Program) (w : World) (K : Frag) (mg : Str → Option Value) (base : Heap) (k : Nat) (f : Addr) (ps : List Str) (m : DF) : Prop :=
  ∀ (A : Around) (outer : List Env) (s : Shared) (H : Hp) (us : List Value) (vs : List V) (Q : VK) (E : XK), Rm k A → Env0 P w K mg base A outer s H → Vals vs us → vs.length = ps.length → spD K m vs H Q E → codeAny (model P w) A (.call (.ref f) ⟨[], ps.zip us⟩) (CR (L2.CX P w) outer P w H s Q E) s
section
variable {P : Program} {w : World} {K : Frag} {mg : Str → Option Value} {base : Heap}
theorem FnN.mono {j k : Nat} {f : Addr} {ps : List Str} {m : DF} (F : FnN P w K mg base j f ps m) (h : j ≤ k) : FnN P w K mg base k f ps m := fun A outer s H us vs Q E hr => F A outer s H us vs Q E (hr.mono h)
end
section
end
/-! ### == of two dicts that are equal -/
section
end
end Mp
set_option Elab.async false
set_option linter.all false
set_option maxRecDepth 100000
set_option maxHeartbeats 4000000
/-! Mp: sorted(xs, key=lambda x: e); x in o by an own __contains__. -/
namespace Mp
open PySem PySem.Spec PyProof.Rows L2
/-- a lambda with the one parameter x -/
structure LamP (sc scope : Scope) (x : Str) : Prop where
  kind : scope.kind = .function
  co : scope.isCoroutine = false
  gen : scope.isGenerator = false
  own : ∀ y ∈ scope.names, y.2 ≠ .cell ∧ (y.2 = .local → y.1 = x)
  par : scope.names.lookup x = some .local
  free : ∀ y ∈ scope.names, y.2 = .free → sc.names.lookup y.1 = some .cell ∨ sc.names.lookup y.1 = some .free
theorem LamP.has {X : Cx} {scope : Scope} {x : Str} (L : LamP X.env.scope scope x) (ok : X.Ok) : ∀ y ∈ scope.names, y.2 = .free → ∃ c, X.env.cells.lookup y.1 = some c := fun y hy e => by
  rcases L.free y hy e with k | k
  · exact ok.has _ (.inl k)
  · exact ok.has _ (.inr k)
section
end
section
end
def tabAt (s : Sto) (i : Nat) : Option Str := match s[i]? with
  | some (some (.tab z)) => some z
  | _ => none
/-! ### x in o -/
section
end
section
end
section
end
end Mp
set_option Elab.async false
set_option linter.all false
set_option maxRecDepth 100000
set_option maxHeartbeats 4000000
/-! Mp: str(i) and f"{i}" of whole numbers of up to 4300 digits. -/
namespace Mp
open PySem PySem.Spec PyProof.Rows L2
open PySem.Builtin
section
end
section
end
end Mp
set_option Elab.async false
set_option linter.all false
set_option maxRecDepth 100000
set_option maxHeartbeats 4000000
/-! Mp: dicts with tuples as keys; min of tuples (number, text); pop() of lists; two attributes set at once. -/
namespace Mp
open PySem PySem.Spec PyProof.Rows L2
/-! ### keys -/
/-! ### {k: v}, k a tuple -/
section
end
/-! ### a dict with tuples as keys in a cell -/
theorem KVR.drop {K : Frag} {w : Wd} {T : Type} [DecidableEq T] {k : T} : ∀ {l : List (T × V)} {m : List (T × D)}, KVR K w l m → KVR K w (L2.dropK l k) (m.filter fun p => decide (p.1 ≠ k))
  | _, _, .nil => .nil
  | _, _, .cons (k := j) (l := l) (m := m) h r => by
    have ih := KVR.drop (k := k) r
    unfold L2.dropK at ih ⊢
    by_cases e : j = k
    · rw [List.filter_cons_of_neg (by simpa using e), List.filter_cons_of_neg (by simpa using e)]
      exact ih
    · rw [List.filter_cons_of_pos (by simpa using e), List.filter_cons_of_pos (by simpa using e)]
      exact .cons h ih
/-! d[k] = v -/
section
/-! d != {} -/
end
/-! ### list(d) -/
/-! ### min(xs), xs of tuples (number, text) -/
section
end
/-! ### d.pop(k) -/
end Mp
namespace DT
open PySem PyProof.Rows
section
end
end DT
namespace Mp
open PySem PySem.Spec PyProof.Rows L2
section
/-! ### xs.pop() -/
/-! ### an attribute as a target -/
end
end Mp
set_option Elab.async false
set_option linter.all false
set_option maxRecDepth 100000
set_option maxHeartbeats 4000000
/-! Mp: static methods, constants read off a class, own == and != with plain values, any value in a list of texts. -/
namespace PySem.SeqAt
open AutoSeq1 (wpAny_loadPart')
open MeetsSeq
end PySem.SeqAt
namespace Mp
open PySem PySem.Spec PyProof.Rows L2
/-! ### C.m(e, ..), m a static method -/
section
/-! ### C.f, f a constant of the class -/
end
/-! ### the head's facts -/
/-! ### == and != of an instance and a plain value -/
inductive PTab (X : Cx) (neg : Bool) : List ((Str × String) × DF) → Prop
  | nil : PTab X neg []
  | cons {C : Str} {n : String} {f : DF} {r : List ((Str × String) × DF)} : MethD X C "__eq__" f → (∃ k, neg = true → (∃ g, Meth X.K (He.ga X.K C) "__eq__" g ∧ FnD X.prog X.w X.K X.mg X.base k g f ∧ Rm (k + 1) X.A) ∧ PySem.W.findIn X.K (.ref (He.ga X.K C)) "__ne__" = some (some (.builtin "object.__ne__")) ∧ PySem.W.subIn X.K (.ref (He.ga X.K C)) (.type "object") = some true) → PySem.W.notFirst X.K (He.ga X.K C) (.type n) = true → PTab X neg r → PTab X neg (((C, n), f) :: r)
theorem PTab.get {X : Cx} {neg : Bool} {C : Str} {n : String} {f : DF} : ∀ {tb : List ((Str × String) × DF)}, PTab X neg tb → tb.lookup (C, n) = some f → MethD X C "__eq__" f ∧ (∃ k, neg = true → (∃ g, Meth X.K (He.ga X.K C) "__eq__" g ∧ FnD X.prog X.w X.K X.mg X.base k g f ∧ Rm (k + 1) X.A) ∧ PySem.W.findIn X.K (.ref (He.ga X.K C)) "__ne__" = some (some (.builtin "object.__ne__")) ∧ PySem.W.subIn X.K (.ref (He.ga X.K C)) (.type "object") = some true) ∧ PySem.W.notFirst X.K (He.ga X.K C) (.type n) = true
  | _, .nil, h => by simp at h
  | _, .cons (C := E) (n := E') h1 h2 h3 r, h => by
    by_cases e : (C, n) = (E, E')
    · cases e
      rw [List.lookup_cons_self] at h
      cases h
      exact ⟨h1, h2, h3⟩
    · rw [List.lookup_cons, show ((C, n) == (E, E')) = false from beq_eq_false_iff_ne.mpr e] at h
      exact r.get h
section
end
/-! ### any value in a list of texts -/
section
end
end Mp
set_option Elab.async false
set_option linter.all false
set_option maxRecDepth 100000
set_option maxHeartbeats 4000000
/-! Mp: o.f += e for integers. -/
namespace Mp
open PySem PySem.Spec PyProof.Rows L2
section
end
/-! ### a list and the empty list -/
def eqL0 (neg : Bool) (x y : D) (s : Sto) : Res D := match lstOf s x with
  | some l => (match lstOf s y with
    | some [] => .ok (.bl (if neg then !l.isEmpty else l.isEmpty)) s
    | _ => eqG neg x y s)
  | none => eqG neg x y s
section
variable {X : Cx} {W : WX} {a b : Expr} {pos : Pos} {ma mb : DE}
def rL0 (K : PySem.W.Frag) (neg : Bool) : R2 := fun x y H Q => ∃ p xs q, x = .ref p ∧ SqL K H p xs ∧ y = .ref q ∧ SqL K H q [] ∧ Q (.bl (if neg then !xs.isEmpty else xs.isEmpty)) H
theorem op_eqL0 (hu : X.A.units + 64 < cLine) : OpR X (compareOp .Eq) (rL0 X.K false) := by
  intro pins s σ H x y v u Q I rx ry h
  obtain ⟨p, xs, q, rfl, hx, rfl, hy, hq⟩ := h
  cases rx
  cases ry
  obtain ⟨its, r, pl, hz⟩ := I.list hx
  obtain ⟨its2, r2, pl2, hz2⟩ := I.list hy
  cases r2
  have hu1 : X.A.units < cLine := by omega
  show wpAny _ _ (richCompare .Eq _ _) _ _ _
  cases r with
  | nil => exact SeqAt.RcAt.lists (e := fun _ => true) pl.isList pl2.isList rfl hu1 (fun j h1 h2 => absurd h1 (by simp)) _ _ _ _ ⟨.bl _, H, I, rfl, hq⟩
  | cons r1 rs => exact SeqAt.RcAt.lists_lengths pl.isList pl2.isList (by simp) hu1 _ _ _ _ ⟨.bl _, H, I, rfl, hq⟩
theorem v_eqL0 {neg : Bool} {r : R2} (hr : VR2 X.K r (eqG neg)) : VR2 X.K (fun x y H Q => rL0 X.K neg x y H Q ∨ r x y H Q) (eqL0 neg) := fun w s x y d e Q E st rx ry hp => by
  unfold eqL0 at hp
  cases e1 : lstOf s d with
  | none => rw [e1] at hp; exact .inr (hr w s x y d e Q E st rx ry hp)
  | some l =>
    rw [e1] at hp
    dsimp only at hp
    cases e2 : lstOf s e with
    | none => rw [e2] at hp; exact .inr (hr w s x y d e Q E st rx ry hp)
    | some m =>
      cases m with
      | cons z m => rw [e2] at hp; exact .inr (hr w s x y d e Q E st rx ry hp)
      | nil =>
        rw [e2] at hp
        dsimp only at hp
        obtain ⟨p, vs, rfl, hq, rs⟩ := lstOf_ok st rx e1
        obtain ⟨p2, vs2, rfl, hq2, rs2⟩ := lstOf_ok st ry e2
        cases rs2
        refine .inl ⟨p, vs, p2, rfl, hq, rfl, hq2, ?_⟩
        have e0 : vs.isEmpty = l.isEmpty := by cases rs <;> rfl
        rw [e0]
        exact hp.pure st (.bl _)
theorem e_eqL0 (hu : X.A.units + 64 < cLine) (ha : PE X a (tE X.K W ma)) (hb : PE X b (tE X.K W mb)) : PE X (.Compare a [.Eq] [b] pos) (tE X.K W (binM (eqL0 false) ma mb)) := e_cmp (OpR.or (op_eqL0 hu) (OpR.or op_eq (op_eqD hu))) (v_eqL0 v_eqG) ha hb (nomark _)
theorem t_eqL0 (hu : X.A.units + 64 < cLine) (ha : PE X a (tE X.K W ma)) (hb : PE X b (tE X.K W mb)) : PT X (.Compare a [.Eq] [b] pos) (tT X.K W (blM (binM (eqL0 false) ma mb))) := t_cmp (OpR.or (op_eqL0 hu) (OpR.or op_eq (op_eqD hu))) (v_eqL0 v_eqG) ha hb (nomark _)
end
/-! ### None in a list of any things but dicts and instances -/
section
end
end Mp
set_option Elab.async false
set_option linter.all false
set_option maxRecDepth 100000
set_option maxHeartbeats 4000000
/-! Mp: lambdas that are kept in lists and called later, in the def that made them. -/
namespace Mp
open PySem PySem.Spec PyProof.Rows L2
/-! ### a lambda is made and kept -/
section
variable {X : Cx} {pins : List (Addr × Obj)} {t : L2.St} {H : Hp} {s : Shared}
abbrev anyH : HO := .ext fun _ => True
theorem lam_newT {c P : Addr} {params : Arguments} {body : Expr} {scope : Scope} {pos : Pos} {ps : Array Value} {E : Value → Shared → Prop} {Q : Value → Shared → Prop} (I : Inv X pins t H s) (TB : LamX.TabB X.base X.mg c P) (hcode : X.env.code = .ref c)
    (hP : H P = some (.tbl ps)) (ht : TriplesOk ps.toList) (ha : ∀ (p : Pos) (cv : Value), codeAmong p ps.toList = some cv → ∃ c, cv = .ref c) (hdef : defaultsOf params X.env = ([], [])) (hfree : ∀ y ∈ scope.names, y.2 = .free → ∃ c, X.env.cells.lookup y.1 = some c)
    (h : ∀ (f c' : Addr) (pm ctv : Value) (H1 : Hp) (s' : Shared), LamStep H P (X.env.qual ++ "<lambda>") ps pos c' H1 → H1 f = none → Inv X pins t (upd H1 f (.frz (lamO X params body scope pm c' ctv) anyH)) s' → Q (.ref f) s') :
    wpAny (model X.prog X.w) X.A (eval (.Lambda params body scope pos) X.env) Q E s := by
  have onP : s.heap.get? P = some { cls := .none, data := .fields ps } := I.hok P _ hP
  have nsg := I.mod.glob.keeps I.bk
  have bP := TB.bm.keeps I.bk
  have cP := TB.code.keeps I.bk
  have cl := closure_ok (scope := scope) (env := X.env) hfree
  refine PySem.W.kla_eval hdef ?_
  cases hc : codeAmong pos ps.toList with
  | none =>
    refine PySem.W.kla_makeFunction (mg := X.mg) cl I.ok.glob nsg hcode cP onP ht hc TB.gP bP fun c' ctv h' tk hx hge hlt hrec htb => ?_
    obtain ⟨c2, oc, vs, u, e2, hoc, hd, hv⟩ := hrec
    cases e2
    have hsz : s.heap.objs.size ≤ h'.objs.size := Nat.le_trans hge (Nat.le_of_lt hlt)
    have nC : H c' = none := I.hok.fresh hge
    have nP : c' ≠ P := fun z => by
      rw [z, hP] at nC
      cases nC
    have J0 := LamX.inv_table (t' := tk) (more := #[rawInt pos.line, rawInt pos.col, .ref c']) (h' := h') I hP hx htb hge ⟨oc, vs, u, hoc, hd, hv⟩
    have nf := J0.hok.fresh (Nat.le_refl _)
    have J := J0.laid (a := h'.objs.size) (o := .frz (lamO X params body scope ((X.mg "__name__").getD .none) c' ctv) anyH) (t' := tk) (h' := h'.push (lamO X params body scope ((X.mg "__name__").getD .none) c' ctv)) (fun b o e => Heap.get?_push_of_some _ e) (Nat.le_refl _)
      ⟨Heap.get?_push_size _ rfl, trivial, ⟨_, Heap.get?_push_size _ rfl⟩, fun _ _ _ _ => trivial⟩
    exact h h'.objs.size c' _ ctv _ _ (.inr ⟨nC, nP, rfl⟩) nf J
  | some cv =>
    obtain ⟨c', e⟩ := ha pos cv hc
    subst e
    refine PySem.W.kla_makeFunctionHit (mg := X.mg) cl I.ok.glob nsg hcode cP onP ht hc bP fun ctv h' tk hx hsz => ?_
    have J0 : Inv X pins t H { s with heap := h', toks := tk } := I.kept fun b o e => hx b o e
    have nf := J0.hok.fresh (Nat.le_refl _)
    have J := J0.laid (a := h'.objs.size) (o := .frz (lamO X params body scope ((X.mg "__name__").getD .none) c' ctv) anyH) (t' := tk) (h' := h'.push (lamO X params body scope ((X.mg "__name__").getD .none) c' ctv)) (fun b o e => Heap.get?_push_of_some _ e) (Nat.le_refl _)
      ⟨Heap.get?_push_size _ rfl, trivial, ⟨_, Heap.get?_push_size _ rfl⟩, fun _ _ _ _ => trivial⟩
    exact h h'.objs.size c' _ ctv H _ (.inl ⟨rfl, hc⟩) nf J
/-- the mirror: a lambda of the def y, the k-th one, over the cells cl0 -/
noncomputable def lamV (i : Nat) (y : Str) (k : Nat) (T : LamT) (cl0 : List (Str × Addr)) : DE := fun _ s => by
  classical
  exact if s[i]? = some (some (.tab y)) then .ok (.lam k T (cloFrom cl0 T.scope.names [])) s else .bad
theorem e_lamV {W : WX} {i k : Nat} {y : Str} {params : Arguments} {body : Expr} {scope : Scope} {cl0 : List (Str × Addr)} {lpos : Pos} (TB : LamX.TabB X.base X.mg (codeA X.K y) (tabA X.K y)) (hcode : X.env.code = .ref (codeA X.K y)) (hq : lamQ y = X.env.qual ++ "<lambda>")
    (L : LamX.LamS X.env.scope scope) (hdef : defaultsOf params X.env = ([], [])) (hc0 : X.env.cells = cl0) : PE X (.Lambda params body scope lpos) (tE X.K W (lamV i y k ⟨lamQ y, params, body, scope⟩ cl0)) := by
  classical
  refine ⟨fun pins s t H Q I h => ?_⟩
  obtain ⟨r, so, w, rfl, env, st, hp⟩ := h
  unfold lamV at hp
  split at hp
  rotate_left
  · exact hp.elim
  rename_i hi
  obtain ⟨P, hA, hz, eP, ps, hP, ht, ha⟩ := st.at_ i _ hi
  refine lam_newT I (eP ▸ TB) hcode hP ht (fun q cv e => (ha q cv e).imp fun _ z => z.1) hdef (L.has I.ok) fun f c pm ctv H1 s' ls hf J => ?_
  rw [← hq] at ls
  obtain ⟨w1, rfl, e1, st1, zc, hc⟩ := lam_world st hi hA hz eP hP ht ha ls
  have e2 := Wd.frz_ext st1 (o := .frz (lamO X params body scope pm c ctv) anyH) hf
  have st2 := Wd.frz_st st1 (o := .frz (lamO X params body scope pm c ctv) anyH) hf
  refine ⟨.ref f, _, J, rfl, hp (.ref f) _ (e1.trans e2) st2 ?_⟩
  subst hc0
  refine .lam (c := c) (pm := pm) (ctv := ctv) (u := anyH) Wd.frz_z ?_ (e2.Z _ zc) ((e2.H _ zc).trans hc)
  rw [Wd.frz_h]
  show some (HO.frz (PySem.W.kla_obj "<lambda>" (X.env.qual ++ "<lambda>") params body scope (cloFrom X.env.cells scope.names []) pm c ctv) anyH) = _
  rw [← hq]
end
/-! ### it is called -/
section
variable {X : Cx} {pins : List (Addr × Obj)} {t : L2.St} {H : Hp} {s : Shared}
theorem act_lamT {Ng : List Str} {qg q : Str} {sg : Scope} {g f c : Addr} {cdg pm ctv : Value} {params : Arguments} {body : Expr} {scope : Scope} {k : Nat} {a : Str} {pn : List (Addr × Obj)} {xe : Value → Shared → Prop} {W : WX} {te : DE} {r0 : En} {p1 p2 : Pos} {uo : HO}
    (I : Inv X pins t H s) (L : LamX.LamS X.env.scope scope) (eq : q = X.env.qual ++ "<lambda>") (hf : H f = some (.frz (lamO X params body scope pm c ctv) uo))
    (hbind : bindArgs (PySem.W.kla_fn "<lambda>" (X.env.qual ++ "<lambda>") params body scope (cloFrom X.env.cells scope.names []) pm (.ref c) ctv) ⟨[], []⟩ = pure [])
    (tk : Takes ((gCx X Ng qg sg g cdg s H).tr pn xe) W) (hr : Rm (k + 1) (X.A.deeper (envOfC qg sg s.heap.objs.size g cdg)))
    (hbody : ∀ (A : Around) (outer : List Env) (s : Shared) (H : Hp) (E : XK), Rm k (A.deeper (LamX.lamEnv X scope s.heap.objs.size f c)) → PE (LamX.lamCx X A outer s H E scope f c) body (tE X.K (fun cl d _ H' => E cl d H') te))
    (hN : Ng[0]? = some a) (hv : Vis sg a) (hd : (a == ("__debug__" : Str)) = false) (hcd : (a == ("__classdict__" : Str)) = false) :
    PE ((gCx X Ng qg sg g cdg s H).tr pn xe) (.Call (.Name a p1) [] [] p2) (tE X.K W (thM f c q t r0 te)) := by
  classical
  refine ⟨fun pinsZ sZ tz HZ Q IZ h => ?_⟩
  obtain ⟨rz, so, w, rfl, envz, st, hp⟩ := h
  by_cases hz : rz[0]? = some (some (D.clo f c q t r0))
  rotate_left
  · have e : thM f c q t r0 te rz so = .bad := by
      unfold thM
      rw [if_neg hz]
    rw [e] at hp
    exact hp.elim
  have e : thM f c q t r0 te rz so = te r0 so := by
    unfold thM
    rw [if_pos hz]
  rw [e] at hp
  obtain ⟨v0, hs, rv⟩ := envz.2 0 _ hz
  cases rv with
  | clo zc hc re =>
    have env0 := envR_of re
    refine wpAny_Call_Name_kw (thn ((pe_var (pos := p1) (i := 0) hN hv hd hcd).run pinsZ sZ tz w.H (fun v H1 => v = .ref f ∧ H1 = w.H) IZ ⟨.ref f, hs, rfl, rfl⟩) fun u s1 z => ?_)
    obtain ⟨v, H1, I1, r1, rfl, eH⟩ := z
    rw [eH] at I1
    obtain rfl : u = Value.ref f := r1
    have un : Un (frs X.stack) [] H w.H s.heap s1.heap := I1.base
    have at1 : s1.heap.get? f = some (lamO X params body scope pm c ctv) := (I1.hok f _ (un.frzs f _ _ hf)).1
    refine PySem.W.callWith_F0 ⟨_, _, _, _, at1⟩ ?_
    have hcq : w.H c = some (LamX.CodeO c (X.env.qual ++ "<lambda>")) := eq ▸ hc
    obtain ⟨⟨oc, vs, u2, hoc, hdc, hvc⟩, _, _⟩ := I1.hok c _ hcq
    have rc : codeAny (model X.prog X.w) (X.A.deeper (envOfC qg sg s.heap.objs.size g cdg)) (.call (.ref f) ⟨[], []⟩) (CR (L2.CX X.prog X.w) (envOfC qg sg s.heap.objs.size g cdg :: X.stack) X.prog X.w w.H s1 Q (WE W tz)) s1 := by
      refine PySem.W.kla_callFunE hr.rm.depth at1 rfl L.co L.gen rfl ⟨c, oc, vs, u2, rfl, hoc, hdc, hvc⟩ ?_
      rw [hbind]
      refine wpAny_pure ?_
      refine wpAny_newFunctionEnv (fun y m => (L.own y m).2) (fun y m => absurd m (by simp)) ?_ L.kind
      intro h₁ hns hsb
      refine ⟨I1.nolimit.fresh _ hsb, ?_⟩
      show codeAny _ _ (.expr body (LamX.lamEnv X scope s1.heap.objs.size f c)) _ _
      have kp : ∀ (b : Addr) (o : Obj), s1.heap.get? b = some o → h₁.get? b = some o := by
        intro b o e
        exact hsb.extBut b o (Nat.ne_of_lt (Heap.lt_size e)) (Heap.get?_push_of_some _ e)
      have J := LamX.lam_start2 (E := WE W tz) (f := f) (c' := c) (tk := s1.toks + ([] : List (Str × Value)).length) I L I1.env0 hr.rm.hd un hns kp
      refine PySem.W.kla_codeExpr (wpAny_mono ((hbody _ _ s1 w.H (WE W tz) (hr.deeper _)).run [] _ _ w.H Q J ⟨r0, so, w, rfl, env0, st, hp⟩) (fun v s' hq => ?_) fun e s' hq => hq)
      obtain ⟨v2, H2, J2, rv2, q2⟩ := hq
      exact ⟨v2, H2, J2.os, J2.bare, J2.base, J2.hok, rv2, q2⟩
    refine wpAny_call (codeAny_mono rc fun z s' hq => ?_)
    cases z with
    | error er => exact passAt tk tz pinsZ w.H s1 er s' I1 hq
    | ok fl =>
      cases fl with
      | ret u => exact I1.after hq
      | _ => exact hq.elim
/-- g(e), e's value a lambda of this very frame -/
noncomputable def lamCM (n : Nat) (b : DE → DS) (tab : List (LamT × DE)) (cl0 : List (Str × Addr)) (ma : DE) : DE := bindM ma fun d => fun r s => by
  classical
  exact match d with
  | .lam k T cl => (match tab[k]? with
    | some (T', te) => if T = T' ∧ cl = cloFrom cl0 T.scope.names [] then (if h : ∃ R : Res D, ∀ (f c : Addr) (t : L2.St), resF (b (thM f c T.q t r te) (some (.clo f c T.q t r) :: List.replicate n none) s) = R then h.choose else .bad) else .bad
    | none => .bad)
  | _ => .bad
theorem lamCM_eq {n : Nat} {b : DE → DS} {tab : List (LamT × DE)} {cl0 : List (Str × Addr)} {ma : DE} {r : En} {s s1 : Sto} {k : Nat} {T : LamT} {te : DE} {R : Res D} (h1 : ma r s = .ok (.lam k T (cloFrom cl0 T.scope.names [])) s1) (h2 : tab[k]? = some (T, te))
    (hR : ∀ (f c : Addr) (t : L2.St), resF (b (thM f c T.q t r te) (some (.clo f c T.q t r) :: List.replicate n none) s1) = R) : lamCM n b tab cl0 ma r s = R := by
  unfold lamCM bindM
  rw [h1]
  dsimp only
  rw [h2]
  dsimp only
  rw [if_pos ⟨rfl, rfl⟩]
  have hx : ∃ R : Res D, ∀ (f c : Addr) (t : L2.St), resF (b (thM f c T.q t r te) (some (.clo f c T.q t r) :: List.replicate n none) s1) = R := ⟨R, hR⟩
  rw [dif_pos hx]
  exact (hx.choose_spec 0 0 []).symm.trans (hR 0 0 [])
theorem e_lamC {W : WX} {x a : Str} {g : Addr} {k : Nat} {pg : Arguments} {bg : List Stmt} {sg : Scope} {kws : List (Str × V)} {fd : FuncData} {Ng : List Str} {b : DE → DS} {tab : List (LamT × DE)} {cl0 : List (Str × Addr)} {e : Expr} {ma : DE} {p pos : Pos}
    (he : PE X e (tE X.K W ma)) (F : FunD X.K x x pg bg sg [] kws g fd) (hb : Binds X.K fd [a] []) (Sg : FnScope (a :: Ng) [a] sg) (hva : Vis sg a) (hG : LamD X.prog X.w X.K X.mg X.base (a :: Ng) x sg g (k + 1) bg a b) (hg : Gl X x) (hm : X.mg x = some (.ref g))
    (hr : Rm (k + 2) X.A) (hc0 : X.env.cells = cl0)
    (htab : ∀ T te, (T, te) ∈ tab → T.q = X.env.qual ++ "<lambda>" ∧ LamX.LamS X.env.scope T.scope ∧ (∀ (q : Str) (cl : List (Str × Addr)) (pm cv ctv : Value), bindArgs (PySem.W.kla_fn "<lambda>" q T.params T.body T.scope cl pm cv ctv) ⟨[], []⟩ = pure []) ∧
      (∀ (f c : Addr) (A : Around) (outer : List Env) (s : Shared) (H : Hp) (E : XK), Rm k (A.deeper (LamX.lamEnv X T.scope s.heap.objs.size f c)) → PE (LamX.lamCx X A outer s H E T.scope f c) T.body (tE X.K (fun cl d _ H' => E cl d H') te)))
    (hdb : (x == ("__debug__" : Str)) = false := by decide) (hd : (a == ("__debug__" : Str)) = false := by decide) (hcd : (a == ("__classdict__" : Str)) = false := by decide)
    (hst : starEach [e] X.env = (false, eval e X.env) :: starEach [] X.env := by rfl) (hpl : (backTo pos (starEach [] X.env)).any (·.1) = false := by rfl) :
    PE X (.Call (.Name x p) [e] [] pos) (tE X.K W (lamCM Ng.length b tab cl0 ma)) := by
  classical
  refine ⟨fun pins s t H Q I h => ?_⟩
  obtain ⟨r, so, w, rfl, env, st, hp⟩ := h
  obtain ⟨oc, od, dV, kV, doc, pm0, an, cdv, ct, osl, rfl, lk, hcg, hD, hK⟩ := F.ex
  refine wpAny_Call_Name_kw (ld_glob I hg hm ?_ hdb)
  refine PySem.W.callWith_K (h₀ := X.base) I.ok.mod.kin F.kp ?_ hst hpl
  have hrun0 := hp.bind env st (P := fun x H1 => ∃ d s1 w1, H1 = w1.H ∧ Ext w w1 ∧ StR X.K w1 s1 ∧ Rep X.K w1 x d ∧ Post X.K (Rep X.K) w1 (fun c d H' => W c d t H') Q (lamCM Ng.length b tab cl0 (cM d) r s1)) (m := ma) fun x d s1 w1 e1 st1 r1 hp1 => ⟨d, s1, w1, rfl, e1, st1, r1, hp1⟩
  rw [hst]
  show wpAny _ _ (spliced ((false, eval e X.env) :: backTo pos (starEach [] X.env))) _ _ s
  refine Calls.spliced_cons (thn (he.run pins s t w.H _ I hrun0) fun u s1 z => ?_)
  obtain ⟨v, H1, I1, rv1, d, so1, w1, eH, e1, st1, rd, hp1⟩ := z
  subst eH
  replace hp1 : Post X.K (Rep X.K) w1 (fun c d H' => W c d t H') Q (lamCM Ng.length b tab cl0 (cM d) r so1) := hp1
  have env1 := env.ext e1
  unfold lamCM bindM cM at hp1
  dsimp only at hp1
  cases rd with
  | @lam f c kx T cl pm ctv uo zf hf zc hc =>
    dsimp only at hp1
    cases htk : tab[kx]? with
    | none => rw [htk] at hp1; exact hp1.elim
    | some pr =>
      obtain ⟨T', te⟩ := pr
      rw [htk] at hp1
      dsimp only at hp1
      split at hp1
      rotate_left
      · exact hp1.elim
      rename_i hTT
      obtain ⟨rfl, rfl⟩ := hTT
      split at hp1
      rotate_left
      · exact hp1.elim
      rename_i hx
      have hR := hx.choose_spec
      generalize hx.choose = R at hp1 hR
      obtain ⟨hTq, hL, hTb, hTe⟩ := htab T te (List.mem_of_getElem? htk)
      obtain rfl : u = Value.ref f := rv1
      subst hc0
      have hf2 : w1.H f = some (.frz (lamO X T.params T.body T.scope pm c ctv) uo) := by
        rw [hf]
        show some (HO.frz (PySem.W.kla_obj "<lambda>" T.q T.params T.body T.scope (cloFrom X.env.cells T.scope.names []) pm c ctv) uo) = _
        rw [hTq]
      refine Calls.spliced_nil ⟨I1.kIn, ?_⟩
      have rc : codeAny (model X.prog X.w) X.A (.call (.ref g) ⟨[.ref f], []⟩) (CR C8.CX0 X.stack X.prog X.w w1.H s1 Q C8.E0) s1 := by
        refine LamX.run_ofS (N := a :: Ng) (ps := [a]) (us := [.ref f]) (vs := [.ref f]) lk hcg Sg hr.rm I1.env0 (hb s1 [.ref f] I1.kIn rfl) (.cons rfl .nil) rfl fun hr' => ?_
        have hr2 : Rm (k + 1) (X.A.deeper (envOfC x sg s1.heap.objs.size g cdv)) := ⟨hr', hr.gd⟩
        refine ⟨_, (hG cdv X.A X.stack s1 w1.H (thM f c T.q t r te) hr2 fun pn xe W' p1 p2 tk => act_lamT I1 hL hTq hf2 (hTb _ _ _ _ _) tk hr2 (fun A outer s2 H2 E2 hr3 => hTe f c A outer s2 H2 E2 hr3) rfl hva hd hcd).nox, ?_⟩
        have hrun := hR f c t
        refine ⟨some (.clo f c T.q t r) :: List.replicate Ng.length none, so1, w1, rfl, ?_, st1, ?_⟩
        · exact env_start (n := Ng.length + 1) (.cons (.clo zc hc (repE_of env1)) .nil)
        · cases e : b (thM f c T.q t r te) (some (.clo f c T.q t r) :: List.replicate Ng.length none) so1 with
          | nx r' s2 =>
            rw [e] at hrun
            rw [← show Res.ok D.non s2 = R from hrun] at hp1
            exact fun t' w' e' _ st' => hp1 .non w' e' st' .non
          | rt d s2 =>
            rw [e] at hrun
            rw [← show Res.ok d s2 = R from hrun] at hp1
            exact fun v w' e' st' rv => hp1 v w' e' st' rv
          | _ =>
            rw [e] at hrun
            rw [← show Res.bad = R from hrun] at hp1
            exact hp1.elim
      refine wpAny_call (codeAny_mono rc fun z s2 hz2 => ?_)
      cases z with
      | error er => exact (show False from hz2).elim
      | ok fl =>
        cases fl with
        | ret u => exact I1.after hz2
        | _ => exact hz2.elim
  | _ => exact hp1.elim
end
/-! ### a choice as a test -/
def ifT (c a b : DM Bool) : DM Bool := bindM c fun k => if k = true then a else b
section
variable {X : Cx} {W : WX} {a b c : Expr} {pos : Pos}
theorem pt_ifExp {tc ta tb : TT} (hc : PT X c tc) (ha : PT X a ta) (hb : PT X b tb) : PT X (.IfExp c a b pos) (fun t H Q => tc t H fun k H1 => if k = true then ta t H1 Q else tb t H1 Q) := by
  refine ⟨fun pins s σ H Q I h => ?_⟩
  show wpAny _ _ (isTrue c X.env (eval c X.env) >>= fun d => if d = true then isTrue a X.env (eval a X.env) else isTrue b X.env (eval b X.env)) _ _ _
  refine wpAny_bind (thn (hc.run pins s σ H _ I h) fun d s1 ⟨H1, I1, q1⟩ => ?_)
  cases d with
  | true => exact ha.run pins s1 σ H1 Q I1 q1
  | false => exact hb.run pins s1 σ H1 Q I1 q1
theorem t_ifT {mc ma mb : DM Bool} (hc : PT X c (tT X.K W mc)) (ha : PT X a (tT X.K W ma)) (hb : PT X b (tT X.K W mb)) : PT X (.IfExp c a b pos) (tT X.K W (ifT mc ma mb)) := PT.imp (pt_ifExp hc ha hb) fun t H Q h => by
  obtain ⟨r, s, w, rfl, env, st, hp⟩ := h
  exact hp.bind env st fun x d s1 w1 e1 st1 r1 hp1 => by
    subst r1
    cases x with
    | true => exact ⟨r, s1, w1, rfl, env.ext e1, st1, hp1⟩
    | false => exact ⟨r, s1, w1, rfl, env.ext e1, st1, hp1⟩
end
/-! ### tables of lambdas, for gen.py -/
def lamsE : Nat → Str → Expr → List LamT
  | 0, _, _ => []
  | n + 1, q, e => match e with
    | .Lambda ps b sc _ => [⟨q, ps, b, sc⟩]
    | .List es _ => es.flatMap (lamsE n q)
    | .Tuple es _ _ => es.flatMap (lamsE n q)
    | .Call f as _ _ => lamsE n q f ++ as.flatMap (lamsE n q)
    | .Attribute e _ _ => lamsE n q e
    | .Subscript e _ _ => lamsE n q e
    | _ => []
def lamsS : Nat → Str → Stmt → List LamT
  | 0, _, _ => []
  | n + 1, q, st => match st with
    | .Assign _ v _ => lamsE n q v
    | .Expr v _ => lamsE n q v
    | .Return (some v) _ => lamsE n q v
    | .For _ it b o _ => lamsE n q it ++ b.flatMap (lamsS n q) ++ o.flatMap (lamsS n q)
    | .While _ b o _ => b.flatMap (lamsS n q) ++ o.flatMap (lamsS n q)
    | .If _ b o _ => b.flatMap (lamsS n q) ++ o.flatMap (lamsS n q)
    | .Try b _ o _ _ => b.flatMap (lamsS n q) ++ o.flatMap (lamsS n q)
    | _ => []
def lamsB (q : Str) (b : List Stmt) : List LamT := b.flatMap (lamsS 40 q)
def noLamT : LamT := ⟨Str.empty, ⟨[], [], none, [], [], none, []⟩, .Constant .none 0 ⟨0, 0, 0, 0⟩, default⟩
/-- one row of the table of the lambdas of a def -/
def LamRow (X : Cx) (k : Nat) (T : LamT) (te : DE) : Prop :=
  T.q = X.env.qual ++ "<lambda>" ∧ LamX.LamS X.env.scope T.scope ∧ (∀ (q : Str) (cl : List (Str × Addr)) (pm cv ctv : Value), bindArgs (PySem.W.kla_fn "<lambda>" q T.params T.body T.scope cl pm cv ctv) ⟨[], []⟩ = pure []) ∧
    (∀ (f c : Addr) (A : Around) (outer : List Env) (s : Shared) (H : Hp) (E : XK), Rm k (A.deeper (LamX.lamEnv X T.scope s.heap.objs.size f c)) → PE (LamX.lamCx X A outer s H E T.scope f c) T.body (tE X.K (fun cl d _ H' => E cl d H') te))
inductive TabOk (X : Cx) (k : Nat) : List (LamT × DE) → Prop
  | nil : TabOk X k []
  | cons {T : LamT} {te : DE} {l : List (LamT × DE)} : LamRow X k T te → TabOk X k l → TabOk X k ((T, te) :: l)
theorem TabOk.get {X : Cx} {k : Nat} : ∀ {l : List (LamT × DE)}, TabOk X k l → ∀ T te, (T, te) ∈ l → LamRow X k T te
  | _, .nil, _, _, h => by cases h
  | _, .cons h r, T, te, m => by
    rcases List.mem_cons.mp m with e | m
    · cases e
      exact h
    · exact r.get T te m
/-! ### methods called by keywords in any order -/
def pickL {α : Type} (π : List Nat) (l : List α) : List α := π.filterMap fun i => l[i]?
def pmN (n : Nat) (π : List Nat) (mk : DM (List D)) : DM (List D) := bindM mk fun es => if es.length = n then pureM (pickL π es) else fun _ _ => .bad
theorem Reps.pick {K : Frag} {w : Wd} {vs : List V} {ds : List D} (h : Reps K w vs ds) : ∀ π : List Nat, Reps K w (pickL π vs) (pickL π ds)
  | [] => .nil
  | i :: π => by
    have ih := Reps.pick h π
    unfold pickL at ih ⊢
    cases e : ds[i]? with
    | none =>
      have e2 : vs[i]? = none := by
        rw [List.getElem?_eq_none_iff] at e ⊢
        rw [h.length]
        exact e
      rw [List.filterMap_cons_none e2, List.filterMap_cons_none e]
      exact ih
    | some d =>
      obtain ⟨v, e2, r⟩ := h.get e
      rw [List.filterMap_cons_some e2, List.filterMap_cons_some e]
      exact .cons r ih
theorem vals_get : ∀ {vs : List V} {us : List Value}, Vals vs us → ∀ i : Nat, (vs[i]? = none ∧ us[i]? = none) ∨ ∃ v u, vs[i]? = some v ∧ us[i]? = some u ∧ L2.RelV v u
  | _, _, .nil, _ => .inl ⟨rfl, rfl⟩
  | _, _, .cons h _, 0 => .inr ⟨_, _, rfl, rfl, h⟩
  | _, _, .cons _ r, i + 1 => vals_get r i
theorem vals_pick {vs : List V} {us : List Value} (h : Vals vs us) : ∀ π : List Nat, Vals (pickL π vs) (pickL π us)
  | [] => .nil
  | i :: π => by
    have ih := vals_pick h π
    unfold pickL at ih ⊢
    rcases vals_get h i with ⟨e1, e2⟩ | ⟨v, d, e1, e2, r⟩
    · rw [List.filterMap_cons_none e1, List.filterMap_cons_none e2]
      exact ih
    · rw [List.filterMap_cons_some e1, List.filterMap_cons_some e2]
      exact .cons r ih
def FnP (P : Program) (w : World) (K : Frag) (mg : Str → Option Value) (base : Heap) (k : Nat) (f : Addr) (ks : List Str) (π : List Nat) (m : DF) : Prop :=
  ∀ (A : Around) (outer : List Env) (s : Shared) (H : Hp) (u0 : Value) (v0 : V) (us : List Value) (vs : List V) (Q : VK) (E : XK), Rm k A → Env0 P w K mg base A outer s H → L2.RelV v0 u0 → Vals vs us → vs.length = ks.length → spD K m (v0 :: pickL π vs) H Q E →
    codeAny (model P w) A (.call (.ref f) ⟨[u0], ks.zip us⟩) (CR (L2.CX P w) outer P w H s Q E) s
section
variable {P : Program} {w : World} {K : Frag} {mg : Str → Option Value} {base : Heap}
theorem fn_okP {x qual : Str} {params : Arguments} {body : List Stmt} {scope : Scope} {kws : List (Str × V)} {f : Addr} {fd : FuncData} {N ps ks : List Str} {π : List Nat} {k : Nat} {b : DS} (F : FunD K x qual params body scope [] kws f fd) (S : FnScope N ps scope)
    (hB : ∀ (kV doc pm : Value) (an : Option Addr) (cdv ct u0 : Value) (us : List Value), us.length = ks.length → bindArgs (PySem.W.fnOf x qual params body scope .none kV doc pm an cdv ct) ⟨[u0], ks.zip us⟩ = pure (ps.zip (u0 :: pickL π us)))
    (hπ : ∀ i ∈ π, i < ks.length) (hl : π.length + 1 = ps.length) (hbody : BodyD P w K mg base N qual scope f k body b) :
    FnP P w K mg base (k + 1) f ks π (bodyM ps.length [] N.length b) := by
  obtain ⟨oc, od, dV, kV, doc, pm, an, cdv, ct, osl, rfl, lk, hcd, hD, hK⟩ := F.ex
  rcases hD with ⟨_, rfl⟩ | ⟨e, _⟩
  rotate_left
  · exact absurd rfl e
  intro A outer s H u0 v0 us vs Q E hr e0 r0 r hlv h
  obtain ⟨ds, so, u, rfl, rs, st, hp⟩ := h
  have hp : Post K (Rep K) u E Q (bodyX N.length b ds so) := by
    unfold bodyM argsD at hp
    split at hp
    · rename_i es he
      split at he
      · cases he
        rw [List.drop_nil, List.append_nil] at hp
        exact hp
      · cases he
    · exact hp.elim
  have hul : us.length = ks.length := by rw [← r.length]; exact hlv
  have pl : ∀ π : List Nat, (∀ i ∈ π, i < ks.length) → (pickL π vs).length = π.length := by
    intro π
    induction π with
    | nil => exact fun _ => rfl
    | cons i π ih =>
      intro h
      have hi : i < vs.length := by rw [hlv]; exact h i List.mem_cons_self
      unfold pickL at ih ⊢
      rw [List.filterMap_cons_some (List.getElem?_eq_getElem hi), List.length_cons, List.length_cons, ih fun j m => h j (List.mem_cons_of_mem _ m)]
  have hlen : (v0 :: pickL π vs).length = ps.length := by rw [List.length_cons, pl π hπ, hl]
  have rr : Vals (v0 :: pickL π vs) (u0 :: pickL π us) := .cons r0 (vals_pick r π)
  refine StX.run_bnd lk hcd S hr.rm e0 (G := fun xs H2 => xs = v0 :: pickL π vs ∧ H2 = u.H) (fun A' Ex Q' h => ?_) fun s2 H2 xs hx hr' => ?_
  · rw [hB _ _ _ _ _ _ u0 us hul]
    exact wpAny_pure (h s u.H _ _ e0 Un.refl rfl (fun _ _ z => z) rr hlen ⟨rfl, rfl⟩)
  · obtain ⟨rfl, rfl⟩ := hx
    exact ⟨_, hbody cdv A outer s2 u.H E (hr.deeper _), body_end rs st hp⟩
theorem FnP.mono {j k : Nat} {f : Addr} {ks : List Str} {π : List Nat} {m : DF} (F : FnP P w K mg base j f ks π m) (h : j ≤ k) : FnP P w K mg base k f ks π m := fun A outer s H u0 v0 us vs Q E hr => F A outer s H u0 v0 us vs Q E (hr.mono h)
end
section
variable {X : Cx} {W : WX} {o : Expr} {pos apos : Pos} {mo : DE} {m : Str} {k : Nat} {f : Addr} {mf : DF} {kws : List Keyword}
structure WMethP (X : Cx) (ks : List Str) (π : List Nat) (C m : Str) (mf : DF) : Prop where
  cls : Cls X.K (He.ga X.K C)
  ex : ∃ (g : Addr) (k : Nat), Meth X.K (He.ga X.K C) m g ∧ FnP X.prog X.w X.K X.mg X.base k g ks π mf ∧ Rm k X.A
inductive WTabP (X : Cx) (ks : List Str) (π : List Nat) (m : Str) : List (Str × DF) → Prop
  | nil : WTabP X ks π m []
  | cons {C : Str} {f : DF} {r : List (Str × DF)} : WMethP X ks π C m f → WTabP X ks π m r → WTabP X ks π m ((C, f) :: r)
theorem WTabP.get {ks : List Str} {π : List Nat} {C : Str} {f : DF} : ∀ {tb : List (Str × DF)}, WTabP X ks π m tb → tb.lookup C = some f → WMethP X ks π C m f
  | _, .nil, h => by simp at h
  | _, .cons (C := E) h1 r, h => by
    by_cases e : C = E
    · subst e
      rw [List.lookup_cons_self] at h
      cases h
      exact h1
    · have hb : (C == E) = false := by simpa using e
      rw [List.lookup_cons, hb] at h
      exact r.get h
/-- o.m(k = e, ..), the names in any order -/
theorem e_methP {pl : Sem Bool} {tb : List (Str × DF)} {ks : List Str} {π : List Nat} {n : Nat} {mk : DM (List D)} (tk : Takes X W) (hn : n = ks.length) (T : WTabP X ks π m tb) (ho : PE X o (tE X.K W mo)) (hkw : PK X kws (tA X.K W mk))
    (hall : (backToKw pos (keywordEach kws X.env)).all (·.1.isSome) = true := by rfl) (hks : (backToKw pos (keywordEach kws X.env)).filterMap (·.1) = ks := by rfl)
    (hpl : ((backTo pos (starEach [] X.env)).any (·.1) || (backToKw pos (keywordEach kws X.env)).any (·.1.isNone)) = false := by rfl)
    (ht : eval (.Call (.Attribute o m apos) [] kws pos) X.env = (eval o X.env >>= fun ov => standAt apos.atName >>= fun _ => holding [ov] (getMethod ov m pl) >>= fun z => callWith pos z.1 z.2 (backTo pos (starEach [] X.env)) (backToKw pos (keywordEach kws X.env))) := by rfl) :
    PE X (.Call (.Attribute o m apos) [] kws pos) (tE X.K W (methM tb m mo (pmN n π mk))) := by
  subst hn
  refine ⟨fun pins s t H Q I h => ?_⟩
  obtain ⟨r, so, w, rfl, env, st, hp⟩ := h
  refine PySem.W.methodCall_KW (pl := pl) (meth_mid I ho env st hp fun q C f d s1 so1 w1 dx l I1 e1 st1 r1 hh g1 e2 hp1 => ?_) ht
  obtain ⟨hc, g, kk, hm, F, hr⟩ := T.get e2
  refine getmeth_ok I1 hh hc hm g1 ?_
  have hp1 : Post X.K (Rep X.K) w1 (fun c d H' => W c d t H') Q (bindM mk (fun es => fun r s => if es.length = ks.length then f (d :: pickL π es) s else .bad) r so1) := by
    have e : ∀ es : List D, (bindM (if es.length = ks.length then pureM (pickL π es) else fun _ _ => (.bad : Res (List D))) (fun es => fun _ s => f (d :: es) s)) = (fun (_ : En) s => if es.length = ks.length then f (d :: pickL π es) s else .bad) := fun es => by
      funext r s
      by_cases h : es.length = ks.length
      · rw [if_pos h, if_pos h]
        rfl
      · rw [if_neg h, if_neg h]
        rfl
    unfold pmN bindM at hp1
    unfold bindM
    cases e9 : mk r so1 with
    | ok es s2 =>
      rw [e9] at hp1
      dsimp only at hp1 ⊢
      by_cases h : es.length = ks.length
      · rw [if_pos h] at hp1 ⊢
        exact hp1
      · rw [if_neg h] at hp1 ⊢
        exact hp1
    | exc C fs s2 => rw [e9] at hp1; exact hp1
    | bad => rw [e9] at hp1; exact hp1
  refine PySem.W.callWith_KW0 (first := [.ref q]) (h₀ := X.base) I1.ok.mod.kin hm.kp hall (thn (hkw.run pos pins s1 t w1.H (fun zs H2 => ∃ es so3 w3, H2 = w3.H ∧ Ext w1 w3 ∧ StR X.K w3 so3 ∧ Reps X.K w3 zs es ∧ es.length = ks.length ∧ Post X.K (Rep X.K) w3 (fun c d H' => W c d t H') Q (f (d :: pickL π es) so3)) I1 (hp1.bind (env.ext e1) st1 fun zs es so3 w3 e3 st3 rs3 hp3 => by
    split at hp3
    · rename_i hl
      exact ⟨es, so3, w3, rfl, e3, st3, rs3, hl, hp3⟩
    · exact hp3.elim)) fun ws s2 z => ?_) hpl
  obtain ⟨zs, H3, I2, rz, es3, so3, w3, eH3, e3, st3, rs3, hl3, hp3⟩ := z
  subst eH3
  rw [hks]
  refine ⟨I2.kIn, wpAny_call (codeAny_mono (F X.A X.stack s2 w3.H (.ref q) (.ref q) ws zs Q (WE W t) hr I2.env0 rfl rz (by rw [rs3.length]; exact hl3) ⟨d :: pickL π es3, so3, w3, rfl, .cons (r1.ext e3) (rs3.pick π), st3, hp3⟩) fun z s' hz => ?_)⟩
  cases z with
  | error er => exact passAt tk t pins w3.H s2 er s' I2 hz
  | ok fl =>
    cases fl with
    | ret u => exact I2.after hz
    | _ => exact hz.elim
end
/-! ### a def whose lambdas are kept, which tells a truth and whose store holds tables alone -/
def isTab : Option Ct → Bool
  | some (.tab _) => true
  | _ => false
noncomputable def cutR (so : Sto) : Res D → Res D := fun R => by
  classical
  exact match R with
  | .ok (.bl k) s' => if s'.take so.length = so ∧ so.all isTab = true then .ok (.bl k) so else .bad
  | _ => .bad
noncomputable def bodyL (k n : Nat) (b : Nat → DS) : DF := fun ds s => by
  classical
  exact match argsD k [] ds with
  | some es => if h : ∃ R : Res D, ∀ a, cutR s (bodyX n (b a) es s) = R then h.choose else .bad
  | none => .bad
theorem bodyL_eq {k n : Nat} {b : Nat → DS} {ds es : List D} {s : Sto} {R : Res D} (h : argsD k [] ds = some es) (hR : ∀ a, cutR s (bodyX n (b a) es s) = R) : bodyL k n b ds s = R := by
  unfold bodyL
  rw [h]
  dsimp only
  have hx : ∃ R : Res D, ∀ a, cutR s (bodyX n (b a) es s) = R := ⟨R, hR⟩
  rw [dif_pos hx]
  exact (hx.choose_spec 0).symm.trans (hR 0)
section
variable {P : Program} {w : World} {K : Frag} {mg : Str → Option Value} {base : Heap}
abbrev BodyL (P : Program) (w : World) (K : Frag) (mg : Str → Option Value) (base : Heap) (N : List Str) (qual : Str) (scope : Scope) (f : Addr) (k : Nat) (body : List Stmt) (b : Nat → DS) (cv : Value) : Prop :=
  ∀ (A : Around) (outer : List Env) (s : Shared) (H : Hp) (E : XK), Rm k (A.deeper (envOfC qual scope s.heap.objs.size f cv)) → PSs (cxOf (L2.CX P w) P w K mg base N qual scope f cv A outer s H E) body (tS K (fun c d _ H' => E c d H') (b s.heap.objs.size))
theorem cut_post {so : Sto} {u : Wd} {E : XK} {Q : VK} {R : Res D} (st : StR K u so) (hp : Post K (Rep K) u E Q (cutR so R)) : Post K (Rep K) u E Q R := by
  classical
  unfold cutR at hp
  cases R with
  | bad => exact hp
  | exc C fs s' => exact hp.elim
  | ok d s' =>
    cases d with
    | bl k =>
      dsimp only at hp
      split at hp
      rotate_left
      · exact hp.elim
      rename_i h
      obtain ⟨h1, h2⟩ := h
      intro x w' e st' rv
      let w2 : Wd := ⟨fun m => if m < so.length then w'.A m else none, w'.Z, w'.P, w'.H⟩
      have old : ∀ m, m < so.length → s'[m]? = so[m]? := fun m hm => by
        conv => rhs; rw [← h1]
        rw [List.getElem?_take_of_lt hm]
      have lt : ∀ {m : Nat} {ct : Ct}, so[m]? = some (some ct) → m < so.length := fun q => (List.getElem?_eq_some_iff.mp q).1
      have eA : ∀ {m : Nat}, m < so.length → w2.A m = w'.A m := fun hm => if_pos hm
      have e2 : Ext u w2 := ⟨⟨fun m a q => by
        have hm : m < so.length := Nat.lt_of_not_le fun z => by rw [st.new m z] at q; cases q
        rw [eA hm]
        exact e.A m a q, e.Z, e.H⟩, e.P, e.HP⟩
      have st2 : StR K w2 so := by
        refine ⟨fun m ct q => ?_, fun m ct a q hq => ?_, st'.pz, fun m k a c d qm qk hm hk => ?_, st'.fz, fun m hm => if_neg (by omega), st'.pt⟩
        · have hm := lt q
          have ht : isTab (some ct) = true := List.all_eq_true.mp h2 _ (List.mem_of_getElem? q)
          cases ct with
          | tab y =>
            obtain ⟨a, k1, k2, k3⟩ := st'.at_ m _ ((old m hm).trans q)
            exact ⟨a, (eA hm).trans k1, k2, k3⟩
          | _ => cases ht
        · have hm := lt q
          exact st'.np m ct a ((old m hm).trans q) ((eA hm).symm.trans hq)
        · have hm' := lt qm
          have hk' := lt qk
          exact st'.inj m k a c d ((old m hm').trans qm) ((old k hk').trans qk) ((eA hm').symm.trans hm) ((eA hk').symm.trans hk)
      cases rv with
      | bl _ => exact hp (.bl k) w2 e2 st2 (.bl k)
    | _ => exact hp.elim
theorem fn_okL {x qual y : Str} {params : Arguments} {body : List Stmt} {scope : Scope} {kws : List (Str × V)} {fd : FuncData} {N ps : List Str} {k : Nat} {b : Nat → DS} (F : FunD K x qual params body scope [] kws (He.ga K y) fd) (S : FnScope N ps scope)
    (hB : ∀ (kV doc pm : Value) (an : Option Addr) (cdv ct : Value) (us : List Value), us.length = ps.length → bindArgs (PySem.W.fnOf x qual params body scope .none kV doc pm an cdv ct) ⟨us, []⟩ = pure (ps.zip us)) (hbody : BodyL P w K mg base N qual scope (He.ga K y) k body b (codeV K y)) :
    FnD P w K mg base (k + 1) (He.ga K y) (bodyL ps.length N.length b) := by
  classical
  have hbind := F.bindsN hB
  obtain ⟨oc, od, dV, kV, doc, pm, an, cdv, ct, osl, rfl, lk, hcd, hD1, hK⟩ := F.ex
  have ecv : codeV K y = cdv := by
    unfold codeV
    rw [lk]
  rw [ecv] at hbody
  intro A outer s H us vs Q E hr e0 r h
  obtain ⟨ds, so, u, rfl, rs, st, hp⟩ := h
  unfold bodyL argsD at hp
  have l1 := rs.length
  split at hp
  rotate_left
  · exact hp.elim
  rename_i es he
  split at he
  rotate_left
  · cases he
  rename_i hc
  cases he
  have hlen : vs.length = ps.length := by
    have := hc.1
    have := hc.2
    simp at this
    omega
  rw [List.drop_nil, List.append_nil] at hp
  split at hp
  rotate_left
  · exact hp.elim
  rename_i hx
  have hR := hx.choose_spec
  generalize hx.choose = R at hp hR
  have rl := r.length
  refine StX.run_bnd lk hcd S hr.rm e0 (G := fun xs H2 => xs = vs ∧ H2 = u.H) (fun A' Ex Q' h => ?_) fun s2 H2 xs hx hr' => ?_
  · have z := hbind s us (e0.mod.kin.keeps fun b o e => (e0.bs b o e).1) (by rw [List.append_nil]; omega)
    rw [List.append_nil] at z
    exact z _ _ _ _ (h s u.H _ _ e0 Un.refl rfl (fun _ _ z => z) r hlen ⟨rfl, rfl⟩)
  · obtain ⟨rfl, rfl⟩ := hx
    have hp2 := cut_post st (by rw [hR s2.heap.objs.size]; exact hp : Post K (Rep K) u E Q (cutR so (bodyX N.length (b s2.heap.objs.size) ds so)))
    exact ⟨_, hbody A outer s2 u.H E (hr.deeper _), body_end rs st hp2⟩
end
end Mp
set_option Elab.async false
set_option linter.all false
set_option maxRecDepth 100000
set_option maxHeartbeats 0
namespace G
open PySem PySem.Spec PyProof.Rows L2 Mp
abbrev PP : Program := (PySem.Challenge.rw_firstanswers_k06_numbers_refused).prog
def top (i : Nat) : Stmt := PySem.Challenge.pw_firstanswers_k06_numbers_refused.main.body.getD i (.Pass ⟨0, 0, 0, 0⟩)
theorem takes_blk {X : Cx} : Takes X W0 := fun u s' ⟨_, _, _, _, _, _, _, _, _, _, _, _, _, _, _, _, z⟩ => z.elim
theorem raise_row1 {T : FuncData → Prop} {C : Prop} (h : ∃ fd, T fd) (k : ∀ fd, T fd → C) : C := h.elim k
abbrev s_InvalidNumber___init__ : Stmt := inClass (top 3) 0
def d_InvalidNumber___init__ : DefM := ⟨fun K => He.ma K (He.ga K "InvalidNumber") "__init__", "__init__", "InvalidNumber.__init__", defArgs s_InvalidNumber___init__, defBody s_InvalidNumber___init__, defScope s_InvalidNumber___init__, [], none⟩
abbrev s_InvalidPrime___init__ : Stmt := inClass (top 2) 0
def d_InvalidPrime___init__ : DefM := ⟨fun K => He.ma K (He.ga K "InvalidPrime") "__init__", "__init__", "InvalidPrime.__init__", defArgs s_InvalidPrime___init__, defBody s_InvalidPrime___init__, defScope s_InvalidPrime___init__, [], none⟩
abbrev s_NoQuotient___init__ : Stmt := inClass (top 5) 0
def d_NoQuotient___init__ : DefM := ⟨fun K => He.ma K (He.ga K "NoQuotient") "__init__", "__init__", "NoQuotient.__init__", defArgs s_NoQuotient___init__, defBody s_NoQuotient___init__, defScope s_NoQuotient___init__, [], none⟩
abbrev s_Field___init__ : Stmt := inClass (top 26) 1
def d_Field___init__ : DefM := ⟨fun K => He.ma K (He.ga K "Field") "__init__", "__init__", "Field.__init__", defArgs s_Field___init__, defBody s_Field___init__, defScope s_Field___init__, [], none⟩
abbrev s_common_divisor : Stmt := top 17
def d_common_divisor : DefM := ⟨fun K => He.ga K "common_divisor", "common_divisor", "common_divisor", defArgs s_common_divisor, defBody s_common_divisor, defScope s_common_divisor, [], none⟩
abbrev s_is_integer : Stmt := top 11
def d_is_integer : DefM := ⟨fun K => He.ga K "is_integer", "is_integer", "is_integer", defArgs s_is_integer, defBody s_is_integer, defScope s_is_integer, [], none⟩
abbrev s_Fractions_is_any : Stmt := inClass (top 27) 1
def d_Fractions_is_any : DefM := ⟨fun K => He.ma K (He.ga K "Fractions") "is_any", "is_any", "Fractions.is_any", defArgs s_Fractions_is_any, defBody s_Fractions_is_any, defScope s_Fractions_is_any, [], none⟩
abbrev s_is_between : Stmt := top 12
def d_is_between : DefM := ⟨fun K => He.ga K "is_between", "is_between", "is_between", defArgs s_is_between, defBody s_is_between, defScope s_is_between, [], none⟩
abbrev s_Modulo_is_any : Stmt := inClass (top 28) 1
def d_Modulo_is_any : DefM := ⟨fun K => He.ma K (He.ga K "Modulo") "is_any", "is_any", "Modulo.is_any", defArgs s_Modulo_is_any, defBody s_Modulo_is_any, defScope s_Modulo_is_any, [], none⟩
abbrev s_parts_of : Stmt := top 18
def d_parts_of : DefM := ⟨fun K => He.ga K "parts_of", "parts_of", "parts_of", defArgs s_parts_of, defBody s_parts_of, defScope s_parts_of, [], none⟩
abbrev s_ten_to : Stmt := top 23
def d_ten_to : DefM := ⟨fun K => He.ga K "ten_to", "ten_to", "ten_to", defArgs s_ten_to, defBody s_ten_to, defScope s_ten_to, [], none⟩
abbrev s_is_short : Stmt := top 24
def d_is_short : DefM := ⟨fun K => He.ga K "is_short", "is_short", "is_short", defArgs s_is_short, defBody s_is_short, defScope s_is_short, [], none⟩
abbrev s_Field_is_number : Stmt := inClass (top 26) 14
def d_Field_is_number : DefM := ⟨fun K => He.ma K (He.ga K "Field") "is_number", "is_number", "Field.is_number", defArgs s_Field_is_number, defBody s_Field_is_number, defScope s_Field_is_number, [], none⟩
abbrev s_Field_need_numbers : Stmt := inClass (top 26) 13
def d_Field_need_numbers : DefM := ⟨fun K => He.ma K (He.ga K "Field") "need_numbers", "need_numbers", "Field.need_numbers", defArgs s_Field_need_numbers, defBody s_Field_need_numbers, defScope s_Field_need_numbers, [], none⟩
abbrev s_fraction : Stmt := top 19
def d_fraction : DefM := ⟨fun K => He.ga K "fraction", "fraction", "fraction", defArgs s_fraction, defBody s_fraction, defScope s_fraction, [], none⟩
abbrev s_Fractions_add : Stmt := inClass (top 27) 2
def d_Fractions_add : DefM := ⟨fun K => He.ma K (He.ga K "Fractions") "add", "add", "Fractions.add", defArgs s_Fractions_add, defBody s_Fractions_add, defScope s_Fractions_add, [], none⟩
abbrev s_Fractions_negative : Stmt := inClass (top 27) 3
def d_Fractions_negative : DefM := ⟨fun K => He.ma K (He.ga K "Fractions") "negative", "negative", "Fractions.negative", defArgs s_Fractions_negative, defBody s_Fractions_negative, defScope s_Fractions_negative, [], none⟩
abbrev s_Modulo_add : Stmt := inClass (top 28) 2
def d_Modulo_add : DefM := ⟨fun K => He.ma K (He.ga K "Modulo") "add", "add", "Modulo.add", defArgs s_Modulo_add, defBody s_Modulo_add, defScope s_Modulo_add, [], none⟩
abbrev s_Modulo_negative : Stmt := inClass (top 28) 3
def d_Modulo_negative : DefM := ⟨fun K => He.ma K (He.ga K "Modulo") "negative", "negative", "Modulo.negative", defArgs s_Modulo_negative, defBody s_Modulo_negative, defScope s_Modulo_negative, [], none⟩
abbrev s_Field_subtract : Stmt := inClass (top 26) 11
def d_Field_subtract : DefM := ⟨fun K => He.ma K (He.ga K "Field") "subtract", "subtract", "Field.subtract", defArgs s_Field_subtract, defBody s_Field_subtract, defScope s_Field_subtract, [], none⟩
abbrev s_Field_minus : Stmt := inClass (top 26) 16
def d_Field_minus : DefM := ⟨fun K => He.ma K (He.ga K "Field") "minus", "minus", "Field.minus", defArgs s_Field_minus, defBody s_Field_minus, defScope s_Field_minus, [], none⟩
abbrev s_Fractions_divide : Stmt := inClass (top 27) 5
def d_Fractions_divide : DefM := ⟨fun K => He.ma K (He.ga K "Fractions") "divide", "divide", "Fractions.divide", defArgs s_Fractions_divide, defBody s_Fractions_divide, defScope s_Fractions_divide, [], none⟩
abbrev s_power : Stmt := top 20
def d_power : DefM := ⟨fun K => He.ga K "power", "power", "power", defArgs s_power, defBody s_power, defScope s_power, [], none⟩
abbrev s_Modulo_divide : Stmt := inClass (top 28) 5
def d_Modulo_divide : DefM := ⟨fun K => He.ma K (He.ga K "Modulo") "divide", "divide", "Modulo.divide", defArgs s_Modulo_divide, defBody s_Modulo_divide, defScope s_Modulo_divide, [], none⟩
abbrev s_Field_over : Stmt := inClass (top 26) 18
def d_Field_over : DefM := ⟨fun K => He.ma K (He.ga K "Field") "over", "over", "Field.over", defArgs s_Field_over, defBody s_Field_over, defScope s_Field_over, [], none⟩
abbrev s_Field_plus : Stmt := inClass (top 26) 15
def d_Field_plus : DefM := ⟨fun K => He.ma K (He.ga K "Field") "plus", "plus", "Field.plus", defArgs s_Field_plus, defBody s_Field_plus, defScope s_Field_plus, [], none⟩
abbrev s_Fractions_multiply : Stmt := inClass (top 27) 4
def d_Fractions_multiply : DefM := ⟨fun K => He.ma K (He.ga K "Fractions") "multiply", "multiply", "Fractions.multiply", defArgs s_Fractions_multiply, defBody s_Fractions_multiply, defScope s_Fractions_multiply, [], none⟩
abbrev s_Modulo_multiply : Stmt := inClass (top 28) 4
def d_Modulo_multiply : DefM := ⟨fun K => He.ma K (He.ga K "Modulo") "multiply", "multiply", "Modulo.multiply", defArgs s_Modulo_multiply, defBody s_Modulo_multiply, defScope s_Modulo_multiply, [], none⟩
abbrev s_Field_times : Stmt := inClass (top 26) 17
def d_Field_times : DefM := ⟨fun K => He.ma K (He.ga K "Field") "times", "times", "Field.times", defArgs s_Field_times, defBody s_Field_times, defScope s_Field_times, [], none⟩
abbrev s_Field_total : Stmt := inClass (top 26) 19
def d_Field_total : DefM := ⟨fun K => He.ma K (He.ga K "Field") "total", "total", "Field.total", defArgs s_Field_total, defBody s_Field_total, defScope s_Field_total, [], none⟩
abbrev s_Fractions___init__ : Stmt := inClass (top 27) 0
def d_Fractions___init__ : DefM := ⟨fun K => He.ma K (He.ga K "Fractions") "__init__", "__init__", "Fractions.__init__", defArgs s_Fractions___init__, defBody s_Fractions___init__, defScope s_Fractions___init__, [], some "Fractions"⟩
abbrev s_is_witness : Stmt := top 21
def d_is_witness : DefM := ⟨fun K => He.ga K "is_witness", "is_witness", "is_witness", defArgs s_is_witness, defBody s_is_witness, defScope s_is_witness, [], none⟩
abbrev s_is_prime : Stmt := top 22
def d_is_prime : DefM := ⟨fun K => He.ga K "is_prime", "is_prime", "is_prime", defArgs s_is_prime, defBody s_is_prime, defScope s_is_prime, [], none⟩
abbrev s_Modulo___init__ : Stmt := inClass (top 28) 0
def d_Modulo___init__ : DefM := ⟨fun K => He.ma K (He.ga K "Modulo") "__init__", "__init__", "Modulo.__init__", defArgs s_Modulo___init__, defBody s_Modulo___init__, defScope s_Modulo___init__, [], some "Modulo"⟩
abbrev s__law_draw : Stmt := top 31
def d__law_draw : DefM := ⟨fun K => He.ga K "_law_draw", "_law_draw", "_law_draw", defArgs s__law_draw, defBody s__law_draw, defScope s__law_draw, [], none⟩
abbrev s__law_pick : Stmt := top 32
def d__law_pick : DefM := ⟨fun K => He.ga K "_law_pick", "_law_pick", "_law_pick", defArgs s__law_pick, defBody s__law_pick, defScope s__law_pick, [], none⟩
abbrev s__law_tens : Stmt := top 37
def d__law_tens : DefM := ⟨fun K => He.ga K "_law_tens", "_law_tens", "_law_tens", defArgs s__law_tens, defBody s__law_tens, defScope s__law_tens, [], none⟩
abbrev s__law_far : Stmt := top 36
def d__law_far : DefM := ⟨fun K => He.ga K "_law_far", "_law_far", "_law_far", defArgs s__law_far, defBody s__law_far, defScope s__law_far, [], none⟩
abbrev s__law_number : Stmt := top 34
def d__law_number : DefM := ⟨fun K => He.ga K "_law_number", "_law_number", "_law_number", defArgs s__law_number, defBody s__law_number, defScope s__law_number, [], none⟩
abbrev s__law_signed : Stmt := top 38
def d__law_signed : DefM := ⟨fun K => He.ga K "_law_signed", "_law_signed", "_law_signed", defArgs s__law_signed, defBody s__law_signed, defScope s__law_signed, [], none⟩
abbrev s__law_gcd : Stmt := top 39
def d__law_gcd : DefM := ⟨fun K => He.ga K "_law_gcd", "_law_gcd", "_law_gcd", defArgs s__law_gcd, defBody s__law_gcd, defScope s__law_gcd, [], none⟩
abbrev s__law_told : Stmt := top 40
def d__law_told : DefM := ⟨fun K => He.ga K "_law_told", "_law_told", "_law_told", defArgs s__law_told, defBody s__law_told, defScope s__law_told, [], none⟩
abbrev s__law_any_number : Stmt := top 41
def d__law_any_number : DefM := ⟨fun K => He.ga K "_law_any_number", "_law_any_number", "_law_any_number", defArgs s__law_any_number, defBody s__law_any_number, defScope s__law_any_number, [], none⟩
abbrev s__law_prime : Stmt := top 33
def d__law_prime : DefM := ⟨fun K => He.ga K "_law_prime", "_law_prime", "_law_prime", defArgs s__law_prime, defBody s__law_prime, defScope s__law_prime, [], none⟩
abbrev s__law_any_prime : Stmt := top 43
def d__law_any_prime : DefM := ⟨fun K => He.ga K "_law_any_prime", "_law_any_prime", "_law_any_prime", defArgs s__law_any_prime, defBody s__law_any_prime, defScope s__law_any_prime, [], none⟩
abbrev s__law_is_whole : Stmt := top 44
def d__law_is_whole : DefM := ⟨fun K => He.ga K "_law_is_whole", "_law_is_whole", "_law_is_whole", defArgs s__law_is_whole, defBody s__law_is_whole, defScope s__law_is_whole, [], none⟩
abbrev s__law_is_number : Stmt := top 45
def d__law_is_number : DefM := ⟨fun K => He.ga K "_law_is_number", "_law_is_number", "_law_is_number", defArgs s__law_is_number, defBody s__law_is_number, defScope s__law_is_number, [], none⟩
abbrev s__law_first_wrong : Stmt := top 47
def d__law_first_wrong : DefM := ⟨fun K => He.ga K "_law_first_wrong", "_law_first_wrong", "_law_first_wrong", defArgs s__law_first_wrong, defBody s__law_first_wrong, defScope s__law_first_wrong, [], none⟩
abbrev s__law_made_field : Stmt := top 42
def d__law_made_field : DefM := ⟨fun K => He.ga K "_law_made_field", "_law_made_field", "_law_made_field", defArgs s__law_made_field, defBody s__law_made_field, defScope s__law_made_field, [], none⟩
abbrev s__law_odd : Stmt := top 35
def d__law_odd : DefM := ⟨fun K => He.ga K "_law_odd", "_law_odd", "_law_odd", defArgs s__law_odd, defBody s__law_odd, defScope s__law_odd, [], none⟩
abbrev s__law_pen : Stmt := top 30
def d__law_pen : DefM := ⟨fun K => He.ga K "_law_pen", "_law_pen", "_law_pen", defArgs s__law_pen, defBody s__law_pen, defScope s__law_pen, [], none⟩
abbrev s__law_told_of : Stmt := top 46
def d__law_told_of : DefM := ⟨fun K => He.ga K "_law_told_of", "_law_told_of", "_law_told_of", defArgs s__law_told_of, defBody s__law_told_of, defScope s__law_told_of, [], none⟩
abbrev s_law : Stmt := top 48
def d_law : DefM := ⟨fun K => He.ga K "law", "law", "law", defArgs s_law, defBody s_law, defScope s_law, [], none⟩
def it0 : Isi := ⟨["Fractions", "Modulo"], [(("Fractions", "Field"), true), (("Fractions", "Fractions"), true), (("Fractions", "Modulo"), false), (("Modulo", "Field"), true), (("Modulo", "Fractions"), false), (("Modulo", "Modulo"), true)], ["Field", "Fractions", "Modulo"], [(("Fractions", "int"), false), (("Fractions", "bool"), false), (("Fractions", "str"), false), (("Fractions", "tuple"), false), (("Fractions", "list"), false), (("Fractions", "dict"), false), (("Modulo", "int"), false), (("Modulo", "bool"), false), (("Modulo", "str"), false), (("Modulo", "tuple"), false), (("Modulo", "list"), false), (("Modulo", "dict"), false)]⟩
def fn0 : List (DefM) := [d_InvalidNumber___init__, d_InvalidPrime___init__, d_NoQuotient___init__, d_Field___init__, d_common_divisor, d_is_integer, d_Fractions_is_any, d_is_between, d_Modulo_is_any, d_parts_of, d_ten_to, d_is_short, d_Field_is_number, d_Field_need_numbers, d_fraction, d_Fractions_add, d_Fractions_negative, d_Modulo_add, d_Modulo_negative, d_Field_subtract, d_Field_minus, d_Fractions_divide, d_power, d_Modulo_divide, d_Field_over]
def fn1 : List (DefM) := [d_Field_plus, d_Fractions_multiply, d_Modulo_multiply, d_Field_times, d_Field_total, d_Fractions___init__, d_is_witness, d_is_prime, d_Modulo___init__, d__law_draw, d__law_pick, d__law_tens, d__law_far, d__law_number, d__law_signed, d__law_gcd, d__law_told, d__law_any_number, d__law_prime, d__law_any_prime, d__law_is_whole, d__law_is_number, d__law_first_wrong, d__law_made_field, d__law_odd]
def fn2 : List (DefM) := [d__law_pen, d__law_told_of, d_law]
def fn : List (DefM) := fn0 ++ fn1 ++ fn2
def fb0 : List (Frag → Bool) := [ckF (.free "ValueError"), ckExc "InvalidNumber" "ValueError.__new__" mValue, ckF (.noat "InvalidNumber" "value"), ckExc "InvalidPrime" "ValueError.__new__" mValue, ckF (.noat "InvalidPrime" "value"), ckF (.free "ArithmeticError"), ckExc "NoQuotient" "ArithmeticError.__new__" mArith, ckF (.cls "Modulo"), ckF (.noat "Modulo" "own_prime"), ckF (.cls "Fractions"), ckF (.noat "Fractions" "own_prime"), ckF (.free "abs"), ckF (.free "int"), ckF (.free "isinstance"), ckF (.free "bool"), ckF (.free "tuple"), ckF (.glo "is_integer"), ckF (.free "len"), ckF (.free "all"), ckF (.glo "common_divisor"), ckF (.glo "is_between"), ckF (.free "range"), ckF (.glo "ten_to"), ckF (.glo "parts_of"), ckF (.meth "Modulo" "is_any")]
def fb1 : List (Frag → Bool) := [ckF (.meth "Fractions" "is_any"), ckF (.int "MAX_DIGITS" 100), ckF (.glo "is_short"), fun K => decide (He.ma K (He.ga K "Fractions") "is_number" = (fun K => He.ma K (He.ga K "Field") "is_number") K), fun K => decide (He.ma K (He.ga K "Modulo") "is_number" = (fun K => He.ma K (He.ga K "Field") "is_number") K), ckF (.meth "Modulo" "is_number"), ckF (.meth "Fractions" "is_number"), ckF (.glo "InvalidNumber"), fun K => decide (He.ma K (He.ga K "Fractions") "need_numbers" = (fun K => He.ma K (He.ga K "Field") "need_numbers") K), fun K => decide (He.ma K (He.ga K "Modulo") "need_numbers" = (fun K => He.ma K (He.ga K "Field") "need_numbers") K), ckF (.glo "fraction"), ckF (.meth "Modulo" "add"), ckF (.meth "Fractions" "add"), ckF (.meth "Modulo" "negative"), ckF (.meth "Fractions" "negative"), fun K => decide (He.ma K (He.ga K "Fractions") "subtract" = (fun K => He.ma K (He.ga K "Field") "subtract") K), fun K => decide (He.ma K (He.ga K "Modulo") "subtract" = (fun K => He.ma K (He.ga K "Field") "subtract") K), ckF (.meth "Modulo" "need_numbers"), ckF (.meth "Fractions" "need_numbers"), ckF (.meth "Modulo" "subtract"), ckF (.meth "Fractions" "subtract"), fun K => decide (He.ma K (He.ga K "Fractions") "minus" = (fun K => He.ma K (He.ga K "Field") "minus") K), fun K => decide (He.ma K (He.ga K "Modulo") "minus" = (fun K => He.ma K (He.ga K "Field") "minus") K), ckF (.glo "power"), ckF (.glo "NoQuotient")]
def fb2 : List (Frag → Bool) := [ckF (.meth "Modulo" "divide"), ckF (.meth "Fractions" "divide"), fun K => decide (He.ma K (He.ga K "Fractions") "over" = (fun K => He.ma K (He.ga K "Field") "over") K), fun K => decide (He.ma K (He.ga K "Modulo") "over" = (fun K => He.ma K (He.ga K "Field") "over") K), fun K => decide (He.ma K (He.ga K "Fractions") "plus" = (fun K => He.ma K (He.ga K "Field") "plus") K), fun K => decide (He.ma K (He.ga K "Modulo") "plus" = (fun K => He.ma K (He.ga K "Field") "plus") K), ckF (.meth "Modulo" "multiply"), ckF (.meth "Fractions" "multiply"), fun K => decide (He.ma K (He.ga K "Fractions") "times" = (fun K => He.ma K (He.ga K "Field") "times") K), fun K => decide (He.ma K (He.ga K "Modulo") "times" = (fun K => He.ma K (He.ga K "Field") "times") K), ckBm "Modulo" "need_numbers", ckBm "Fractions" "need_numbers", fun K => decide (He.ma K (He.ga K "Fractions") "total" = (fun K => He.ma K (He.ga K "Field") "total") K), fun K => decide (He.ma K (He.ga K "Modulo") "total" = (fun K => He.ma K (He.ga K "Field") "total") K), ckSup "Fractions" "Fractions" "__init__" (fun K => He.ma K (He.ga K "Field") "__init__"), ckF (.free "super"), ckF (.int "MAX_PRIME" 1000000000), ckF (.glo "SMALL_PRIMES"), ckTup "SMALL_PRIMES" [.int 2, .int 3, .int 5, .int 7, .int 11, .int 13, .int 17, .int 19, .int 23, .int 29, .int 31, .int 37], ckF (.glo "WITNESSES"), ckTup "WITNESSES" [.int 2, .int 3, .int 5, .int 7], ckF (.glo "is_witness"), ckF (.free "any"), ckF (.glo "is_prime"), ckF (.glo "InvalidPrime")]
def fb3 : List (Frag → Bool) := [ckSup "Modulo" "Modulo" "__init__" (fun K => He.ma K (He.ga K "Field") "__init__"), ckF (.glo "_law_draw"), ckF (.glo "_law_pick"), ckF (.glo "_law_tens"), ckF (.glo "_law_gcd"), ckF (.glo "_law_number"), ckF (.glo "_law_signed"), ckF (.glo "_law_far"), ckF (.free "max"), ckF (.glo "_law_told"), ckF (.glo "_law_prime"), ckF (.glo "_law_is_whole"), ckF (.glo "_law_is_number"), ckSys, ckF (.free "repr"), ckF (.mkr "Fractions"), ckF (.glo "Fractions"), ckF (.mkr "Modulo"), ckF (.glo "Modulo"), ckF (.free "list"), ckExm (fun K => .ref (He.ga K "InvalidNumber")) [("InvalidNumber", true), ("InvalidPrime", false), ("NoQuotient", false)], ckXc "InvalidNumber", ckKt "InvalidNumber" [("ValueError", true), ("LookupError", false), ("ArithmeticError", false), ("OverflowError", false), ("RuntimeError", false)], ckExm (fun K => .ref (He.ga K "NoQuotient")) [("InvalidNumber", false), ("InvalidPrime", false), ("NoQuotient", true)], ckF (.glo "_law_pen")]
def fb4 : List (Frag → Bool) := [ckF (.glo "_law_any_prime"), ckF (.glo "_law_made_field"), ckF (.glo "Field"), ckF (.glo "_law_any_number"), ckF (.glo "_law_odd"), ckF (.glo "_law_first_wrong"), ckF (.meth "Modulo" "plus"), ckF (.meth "Fractions" "plus"), ckF (.meth "Modulo" "minus"), ckF (.meth "Fractions" "minus"), ckF (.meth "Modulo" "times"), ckF (.meth "Fractions" "times"), ckF (.glo "_law_told_of"), ckF (.meth "Modulo" "over"), ckF (.meth "Fractions" "over"), ckF (.meth "Modulo" "total"), ckF (.meth "Fractions" "total"), ckF (.glo "law"), ckIsi it0]
def fb : List (Frag → Bool) := fb0 ++ fb1 ++ fb2 ++ fb3 ++ fb4
def tl0 : List PySem.Str := ["law"]
abbrev FX (K : Frag) (mg : Str → Option Value) : Prop := Fx PP fb fn K mg
def loose0 : List (PySem.Str) := ["_wall", "__name__", "InvalidPrime", "InvalidNumber", "InvalidText", "NoQuotient", "TooLong", "MAX_DIGITS", "MAX_TEXT_DIGITS", "MAX_PRIME", "is_integer", "is_between", "is_numeral", "SMALL_PRIMES", "WITNESSES", "common_divisor", "parts_of", "fraction", "power", "is_witness", "is_prime", "ten_to", "is_short", "integer_in", "Field"]
def loose1 : List (PySem.Str) := ["Fractions", "Modulo", "_law_pen", "_law_draw", "_law_pick", "_law_prime", "_law_number", "_law_odd", "_law_far", "_law_tens", "_law_signed", "_law_gcd", "_law_told", "_law_any_number", "_law_made_field", "_law_any_prime", "_law_is_whole", "_law_is_number", "_law_told_of", "_law_first_wrong"]
def loose : List (PySem.Str) := loose0 ++ loose1
abbrev R : PySem.W.OpenRow := PySem.W.OpenLaw.row PySem.Challenge.rw_firstanswers_k06_numbers_refused
abbrev hk : PySem.W.Hook := hookT 6 PP.main.file fb fn tl0
def ob (s : PySem.W.SharedT) : AlT := obsTG 6 PP.main.file fb fn tl0 (HandSHeadRun.getT s)
theorem ob_eq (s : PySem.W.SharedT) : ob s = hk.obs s.abs := obsTG_eq (HandSHeadRun.getT_eq s)
theorem run_a (w : World) (os : OsState) : hdA R 20000 w os = some true := by
  kernel_rfl
theorem run_b (w : World) (os : OsState) : hdB R (PySem.W.view R.prog [48]) 20000 loose w os = some (PySem.W.openGood (PySem.W.view R.prog [48]) loose) := by
  kernel_rfl
theorem run_f0 (w : World) (os : OsState) : hdC R (fun s => (fb0 ++ fb1).all fun f => f (fgT 6 s)) 20000 w os = some true := by
  kernel_rfl
theorem run_f1 (w : World) (os : OsState) : hdC R (fun s => (fb2 ++ fb3).all fun f => f (fgT 6 s)) 20000 w os = some true := by
  kernel_rfl
theorem run_f2 (w : World) (os : OsState) : hdC R (fun s => (fb4).all fun f => f (fgT 6 s)) 20000 w os = some true := by
  kernel_rfl
theorem hdC_allK {r : PySem.W.OpenRow} {Y : Type} {P : PySem.W.SharedT → Y → Bool} {l m : List Y} {M : Nat} {w : World} {os : OsState} (a : hdC r (fun s => l.all (P s)) M w os = some true) (b : hdC r (fun s => m.all (P s)) M w os = some true) : hdC r (fun s => (l ++ m).all (P s)) M w os = some true := by
  have h := hdC_and a b
  have e : (fun s : PySem.W.SharedT => (l ++ m).all (P s)) = fun s => l.all (P s) && m.all (P s) := funext fun s => List.all_append
  rw [e]
  exact h
theorem run_k0 (w : World) (os : OsState) : hdC R (fun s => fn0.all fun d => d.ok PP.main.file (fgT 6 s)) 20000 w os = some true := by
  kernel_rfl
theorem run_k1 (w : World) (os : OsState) : hdC R (fun s => fn1.all fun d => d.ok PP.main.file (fgT 6 s)) 20000 w os = some true := by
  kernel_rfl
theorem run_k2 (w : World) (os : OsState) : hdC R (fun s => fn2.all fun d => d.ok PP.main.file (fgT 6 s)) 20000 w os = some true := by
  kernel_rfl
def okP (s : PySem.W.SharedT) (d : DefM) : Bool := d.ok PP.main.file (fgT 6 s)
theorem fn_eq : fn = fn0 ++ fn1 ++ fn2 := rfl
theorem run_kk (w : World) (os : OsState) : hdC R (fun s => (fn0 ++ fn1 ++ fn2).all (okP s)) 20000 w os = some true := (hdC_allK (P := okP) (l := fn0 ++ fn1) (m := fn2) (hdC_allK (P := okP) (l := fn0) (m := fn1) (run_k0 w os) (run_k1 w os)) (run_k2 w os))
theorem run_k (w : World) (os : OsState) : hdC R (fun s => fn.all fun d => d.ok PP.main.file (fgT 6 s)) 20000 w os = some true := by
  rw [fn_eq]
  exact run_kk w os
theorem run_v (w : World) (os : OsState) : hdC R (fun s => fn.map fun d => fnWM (fgT 6 s) d) 20000 w os = some (fn.map DefM.val) := by
  kernel_rfl
theorem run_t (w : World) (os : OsState) : hdC R (fun s => tabsB (HandSHeadRun.getT s) (fgT 6 s) tl0) 20000 w os = some true := by
  kernel_rfl
theorem fb_eq : fb = ((fb0 ++ fb1) ++ (fb2 ++ fb3)) ++ (fb4) := by
  simp only [fb, List.append_assoc]
theorem run_f (w : World) (os : OsState) : hdC R (fun s => fb.all fun f => f (fgT 6 s)) 20000 w os = some true := by
  rw [fb_eq]
  exact (hdC_all (F := fun s => (fgT 6 s)) (l := fb0 ++ fb1 ++ fb2 ++ fb3) (m := fb4) (hdC_all (F := fun s => (fgT 6 s)) (l := fb0 ++ fb1) (m := fb2 ++ fb3) (run_f0 w os) (run_f1 w os)) (run_f2 w os))
theorem run_c (w : World) (os : OsState) : hdC R ob 20000 w os = some (hk.val w) := hdC_pair (run_t w os) (hdC_pair (hdC_and (run_f w os) (run_k w os)) (run_v w os))
theorem run (w : World) : HandSHeadRun.RunEq R (PySem.W.view R.prog [48]) hk ob 20000 loose w := run_split (H := hk) (run_a w) (run_b w) (run_c w)
end G
set_option Elab.async false
/-! plain number theory: Fermat's little theorem -/
namespace Pl
/-- a prime, by division -/
def Pr (p : Nat) : Prop := 2 ≤ p ∧ ∀ d, d ∣ p → d = 1 ∨ d = p
def choose : Nat → Nat → Nat
  | _, 0 => 1
  | 0, _ + 1 => 0
  | n + 1, k + 1 => choose n k + choose n (k + 1)
/-- a prime by trial of all divisors up to its root -/
def noDiv (p : Nat) : Nat → Nat → Bool
  | 0, _ => true
  | n + 1, d => p % d != 0 && noDiv p n (d + 1)
theorem noDiv_spec {p : Nat} : ∀ {n d : Nat}, noDiv p n d = true → ∀ e, d ≤ e → e < d + n → p % e ≠ 0
  | 0, _, _, e, h1, h2 => by omega
  | n + 1, d, h, e, h1, h2 => by
    unfold noDiv at h
    rw [Bool.and_eq_true] at h
    by_cases z : e = d
    · subst z
      simpa using h.1
    · exact noDiv_spec h.2 e (by omega) (by omega)
theorem pr_of {p n : Nat} (h2 : 2 ≤ p) (hn : p < (n + 2) * (n + 2)) (h : noDiv p n 2 = true) : Pr p := by
  have key : ∀ d, d ∣ p → 2 ≤ d → d < n + 2 → False := fun d hd h1 h3 => noDiv_spec h d h1 (by omega) (Nat.mod_eq_zero_of_dvd hd)
  refine ⟨h2, fun d hd => ?_⟩
  obtain ⟨e, he⟩ := hd
  by_cases d0 : d = 0
  · subst d0
    omega
  by_cases e0 : e = 0
  · subst e0
    omega
  by_cases d1 : d = 1
  · exact .inl d1
  by_cases e1 : e = 1
  · subst e1
    exact .inr (by omega)
  exfalso
  by_cases hd : d < n + 2
  · exact key d ⟨e, he⟩ (by omega) hd
  · by_cases he' : e < n + 2
    · exact key e ⟨d, by rw [he, Nat.mul_comm]⟩ (by omega) he'
    · have : (n + 2) * (n + 2) ≤ d * e := Nat.mul_le_mul (by omega) (by omega)
      omega
theorem pr2 : Pr 2 := pr_of (n := 0) (by decide) (by decide) rfl
theorem pr3 : Pr 3 := pr_of (n := 0) (by decide) (by decide) rfl
theorem pr5 : Pr 5 := pr_of (n := 1) (by decide) (by decide) rfl
theorem pr7 : Pr 7 := pr_of (n := 1) (by decide) (by decide) rfl
theorem pr101 : Pr 101 := pr_of (n := 9) (by decide) (by decide) (by decide +kernel)
theorem prBig : Pr 1000003 := pr_of (n := 1000) (by decide) (by decide) (by decide +kernel)
end Pl
set_option Elab.async false
set_option linter.all false
/-! plain: remainders -/
namespace Pl
theorem mul_mod_l (a b m : Int) : (a % m * b) % m = (a * b) % m := by
  rw [Int.mul_emod, Int.emod_emod_of_dvd _ (Int.dvd_refl m), ← Int.mul_emod]
theorem pow_mod (a m : Int) : ∀ n : Nat, ((a % m) ^ n) % m = (a ^ n) % m
  | 0 => by rw [Int.pow_zero, Int.pow_zero]
  | n + 1 => by
    rw [Int.pow_succ, Int.pow_succ, Int.mul_emod, pow_mod a m n, Int.emod_emod_of_dvd _ (Int.dvd_refl m), ← Int.mul_emod]
theorem mulpow_mod (a b m : Int) (n : Nat) : (a * (b % m) ^ n) % m = (a * b ^ n) % m := by
  rw [Int.mul_emod, pow_mod, ← Int.mul_emod]
theorem sq_pow (x : Int) (u : Nat) : (x * x) ^ u = x ^ (2 * u) := by
  rw [Int.pow_mul, Int.pow_succ, Int.pow_succ, Int.pow_zero, Int.one_mul]
/-- one turn of the power loop -/
theorem pw_even {f x m : Int} {t : Nat} (ht : t % 2 = 0) : (f * (x * x % m) ^ (t / 2)) % m = (f * x ^ t) % m := by
  rw [mulpow_mod, sq_pow, show 2 * (t / 2) = t by omega]
theorem pw_odd {f x m : Int} {t : Nat} (ht : t % 2 = 1) : ((f * x % m) * (x * x % m) ^ (t / 2)) % m = (f * x ^ t) % m := by
  rw [mulpow_mod, sq_pow, mul_mod_l, Int.mul_assoc, show x * x ^ (2 * (t / 2)) = x ^ t from by
    rw [Int.mul_comm, ← Int.pow_succ, show (2 * (t / 2)).succ = t by omega]]
end Pl
set_option Elab.async false
set_option linter.all false
/-! plain: fractions as rationals -/
namespace Pl
def dv (t b : Int) : Int := if 0 < b then (Int.gcd t b : Nat) else -((Int.gcd t b : Nat) : Int)
theorem gcd_pos' {t b : Int} (h : b ≠ 0) : 0 < Int.gcd t b := Nat.pos_of_ne_zero fun z => h (Int.gcd_eq_zero_iff.mp z).2
theorem dv_ne {t b : Int} (h : b ≠ 0) : dv t b ≠ 0 := by
  have := gcd_pos' (t := t) h
  unfold dv
  split <;> omega
theorem dv_t {t b : Int} : dv t b ∣ t := by
  unfold dv
  split
  · exact Int.gcd_dvd_left ..
  · exact Int.neg_dvd.mpr (Int.gcd_dvd_left ..)
theorem dv_b {t b : Int} : dv t b ∣ b := by
  unfold dv
  split
  · exact Int.gcd_dvd_right ..
  · exact Int.neg_dvd.mpr (Int.gcd_dvd_right ..)
theorem dv_abs {t b : Int} : (dv t b).natAbs = Int.gcd t b := by
  unfold dv
  split <;> simp
theorem dv_sign {t b : Int} (h : b ≠ 0) : 0 < b / dv t b := by
  obtain ⟨k, hk⟩ := dv_b (t := t) (b := b)
  have hd := dv_ne (t := t) h
  have e : b / dv t b = k := by
    conv => lhs; lhs; rw [hk]
    exact Int.mul_ediv_cancel_left _ hd
  rw [e]
  have hg := gcd_pos' (t := t) h
  by_cases hb : 0 < b
  · have : dv t b = (Int.gcd t b : Nat) := if_pos hb
    rw [this] at hk
    refine Int.pos_of_mul_pos_right (a := ((Int.gcd t b : Nat) : Int)) ?_ (by omega)
    omega
  · have : dv t b = -((Int.gcd t b : Nat) : Int) := if_neg hb
    rw [this] at hk
    refine Int.pos_of_mul_pos_right (a := ((Int.gcd t b : Nat) : Int)) ?_ (by omega)
    rw [Int.neg_mul] at hk
    omega
theorem dv_cop {t b : Int} (h : b ≠ 0) : Int.gcd (t / dv t b) (b / dv t b) = 1 := by
  have hg := gcd_pos' (t := t) h
  rw [Int.gcd_ediv dv_t dv_b, dv_abs]
  exact Nat.div_self hg
/-- a fraction's lowest terms -/
theorem rat_nf {t b : Int} (h : b ≠ 0) : (Rat.divInt t b).num = t / dv t b ∧ ((Rat.divInt t b).den : Int) = b / dv t b := by
  have hs := dv_sign (t := t) h
  have hc := dv_cop (t := t) h
  have hd := dv_ne (t := t) h
  have hm : ((b / dv t b).toNat : Int) = b / dv t b := by omega
  have hr : (t / dv t b).natAbs.Coprime (b / dv t b).toNat := by
    unfold Nat.Coprime
    rw [← hc]
    unfold Int.gcd
    congr 1
    omega
  have e : Rat.divInt t b = (⟨t / dv t b, (b / dv t b).toNat, by omega, hr⟩ : Rat) := by
    rw [Rat.mk_eq_divInt, hm, Rat.divInt_eq_divInt_iff h (by omega)]
    obtain ⟨k, hk⟩ := dv_b (t := t) (b := b)
    obtain ⟨l, hl⟩ := dv_t (t := t) (b := b)
    have e1 : b / dv t b = k := by
      conv => lhs; lhs; rw [hk]
      exact Int.mul_ediv_cancel_left _ hd
    have e2 : t / dv t b = l := by
      conv => lhs; lhs; rw [hl]
      exact Int.mul_ediv_cancel_left _ hd
    rw [e1, e2]
    conv => lhs; rw [hl]
    conv => rhs; rw [hk]
    rw [Int.mul_comm (dv t b) l, Int.mul_assoc]
  rw [e]
  exact ⟨rfl, hm⟩
theorem rat_one {q : Rat} : q.den = 1 ↔ ((q.den : Nat) : Int) = 1 := by omega
/-- one turn of the common divisor -/
theorem gcd_fmod (a b : Int) : Int.gcd b (a.fmod b) = Int.gcd a b := by
  have e : a.fmod b = a - a.fdiv b * b := by
    have := Int.mul_fdiv_add_fmod a b
    rw [Int.mul_comm] at this
    omega
  rw [e, Int.gcd_sub_mul_right_right, Int.gcd_comm]
theorem gcd_emod (a b : Int) : Int.gcd b (a % b) = Int.gcd a b := by
  have e : a % b = a - a / b * b := by
    have := Int.mul_ediv_add_emod a b
    rw [Int.mul_comm] at this
    omega
  rw [e, Int.gcd_sub_mul_right_right, Int.gcd_comm]
theorem fmod_lt {a b : Int} (hb : b < 0) : (a.fmod b).natAbs < b.natAbs := by
  rw [Int.fmod_eq_emod]
  have h0 := Int.emod_nonneg a (show b ≠ 0 by omega)
  have h1 := Int.emod_lt_of_neg a hb
  by_cases hd : b ∣ a
  · rw [if_pos (.inr hd), Int.emod_eq_zero_of_dvd hd]
    omega
  · rw [if_neg (by rintro (z | z); omega; exact hd z)]
    have : a % b ≠ 0 := fun z => hd (Int.dvd_of_emod_eq_zero z)
    omega
end Pl
set_option Elab.async false
set_option linter.all false
/-! plain: remainders of fractions -/
namespace Pl
end Pl
set_option Elab.async false
set_option linter.all false
set_option maxRecDepth 100000
/-! Pl: what is wanted behind a computation on data; one rule a construct. -/
namespace Pl
open Mp
open PySem (Str sizeLine)
/-- what is wanted of an expression's end -/
def RP {T : Type} (Q : T → Sto → Prop) (E : Str → List (Str × D) → Sto → Prop) : Res T → Prop
  | .ok a s => Q a s
  | .exc C fs s => E C fs s
  | .bad => False
structure PQ where
  nx : En → Sto → Prop
  rt : D → Sto → Prop
  bk : En → Sto → Prop
  ct : En → Sto → Prop
  ex : Str → List (Str × D) → En → Sto → Prop
def FP (q : PQ) : Fl → Prop
  | .nx r s => q.nx r s
  | .rt d s => q.rt d s
  | .bk r s => q.bk r s
  | .ct r s => q.ct r s
  | .exc C fs r s => q.ex C fs r s
  | .bad => False
abbrev XT := Str → List (Str × D) → Sto → Prop
abbrev noX : XT := fun _ _ _ => False
section
variable {T U : Type} {Q Q' : T → Sto → Prop} {E E' : XT} {r : En} {s : Sto} {q q' : PQ}
theorem RP.mono {m : Res T} (h : RP Q E m) (hq : ∀ a s, Q a s → Q' a s) (he : ∀ C fs s, E C fs s → E' C fs s) : RP Q' E' m := by
  cases m with
  | ok a s => exact hq a s h
  | exc C fs s => exact he C fs s h
  | bad => exact h
theorem RP.imp {m : Res T} (h : RP Q noX m) (hq : ∀ a s, Q a s → Q' a s) : RP Q' E m := h.mono hq fun _ _ _ z => z.elim
theorem RP.of {m : Res T} {a : T} {s' : Sto} (h : m = .ok a s') (hq : Q a s') : RP Q E m := by
  rw [h]
  exact hq
theorem RP.ofx {m : Res T} {C : Str} {fs : List (Str × D)} {s' : Sto} (h : m = .exc C fs s') (hq : E C fs s') : RP Q E m := by
  rw [h]
  exact hq
theorem RP.ex {m : Res T} (h : RP Q noX m) : ∃ a s', m = .ok a s' ∧ Q a s' := by
  cases m with
  | ok a s => exact ⟨a, s, rfl, h⟩
  | exc C fs s => exact h.elim
  | bad => exact h.elim
theorem FP.mono {f : Fl} (h : FP q f) (h1 : ∀ r s, q.nx r s → q'.nx r s) (h2 : ∀ d s, q.rt d s → q'.rt d s) (h3 : ∀ r s, q.bk r s → q'.bk r s) (h4 : ∀ r s, q.ct r s → q'.ct r s) (h5 : ∀ C fs r s, q.ex C fs r s → q'.ex C fs r s) : FP q' f := by
  cases f with
  | nx r s => exact h1 _ _ h
  | rt d s => exact h2 _ _ h
  | bk r s => exact h3 _ _ h
  | ct r s => exact h4 _ _ h
  | exc C fs r s => exact h5 _ _ _ _ h
  | bad => exact h
theorem w_ok {a : T} (h : Q a s) : RP Q E (.ok a s) := h
theorem w_bind {m : DM T} {f : T → DM U} {Q : U → Sto → Prop} (h : RP (fun a s' => RP Q E (f a r s')) E (m r s)) : RP Q E (Mp.bindM m f r s) := by
  unfold Mp.bindM
  cases e : m r s <;> rw [e] at h <;> exact h
theorem w_pure {a : T} (h : Q a s) : RP Q E (pureM a r s) := h
theorem w_then {m : DM T} {f : T → DS} (h : RP (fun a s' => FP q (f a r s')) (fun C fs s' => q.ex C fs r s') (m r s)) : FP q (thenS m f r s) := by
  unfold thenS
  cases e : m r s <;> rw [e] at h <;> exact h
theorem w_seq {a b : DS} (h : FP ⟨fun r' s' => FP q (b r' s'), q.rt, q.bk, q.ct, q.ex⟩ (a r s)) : FP q (seqS a b r s) := by
  unfold seqS
  cases e : a r s <;> rw [e] at h <;> exact h
/-- with a word between two statements -/
theorem w_mid {a b : DS} (P : En → Sto → Prop) (h1 : FP ⟨P, q.rt, q.bk, q.ct, q.ex⟩ (a r s)) (h2 : ∀ r' s', P r' s' → FP q (b r' s')) : FP q (seqS a b r s) := w_seq (h1.mono h2 (fun _ _ h => h) (fun _ _ h => h) (fun _ _ h => h) fun _ _ _ _ h => h)
end
section
variable {Q : D → Sto → Prop} {E : XT} {r : En} {s : Sto} {q : PQ} {a b c : DE} {f : D → D → Sto → Res D}
theorem w_v {i : Nat} {d : D} (h : r[i]? = some (some d)) (hq : Q d s) : RP Q E (vM i r s) := by
  unfold vM
  rw [h]
  exact hq
theorem w_c {d : D} (hq : Q d s) : RP Q E (cM d r s) := hq
theorem w_bin (h : RP (fun x s1 => RP (fun y s2 => RP Q E (f x y s2)) E (b r s1)) E (a r s)) : RP Q E (binM f a b r s) := w_bind (h.mono (fun _ _ h => w_bind h) fun _ _ _ h => h)
theorem w_un {g : D → Sto → Res D} (h : RP (fun x s1 => RP Q E (g x s1)) E (a r s)) : RP Q E (unM g a r s) := w_bind h
theorem w_arg {m : DM (List D)} {g : List D → Sto → Res D} (h : RP (fun x s1 => RP Q E (g x s1)) E (m r s)) : RP Q E (argM g m r s) := w_bind h
theorem w_call {m : DM (List D)} {g : DF} (h : RP (fun x s1 => RP Q E (g x s1)) E (m r s)) : RP Q E (callM g m r s) := w_bind h
theorem w_nil {Q : List D → Sto → Prop} (h : Q [] s) : RP Q E (nilA r s) := h
theorem w_cons {Q : List D → Sto → Prop} {m : DM (List D)} (h : RP (fun x s1 => RP (fun l s2 => Q (x :: l) s2) E (m r s1)) E (a r s)) : RP Q E (consA a m r s) := w_bind (h.mono (fun _ _ h => w_bind h) fun _ _ _ h => h)
theorem w_star {Q : List D → Sto → Prop} (h : RP (fun x s1 => ∃ l, x = .tup l ∧ Q l s1) E (a r s)) : RP Q E (starA a r s) := w_bind (h.mono (fun x s ⟨l, e, h⟩ => by
  subst e
  exact h) fun _ _ _ h => h)
theorem w_tru {Q : Bool → Sto → Prop} (h : RP (fun x s1 => ∃ k, truD s1 x = some k ∧ Q k s1) E (a r s)) : RP Q E (truM a r s) := w_bind (h.mono (fun x s ⟨k, e, h⟩ => by
  rw [e]
  exact h) fun _ _ _ h => h)
theorem w_bl {Q : Bool → Sto → Prop} (h : RP (fun x s1 => ∃ k, x = .bl k ∧ Q k s1) E (a r s)) : RP Q E (blM a r s) := w_bind (h.mono (fun x s ⟨k, e, h⟩ => by
  subst e
  exact h) fun _ _ _ h => h)
theorem w_not (h : RP (fun k s1 => Q (.bl (!k)) s1) E (truM a r s)) : RP Q E (notV a r s) := w_bind h
theorem w_and (h : RP (fun x s1 => ∃ k, truD s1 x = some k ∧ (k = true → RP Q E (b r s1)) ∧ (k = false → Q x s1)) E (a r s)) : RP Q E (andV a b r s) := w_bind (h.mono (fun x s ⟨k, e, h1, h2⟩ => w_bind (w_tru (w_c ⟨k, e, by
  cases k
  · exact h2 rfl
  · exact h1 rfl⟩))) fun _ _ _ h => h)
theorem w_or (h : RP (fun x s1 => ∃ k, truD s1 x = some k ∧ (k = false → RP Q E (b r s1)) ∧ (k = true → Q x s1)) E (a r s)) : RP Q E (orV a b r s) := w_bind (h.mono (fun x s ⟨k, e, h1, h2⟩ => w_bind (w_tru (w_c ⟨k, e, by
  cases k
  · exact h1 rfl
  · exact h2 rfl⟩))) fun _ _ _ h => h)
theorem w_notT {Q : Bool → Sto → Prop} {c : DM Bool} (h : RP (fun k s1 => Q (!k) s1) E (c r s)) : RP Q E (notT c r s) := w_bind h
theorem w_andT {Q : Bool → Sto → Prop} {c d : DM Bool} (h : RP (fun k s1 => (k = true → RP Q E (d r s1)) ∧ (k = false → Q false s1)) E (c r s)) : RP Q E (andT c d r s) := w_bind (h.mono (fun k s h => by
  cases k
  · exact h.2 rfl
  · exact h.1 rfl) fun _ _ _ h => h)
theorem w_orT {Q : Bool → Sto → Prop} {c d : DM Bool} (h : RP (fun k s1 => (k = false → RP Q E (d r s1)) ∧ (k = true → Q true s1)) E (c r s)) : RP Q E (orT c d r s) := w_bind (h.mono (fun k s h => by
  cases k
  · exact h.1 rfl
  · exact h.2 rfl) fun _ _ _ h => h)
theorem w_ifM {c : DM Bool} (h : RP (fun k s1 => (k = true → RP Q E (a r s1)) ∧ (k = false → RP Q E (b r s1))) E (c r s)) : RP Q E (ifM c a b r s) := w_bind (h.mono (fun k s h => by
  cases k
  · exact h.2 rfl
  · exact h.1 rfl) fun _ _ _ h => h)
theorem w_chain {g : D → D → Sto → Res D} (h : RP (fun x s1 => RP (fun y s2 => RP (fun z s3 => ∃ k, z = .bl k ∧ (k = true → RP (fun u s4 => RP Q E (g y u s4)) E (c r s3)) ∧ (k = false → Q (.bl false) s3)) E (f x y s2)) E (b r s1)) E (a r s)) : RP Q E (chainM f g a b c r s) := w_bind (h.mono (fun x s1 h => w_bind (h.mono (fun y s2 h => by
  cases e : f x y s2 with
  | ok z s3 =>
    rw [e] at h
    obtain ⟨k, rfl, h1, h2⟩ := h
    cases k
    · exact h2 rfl
    · exact w_bind (m := c) (f := fun u => fun _ s => g y u s) (h1 rfl)
  | exc C fs s3 => rw [e] at h; exact h
  | bad => rw [e] at h; exact h) fun _ _ _ h => h)) fun _ _ _ h => h)
theorem w_attr {tb : List (Str × Ak)} {f : Str} (h : RP (fun x s1 => RP Q E (attrD tb f x s1)) E (a r s)) : RP Q E (attrM tb f a r s) := w_bind h
theorem w_meth {tb : List (Str × DF)} {m : Str} {l : DM (List D)} (h : RP (fun x s1 => ∃ C fs f, insOf s1 x = some (C, fs) ∧ fs.lookup m = none ∧ tb.lookup C = some f ∧ RP (fun ds s2 => RP Q E (f (x :: ds) s2)) E (l r s1)) E (a r s)) : RP Q E (methM tb m a l r s) := w_bind (h.mono (fun x s1 ⟨C, fs, f, e1, e2, e3, h⟩ => by
  rw [e1]
  dsimp only
  rw [e2]
  dsimp only
  rw [e3]
  exact w_bind h) fun _ _ _ h => h)
theorem w_super {tb : List (Str × DF)} {l : DM (List D)} (h : RP (fun x s1 => ∃ C fs f, insOf s1 x = some (C, fs) ∧ tb.lookup C = some f ∧ RP (fun ds s2 => RP Q E (f (x :: ds) s2)) E (l r s1)) E (vM 0 r s)) : RP Q E (superM tb l r s) := w_bind (h.mono (fun x s1 ⟨C, fs, f, e1, e3, h⟩ => by
  rw [e1]
  dsimp only
  rw [e3]
  exact w_bind h) fun _ _ _ h => h)
theorem w_superS {tb : List (Str × DF)} {l : DM (List D)} (h : RP (fun _ s' => q.nx r s') (fun C fs s' => q.ex C fs r s') (superM tb l r s)) : FP q (superS tb l r s) := w_then h
theorem w_make {k : Bool} {C : Str} {m : DF} {l : DM (List D)} (h : RP (fun ds s1 => RP (fun v s2 => v = .non ∧ RP Q E (freezeI k s1.length s2)) E (m (.cel s1.length :: ds) (s1 ++ [some (.ins C [])]))) E (l r s)) : RP Q E (makeM k C m l r s) := w_bind (h.mono (fun ds s1 h => by
  cases e : m (.cel s1.length :: ds) (s1 ++ [some (.ins C [])]) with
  | ok v s2 =>
    rw [e] at h
    obtain ⟨rfl, h⟩ := h
    exact h
  | exc C fs s3 => rw [e] at h; exact h
  | bad => rw [e] at h; exact h) fun _ _ _ h => h)
theorem w_freeze {n : Nat} {C : Str} {fs : List (Str × D)} (h : s[n]? = some (some (.ins C fs))) (hq : Q (.ins C fs) (s.set n none)) : RP Q E (freezeI false n s) := by
  unfold freezeI
  rw [if_neg (by decide), h]
  exact hq
theorem w_opt {Q : Option Int → Sto → Prop} (h : RP (fun x s1 => ∃ i, x = .int i ∧ Q (some i) s1) E (a r s)) : RP Q E (optM a r s) := w_bind (h.mono (fun x s ⟨i, e, h⟩ => by
  subst e
  exact h) fun _ _ _ h => h)
theorem w_sli {k : Bool} {l u : DM (Option Int)} (h : RP (fun x s1 => RP (fun lo s2 => RP (fun hi s3 => RP Q E (sliD k x lo hi s3)) E (u r s2)) E (l r s1)) E (a r s)) : RP Q E (sliM k a l u r s) := w_bind (h.mono (fun _ _ h => w_bind (h.mono (fun _ _ h => w_bind h) fun _ _ _ h => h)) fun _ _ _ h => h)
/-! dict displays -/
theorem w_pairs0 {Q : List (D × D) → Sto → Prop} (h : Q [] s) : RP Q E (pairsM [] r s) := h
theorem w_pairs1 {Q : List (D × D) → Sto → Prop} {l : List (DE × DE)} (h : RP (fun x s1 => RP (fun y s2 => RP (fun l s3 => Q ((x, y) :: l) s3) E (pairsM l r s2)) E (b r s1)) E (a r s)) : RP Q E (pairsM ((a, b) :: l) r s) := w_bind (h.mono (fun _ _ h => w_bind (h.mono (fun _ _ h => w_bind h) fun _ _ _ h => h)) fun _ _ _ h => h)
theorem w_disp {l : List (DE × DE)} (h : RP (fun ps s1 => ∃ kvs, keyed ps = some kvs ∧ kvs.length ≤ 15 ∧ Q (.cel s1.length) (s1 ++ [some (.dct (mergeA [] kvs))])) E (pairsM l r s)) : RP Q E (dispM l r s) := w_bind (h.mono (fun ps s1 ⟨kvs, e, hl, h⟩ => by
  rw [e]
  dsimp only
  rw [if_pos hl]
  exact h) fun _ _ _ h => h)
/-! statements -/
theorem w_skip (h : q.nx r s) : FP q (skipS r s) := h
theorem w_brk (h : q.bk r s) : FP q (brkS r s) := h
theorem w_cnt (h : q.ct r s) : FP q (cntS r s) := h
theorem w_set {i : Nat} (h : RP (fun d s' => q.nx (r.set i (some d)) s') (fun C fs s' => q.ex C fs r s') (a r s)) : FP q (setS i a r s) := w_then h
theorem w_expr (h : RP (fun _ s' => q.nx r s') (fun C fs s' => q.ex C fs r s') (a r s)) : FP q (exprS a r s) := w_then h
theorem w_ret (h : RP (fun d s' => q.rt d s') (fun C fs s' => q.ex C fs r s') (a r s)) : FP q (retS a r s) := w_then h
theorem w_retN (h : q.rt .non s) : FP q (retN r s) := h
theorem w_if {c : DM Bool} {x y : DS} (h : RP (fun k s1 => (k = true → FP q (x r s1)) ∧ (k = false → FP q (y r s1))) (fun C fs s' => q.ex C fs r s') (c r s)) : FP q (ifS c x y r s) := w_then (h.mono (fun k s h => by
  cases k
  · exact h.2 rfl
  · exact h.1 rfl) fun _ _ _ h => h)
theorem w_asg {g : DG} (h : RP (fun d s' => ∃ p, g d r s' = some p ∧ q.nx p.1 p.2) (fun C fs s' => q.ex C fs r s') (a r s)) : FP q (asgS a g r s) := w_then (h.mono (fun d s ⟨p, e, h⟩ => by
  rw [e]
  exact h) fun _ _ _ h => h)
theorem w_par2 {i j : Nat} {m : DM (List D)} (h : RP (fun ds s' => ∃ x y, ds = [x, y] ∧ q.nx ((r.set i (some x)).set j (some y)) s') (fun C fs s' => q.ex C fs r s') (m r s)) : FP q (par2S i j m r s) := w_then (h.mono (fun d s ⟨x, y, e, h⟩ => by
  subst e
  exact h) fun _ _ _ h => h)
theorem w_par3 {i j k : Nat} {m : DM (List D)} (h : RP (fun ds s' => ∃ x y z, ds = [x, y, z] ∧ q.nx (((r.set i (some x)).set j (some y)).set k (some z)) s') (fun C fs s' => q.ex C fs r s') (m r s)) : FP q (par3S i j k m r s) := w_then (h.mono (fun d s ⟨x, y, z, e, h⟩ => by
  subst e
  exact h) fun _ _ _ h => h)
theorem w_aug {i : Nat} (h : RP (fun d s' => q.nx (r.set i (some d)) s') (fun C fs s' => q.ex C fs r s') (binM f (vM i) a r s)) : FP q (augS i f a r s) := w_then h
theorem w_sub (h : RP (fun y s1 => RP (fun x s2 => RP (fun z s3 => ∃ s4, putI x z y s3 = some s4 ∧ q.nx r s4) (fun C fs s' => q.ex C fs r s') (b r s2)) (fun C fs s' => q.ex C fs r s') (a r s1)) (fun C fs s' => q.ex C fs r s') (c r s)) : FP q (subS a b c r s) := w_then (h.mono (fun _ _ h => w_then (h.mono (fun _ _ h => w_then (h.mono (fun z s3 ⟨s4, e, h⟩ => by
  rw [e]
  exact h) fun _ _ _ h => h)) fun _ _ _ h => h)) fun _ _ _ h => h)
theorem w_fld {tb : List Str} {f : Str} (h : RP (fun y s1 => RP (fun x s2 => ∃ n C fs, x = .cel n ∧ s2[n]? = some (some (.ins C fs)) ∧ C ∈ tb ∧ fs.length < 1000 ∧ q.nx r (s2.set n (some (.ins C (putD f y fs))))) (fun C fs s' => q.ex C fs r s') (a r s1)) (fun C fs s' => q.ex C fs r s') (b r s)) : FP q (fldS tb f a b r s) := w_then (h.mono (fun _ _ h => w_then (h.mono (fun x s2 ⟨n, C, fs, e, e1, h1, h2, h⟩ => by
  subst e
  dsimp only
  rw [e1]
  dsimp only
  rw [if_pos ⟨h1, h2⟩]
  exact h) fun _ _ _ h => h)) fun _ _ _ h => h)
theorem w_raise {C f : Str} {m : DM (List D)} (h : RP (fun ds s' => ∃ d, ds = [d] ∧ q.ex C [(f, d)] r s') (fun C fs s' => q.ex C fs r s') (m r s)) : FP q (raiseS C f m r s) := w_then (h.mono (fun d s ⟨x, e, h⟩ => by
  subst e
  exact h) fun _ _ _ h => h)
theorem w_raise0 {C : Str} (h : q.ex C [] r s) : FP q (raise0S C r s) := h
theorem w_noExc {f : Fl} (h : FP ⟨q.nx, q.rt, q.bk, q.ct, fun _ _ _ _ => False⟩ f) : FP q (noExc f) := by
  cases f with
  | exc C fs r s => exact h.elim
  | _ => exact h
theorem w_try {x y : DS} {tb : List (Str × Bool)} (h : FP ⟨q.nx, q.rt, q.bk, q.ct, fun C fs r' s' => ∃ k, tb.lookup C = some k ∧ (k = true → FP ⟨q.nx, q.rt, q.bk, q.ct, fun _ _ _ _ => False⟩ (y r' s')) ∧ (k = false → q.ex C fs r' s')⟩ (x r s)) : FP q (tryS x tb y r s) := by
  unfold tryS
  cases e : x r s with
  | exc C fs r' s' =>
    rw [e] at h
    obtain ⟨k, e1, h1, h2⟩ := h
    dsimp only
    rw [e1]
    cases k
    · exact h2 rfl
    · exact w_noExc (h1 rfl)
  | nx r s => rw [e] at h; exact h
  | rt d s => rw [e] at h; exact h
  | bk r s => rw [e] at h; exact h
  | ct r s => rw [e] at h; exact h
  | bad => rw [e] at h; exact h
/-! bodies -/
abbrev bodyQ (Q : D → Sto → Prop) (E : XT) : PQ := ⟨fun _ s' => Q .non s', Q, fun _ _ => False, fun _ _ => False, fun C fs _ s' => E C fs s'⟩
theorem w_bodyX {n : Nat} {b : DS} {ds : List D} (h : FP (bodyQ Q E) (b (ds.map some ++ List.replicate (n - ds.length) none) s)) : RP Q E (bodyX n b ds s) := by
  unfold bodyX
  cases e : b (ds.map some ++ List.replicate (n - ds.length) none) s <;> rw [e] at h <;> exact h
theorem w_body {k n : Nat} {dd : List D} {b : DS} {ds es : List D} {r : En} (h0 : argsD k dd ds = some es) (hr : es.map some ++ List.replicate (n - es.length) none = r) (h : FP (bodyQ Q E) (b r s)) : RP Q E (bodyM k dd n b ds s) := by
  unfold bodyM
  rw [h0]
  subst hr
  exact w_bodyX h
theorem w_bodyV {k n : Nat} {b : DS} {ds : List D} {r : En} (h0 : k ≤ ds.length) (h1 : ds.length ≤ 1000) (hr : (ds.take k ++ [D.tup (ds.drop k)]).map some ++ List.replicate (n - (ds.take k ++ [D.tup (ds.drop k)]).length) none = r) (h : FP (bodyQ Q E) (b r s)) : RP Q E (bodyV k n b ds s) := by
  unfold bodyV
  rw [if_pos ⟨h0, h1⟩]
  subst hr
  exact w_bodyX h
/-! loops -/
theorem w_for0 {m : DM Src} {g : DG} {b : DS} (h : RP (fun c s' => FP q (forF c g b c.its r s')) (fun C fs s' => q.ex C fs r s') (m r s)) : FP q (forS m g b r s) := w_then h
theorem forF_inv {c : Src} {g : DG} {b : DS} (I : Nat → En → Sto → Prop) (hc : ∀ i r s, I i r s → SrcOk c s) :
    ∀ (l : List D) (i : Nat) (r : En) (s : Sto), i ≤ c.its.length → c.its.drop i = l → I i r s → (∀ i d r s, c.its[i]? = some d → I i r s → ∃ p, g d r s = some p ∧ FP ⟨I (i + 1), q.rt, q.nx, I (i + 1), q.ex⟩ (b p.1 p.2)) → (∀ r s, I c.its.length r s → q.nx r s) → FP q (forF c g b l r s)
  | [], i, r, s, hle, hl, hi, hs, he => by
    have h1 : i = c.its.length := by
      have := congrArg List.length hl
      simp at this
      omega
    unfold forF
    rw [if_pos (hc i r s hi)]
    subst h1
    exact he r s hi
  | d :: l, i, r, s, hle, hl, hi, hs, he => by
    have hlt : i < c.its.length := by
      have := congrArg List.length hl
      simp at this
      omega
    have hd : c.its[i]? = some d := by
      have := congrArg (fun z => z[0]?) hl
      simpa using this
    obtain ⟨p, hp, hb⟩ := hs i d r s hd hi
    have hl' : c.its.drop (i + 1) = l := by
      rw [← List.tail_drop, hl]
      rfl
    unfold forF
    rw [if_pos (hc i r s hi), hp]
    dsimp only
    cases e : b p.1 p.2 with
    | nx r' s' => rw [e] at hb; exact forF_inv I hc l (i + 1) r' s' hlt hl' hb hs he
    | ct r' s' => rw [e] at hb; exact forF_inv I hc l (i + 1) r' s' hlt hl' hb hs he
    | bk r' s' => rw [e] at hb; exact hb
    | rt d s' => rw [e] at hb; exact hb
    | exc C fs r' s' => rw [e] at hb; exact hb
    | bad => rw [e] at hb; exact hb
/-- a for loop by what holds between two turns -/
theorem w_for {c : Src} {g : DG} {b : DS} (I : Nat → En → Sto → Prop) (hc : c.cel = none) (h0 : I 0 r s) (hs : ∀ i d r s, c.its[i]? = some d → I i r s → ∃ p, g d r s = some p ∧ FP ⟨I (i + 1), q.rt, q.nx, I (i + 1), q.ex⟩ (b p.1 p.2)) (he : ∀ r s, I c.its.length r s → q.nx r s) : FP q (forF c g b c.its r s) :=
  forF_inv I (fun _ _ _ _ => by unfold SrcOk; rw [hc]; trivial) c.its 0 r s (Nat.zero_le _) rfl h0 hs he
/-- .. over a cell that stays as it is -/
theorem w_forC {c : Src} {g : DG} {b : DS} (I : Nat → En → Sto → Prop) (hc : ∀ i r s, I i r s → SrcOk c s) (h0 : I 0 r s) (hs : ∀ i d r s, c.its[i]? = some d → I i r s → ∃ p, g d r s = some p ∧ FP ⟨I (i + 1), q.rt, q.nx, I (i + 1), q.ex⟩ (b p.1 p.2)) (he : ∀ r s, I c.its.length r s → q.nx r s) : FP q (forF c g b c.its r s) :=
  forF_inv I hc c.its 0 r s (Nat.zero_le _) rfl h0 hs he
/-- a while loop by what holds between two turns and a number that falls -/
theorem w_while {t : DM Bool} {b : DS} (I : Nat → En → Sto → Prop) (hs : ∀ n r s, I n r s → RP (fun k s1 => (k = true → FP ⟨fun r' s' => ∃ m, m < n ∧ I m r' s', q.rt, q.nx, fun r' s' => ∃ m, m < n ∧ I m r' s', q.ex⟩ (b r s1)) ∧ (k = false → q.nx r s1)) (fun C fs s' => q.ex C fs r s') (t r s)) :
    ∀ (n : Nat) (r : En) (s : Sto), I n r s → FP q (whileS t b r s) := by
  intro n
  induction n using Nat.strongRecOn with
  | ind n ih =>
    intro r s hi
    have h := hs n r s hi
    rw [whileS_eq]
    cases e : t r s with
    | ok k s1 =>
      rw [e] at h
      dsimp only
      cases k with
      | false => exact h.2 rfl
      | true =>
        have h1 := h.1 rfl
        rw [if_pos rfl]
        cases e2 : b r s1 with
        | nx r' s' =>
          rw [e2] at h1
          obtain ⟨m, hm, hi'⟩ := h1
          exact ih m hm r' s' hi'
        | ct r' s' =>
          rw [e2] at h1
          obtain ⟨m, hm, hi'⟩ := h1
          exact ih m hm r' s' hi'
        | bk r' s' => rw [e2] at h1; exact h1
        | rt d s' => rw [e2] at h1; exact h1
        | exc C fs r' s' => rw [e2] at h1; exact h1
        | bad => rw [e2] at h1; exact h1
    | exc C fs s1 => rw [e] at h; exact h
    | bad => rw [e] at h; exact h
theorem lcF_inv {c : Src} {g : DG} {tt : DM Bool} {te : DE} {Q : List D → Sto → Prop} (I : Nat → List D → Sto → Prop) (hc : ∀ i l s, I i l s → SrcOk c s)
    (hs : ∀ i d l s, c.its[i]? = some d → I i l s → ∃ p, g d r s = some p ∧ RP (fun k s1 => (k = true → RP (fun y s2 => l.length < sizeLine ∧ I (i + 1) (l ++ [y]) s2) noX (te p.1 s1)) ∧ (k = false → I (i + 1) l s1)) noX (tt p.1 p.2)) (he : ∀ l s, I c.its.length l s → Q l s) :
    ∀ (l : List D) (i : Nat) (acc : List D) (s : Sto), i ≤ c.its.length → c.its.drop i = l → I i acc s → RP Q E (lcF c g tt te r l acc s)
  | [], i, acc, s, hle, hl, hi => by
    have h1 : i = c.its.length := by
      have := congrArg List.length hl
      simp at this
      omega
    unfold lcF
    rw [if_pos (hc i acc s hi)]
    subst h1
    exact he acc s hi
  | d :: l, i, acc, s, hle, hl, hi => by
    have hlt : i < c.its.length := by
      have := congrArg List.length hl
      simp at this
      omega
    have hd : c.its[i]? = some d := by
      have := congrArg (fun z => z[0]?) hl
      simpa using this
    obtain ⟨p, hp, hb⟩ := hs i d acc s hd hi
    have hl' : c.its.drop (i + 1) = l := by
      rw [← List.tail_drop, hl]
      rfl
    unfold lcF
    rw [if_pos (hc i acc s hi), hp]
    dsimp only
    cases e : tt p.1 p.2 with
    | ok k s1 =>
      rw [e] at hb
      dsimp only
      cases k with
      | false => exact lcF_inv I hc hs he l (i + 1) acc s1 hlt hl' (hb.2 rfl)
      | true =>
        have h1 := hb.1 rfl
        rw [if_pos rfl]
        cases e2 : te p.1 s1 with
        | ok y s2 =>
          rw [e2] at h1
          dsimp only
          rw [if_pos h1.1]
          exact lcF_inv I hc hs he l (i + 1) (acc ++ [y]) s2 hlt hl' h1.2
        | exc C fs s2 => rw [e2] at h1; exact h1.elim
        | bad => rw [e2] at h1; exact h1.elim
    | exc C fs s1 => rw [e] at hb; exact hb.elim
    | bad => rw [e] at hb; exact hb.elim
theorem w_lc0 {k : Bool} {mi : DM Src} {g : DG} {tt : DM Bool} {te : DE} {vs : List Nat} (h : RP (fun c s' => RP (fun acc s2 => RP Q E (newL k acc s2)) noX (lcF c g tt te (wipeE r vs) c.its [] s')) E (mi r s)) : RP Q E (lcM k mi g tt te vs r s) := w_bind (h.mono (fun c s1 h => by
  cases e : lcF c g tt te (wipeE r vs) c.its [] s1 with
  | ok acc s2 => rw [e] at h; exact h
  | exc C fs s2 => rw [e] at h; exact h.elim
  | bad => rw [e] at h; exact h.elim) fun _ _ _ h => h)
theorem w_lc {c : Src} {g : DG} {tt : DM Bool} {te : DE} {Q : List D → Sto → Prop} (I : Nat → List D → Sto → Prop) (hc : c.cel = none) (h0 : I 0 [] s)
    (hs : ∀ i d l s, c.its[i]? = some d → I i l s → ∃ p, g d r s = some p ∧ RP (fun k s1 => (k = true → RP (fun y s2 => l.length < sizeLine ∧ I (i + 1) (l ++ [y]) s2) noX (te p.1 s1)) ∧ (k = false → I (i + 1) l s1)) noX (tt p.1 p.2)) (he : ∀ l s, I c.its.length l s → Q l s) : RP Q E (lcF c g tt te r c.its [] s) :=
  lcF_inv I (fun _ _ _ _ => by unfold SrcOk; rw [hc]; trivial) hs he c.its 0 [] s (Nat.zero_le _) rfl h0
/-- a comprehension without a test, whose elements leave the store -/
theorem w_lcP {c : Src} {g : DG} {te : DE} {Q : List D → Sto → Prop} (F : D → D) (hc : c.cel = none) (hl : c.its.length ≤ sizeLine) (hs : ∀ d, d ∈ c.its → ∃ p, g d r s = some (p, s) ∧ te p s = .ok (F d) s) (he : Q (c.its.map F) s) : RP Q E (lcF c g yesM te r c.its [] s) :=
  w_lc (fun i l s' => s' = s ∧ l = (c.its.take i).map F) hc ⟨rfl, by simp⟩ (fun i d l s' hd ⟨e1, e2⟩ => by
    subst e1
    obtain ⟨p, h1, h2⟩ := hs d (List.mem_of_getElem? hd)
    have hi := (List.getElem?_eq_some_iff.mp hd).1
    refine ⟨_, h1, fun _ => ?_, fun z => by cases z⟩
    refine RP.of h2 ⟨?_, rfl, ?_⟩
    · rw [e2, List.length_map, List.length_take]
      omega
    · rw [e2, List.take_add_one, hd]
      simp) (fun l s' ⟨e1, e2⟩ => by
    subst e1
    rw [e2, List.take_length]
    exact he)
end
section
variable {Q : Src → Sto → Prop} {E : XT} {r : En} {s : Sto} {a : DE}
theorem srcM_of {x : D} {c : Src} (h : srcD s x = some c) : srcM s x = .ok c s := by
  unfold srcM
  cases x with
  | dct m => cases h; rfl
  | cel n =>
    have h' : (match s[n]? with
      | some (some (.lst l)) => some (⟨l, some n⟩ : Src)
      | _ => none) = some c := h
    cases e : s[n]? with
    | none => rw [e] at h'; cases h'
    | some o =>
      rw [e] at h'
      cases o with
      | none => cases h'
      | some ct =>
        cases ct with
        | lst l =>
          cases h'
          simp only [lockD, srcD, e, okO]
        | _ => cases h'
  | _ =>
    simp only [lockD]
    rw [h]
    rfl
theorem w_seqI (h : RP (fun x s1 => ∃ c, srcD s1 x = some c ∧ Q c s1) E (a r s)) : RP Q E (seqI a r s) := w_bind (h.mono (fun x s ⟨c, e, h⟩ => by
  rw [srcM_of e]
  exact h) fun _ _ _ h => h)
theorem w_argI {m : DM (List D)} {g : List D → Sto → Res Src} (h : RP (fun x s1 => RP Q E (g x s1)) E (m r s)) : RP Q E (argI g m r s) := w_bind h
theorem w_range1 {j : Int} (h1 : -(2 ^ 62) ≤ j) (h2 : j < 2 ^ 62) (h : Q ⟨intL 0 j.toNat, none⟩ s) : RP Q E (rangeD1 [.int j] s) := by
  unfold rangeD1
  dsimp only
  rw [if_pos ⟨h1, h2⟩]
  exact h
theorem intL_len {lo : Int} {n : Nat} : (intL lo n).length = n := by simp [intL]
theorem intL_get {lo : Int} {n i : Nat} {d : D} (h : (intL lo n)[i]? = some d) : i < n ∧ d = .int (lo + i) := by
  have hi := (List.getElem?_eq_some_iff.mp h).1
  rw [intL_len] at hi
  refine ⟨hi, ?_⟩
  unfold intL at h
  rw [List.getElem?_map, List.getElem?_range hi] at h
  simpa using h.symm
end
end Pl
set_option Elab.async false
set_option linter.all false
set_option maxRecDepth 100000
/-! Pl: operators on data. -/
namespace Pl
open Mp
open PySem (Str sizeLine)
section
variable {Q : D → Sto → Prop} {E : XT} {r : En} {s : Sto} {i j : Int} {x y : Str}
theorem o_addI (h : Q (.int (i + j)) s) : RP Q E (addD (.int i) (.int j) s) := h
theorem o_addL {l m : List D} (hl : l.length + m.length ≤ sizeLine) (h : Q (.lst (l ++ m)) s) : RP Q E (addD (.lst l) (.lst m) s) := by
  unfold addD
  dsimp only [lstX]
  rw [if_pos hl]
  exact h
theorem o_addI' (h : Q (.int (i + j)) s) : RP Q E (addI (.int i) (.int j) s) := h
theorem o_sub (h : Q (.int (i - j)) s) : RP Q E (subD (.int i) (.int j) s) := h
theorem log_lt' {n k : Nat} (h : n < 2 ^ k) (hk : 0 < k) : n.log2 < k := by
  by_cases z : n = 0
  · subst z
    have : Nat.log2 0 = 0 := by decide
    omega
  · exact (Nat.log2_lt z).mpr h
theorem mulC_of {a b : Nat} (hi : i.natAbs < 2 ^ a) (hj : j.natAbs < 2 ^ b) (ha : 0 < a) (hb : 0 < b) (h : a + b ≤ 1000000) : mulC i j = true := by
  unfold mulC
  refine decide_eq_true ?_
  have h1 := log_lt' hi ha
  have h2 := log_lt' hj hb
  omega
theorem o_mul (hc : mulC i j = true) (h : Q (.int (i * j)) s) : RP Q E (mulD (.int i) (.int j) s) := by
  unfold mulD
  dsimp only
  rw [if_pos hc]
  exact h
/-- of small ones -/
theorem o_mul64 (hi : i.natAbs < 18446744073709551616) (hj : j.natAbs < 18446744073709551616) (h : Q (.int (i * j)) s) : RP Q E (mulD (.int i) (.int j) s) := o_mul (mulC_of (a := 64) (b := 64) hi hj (by decide) (by decide) (by decide)) h
theorem o_mulI (hc : mulC i j = true) (h : Q (.int (i * j)) s) : RP Q E (mulI (.int i) (.int j) s) := by
  unfold mulI
  dsimp only
  rw [if_pos hc]
  exact h
theorem log_of {n b : Nat} (h : n < 2 ^ b) (hb : 0 < b) : n.log2 < b := log_lt' h hb
theorem o_div (h0 : 0 < j) (h1 : j.natAbs.log2 < 9000) (h : Q (.int (i / j)) s) : RP Q E (divD (.int i) (.int j) s) := by
  unfold divD
  dsimp only
  rw [if_pos ⟨h0, h1⟩]
  exact h
theorem o_div64 (h0 : 0 < j) (h1 : j < 18446744073709551616) (h : Q (.int (i / j)) s) : RP Q E (divD (.int i) (.int j) s) :=
  o_div h0 (Nat.lt_of_lt_of_le (log_of (b := 64) (by omega) (by decide)) (by decide)) h
theorem o_divN (h0 : j < 0) (h1 : j.natAbs.log2 < 9000) (h : Q (.int (i.fdiv j)) s) : RP Q E (divD (.int i) (.int j) s) := by
  unfold divD
  dsimp only
  rw [if_neg (by omega), if_pos ⟨h0, h1⟩]
  exact h
theorem o_mod (h0 : 0 < j) (h : Q (.int (i % j)) s) : RP Q E (modD (.int i) (.int j) s) := by
  unfold modD
  dsimp only
  rw [if_pos h0]
  exact h
theorem o_modN (h0 : j < 0) (h : Q (.int (i.fmod j)) s) : RP Q E (modD (.int i) (.int j) s) := by
  unfold modD
  dsimp only
  rw [if_neg (by omega), if_pos h0]
  exact h
theorem o_pow (h0 : 0 ≤ j) (h1 : j ≤ 1000000) (h2 : i.natAbs < 2 ^ 64) (h : Q (.int (i ^ j.toNat)) s) : RP Q E (powD (.int i) (.int j) s) := by
  unfold powD
  dsimp only
  rw [if_pos ⟨h0, h1, h2⟩]
  exact h
theorem o_powV {v : Int} (h0 : 0 ≤ j) (h1 : j ≤ 1000000) (h2 : i.natAbs < 2 ^ 64) (hv : i ^ j.toNat = v) (h : Q (.int v) s) : RP Q E (powD (.int i) (.int j) s) := o_pow h0 h1 h2 (by rw [hv]; exact h)
theorem o_max2 (h : Q (.int (if j > i then j else i)) s) : RP Q E (max2D [.int i, .int j] s) := h
theorem o_min2 (h : Q (.int (if j < i then j else i)) s) : RP Q E (min2D [.int i, .int j] s) := h
theorem o_neg (h : Q (.int (-i)) s) : RP Q E (negD (.int i) s) := h
theorem o_lt (h : Q (.bl (decide (i < j))) s) : RP Q E (ltI (.int i) (.int j) s) := h
theorem o_le (h : Q (.bl (decide (i ≤ j))) s) : RP Q E (leI (.int i) (.int j) s) := h
theorem o_gt (h : Q (.bl (decide (j < i))) s) : RP Q E (gtI (.int i) (.int j) s) := h
theorem o_ge (h : Q (.bl (decide (j ≤ i))) s) : RP Q E (geI (.int i) (.int j) s) := h
theorem o_eqI (h : Q (.bl (decide (i = j))) s) : RP Q E (eqD (.int i) (.int j) s) := h
theorem o_neI (h : Q (.bl (!decide (i = j))) s) : RP Q E (neD (.int i) (.int j) s) := h
theorem o_eqS (h : Q (.bl (decide (x = y))) s) : RP Q E (eqD (.str x) (.str y) s) := h
theorem o_neS (h : Q (.bl (!decide (x = y))) s) : RP Q E (neD (.str x) (.str y) s) := h
theorem o_abs (h : Q (.int (if i < 0 then -i else i)) s) : RP Q E (absD [.int i] s) := h
theorem o_int (h : Q (.int i) s) : RP Q E (Mp.intD [.int i] s) := h
theorem o_intB {b : Bool} (h : Q (.int (if b then 1 else 0)) s) : RP Q E (Mp.intD [.bl b] s) := h
theorem o_tup {l : List D} (hl : l.length ≤ sizeLine) (h : Q (.tup l) s) : RP Q E (tupD l s) := by
  unfold tupD
  rw [if_pos hl]
  exact h
theorem o_lst {l : List D} (hl : l.length ≤ sizeLine) (h : Q (.lst l) s) : RP Q E (lstD false l s) := by
  unfold lstD
  rw [if_pos hl]
  exact h
theorem o_lstC {l : List D} (hl : l.length ≤ sizeLine) (h : Q (.cel s.length) (s ++ [some (.lst l)])) : RP Q E (lstD true l s) := by
  unfold lstD
  rw [if_pos hl]
  exact h
theorem o_newL {l : List D} (h : Q (.lst l) s) : RP Q E (newL false l s) := h
theorem o_lenL {l : List D} (h : Q (.int (l.length : Nat)) s) : RP Q E (lenD [.lst l] s) := h
theorem o_lenT {l : List D} (h : Q (.int (l.length : Nat)) s) : RP Q E (lenD [.tup l] s) := h
theorem o_list {x : D} {l : List D} (hs : seqOf s x = some l) (h : Q (.lst l) s) : RP Q E (listD false [x] s) := by
  unfold listD
  dsimp only
  rw [hs]
  exact h
theorem o_all {l : List Bool} {x : D} (hx : (lstOf s x).bind bools = some l) (h : Q (.bl (l.all id)) s) : RP Q E (allD [x] s) := by
  unfold allD
  dsimp only
  rw [hx]
  exact h
theorem o_any {l : List Bool} {x : D} (hx : (lstOf s x).bind bools = some l) (h : Q (.bl (l.any id)) s) : RP Q E (anyD [x] s) := by
  unfold anyD
  dsimp only
  rw [hx]
  exact h
theorem o_isi {it : Isi} {x c : D} {t : Tg} {b : Bool} (h1 : tagD s x = some t) (h2 : isiT it t c = some b) (h : Q (.bl b) s) : RP Q E (isiD it [x, c] s) := by
  unfold isiD
  dsimp only
  rw [h1]
  dsimp only
  rw [h2]
  exact h
theorem o_idxD {n : Nat} {m : List (L2.Key × D)} {x y d : D} {k : L2.Key} (h1 : dctOf s x = some m) (h2 : keyD y = some k) (h3 : getK m k = some d) (h : Q d s) : RP Q E (idxD x y s) := by
  unfold idxD
  rw [h1]
  dsimp only
  rw [h2]
  dsimp only
  rw [h3]
  exact h
theorem o_fld {tb : List (Str × Ak)} {f C : Str} {x d : D} {fs : List (Str × D)} (h1 : insOf s x = some (C, fs)) (h2 : tb.lookup C = some .fld) (h3 : fs.lookup f = some d) (h : Q d s) : RP Q E (attrD tb f x s) := by
  unfold attrD
  rw [h1]
  dsimp only
  rw [h2]
  dsimp only
  rw [h3]
  exact h
/-- xs[i] of a frozen list, a tuple -/
theorem o_idxL {l : List D} {d : D} {k : Nat} (h0 : i = (k : Int)) (h1 : l[k]? = some d) (h : Q d s) : RP Q E (idxD (.lst l) (.int i) s) := by
  have hk := (List.getElem?_eq_some_iff.mp h1).1
  have e : L2.atI l i = some d := by
    subst h0
    unfold L2.atI L2.ixN
    rw [if_pos (by omega), if_pos (by omega)]
    simpa using h1
  show RP Q E (okO s (L2.atI l i))
  rw [e]
  exact h
theorem o_idxT {l : List D} {d : D} {k : Nat} (h0 : i = (k : Int)) (h1 : l[k]? = some d) (h : Q d s) : RP Q E (idxD (.tup l) (.int i) s) := o_idxL (l := l) h0 h1 h
theorem cut_take {l : List D} {k : Int} (hk : 0 ≤ k) : cutD l none (some k) = l.take k.toNat := by
  unfold cutD
  have e0 : _root_.HT.sIx l.length 0 none = 0 := rfl
  have e1 : _root_.HT.sIx l.length l.length (some k) = min k.toNat l.length := if_neg (by omega)
  rw [e0, e1, List.drop_zero, Nat.sub_zero]
  by_cases h : k.toNat ≤ l.length
  · rw [Nat.min_eq_left h]
  · rw [Nat.min_eq_right (by omega), List.take_length, List.take_of_length_le (by omega)]
end
end Pl
set_option Elab.async false
set_option linter.all false
set_option maxRecDepth 100000
/-! Pl: how long a repr is. -/
namespace Pl
open Mp
open PySem (Str sizeLine PyData)
open PySem
mutual
def wt : PyData → Nat
  | .none => 4
  | .bool _ => 5
  | .int _ => 600
  | .str x => (reprText x).length
  | .list xs => wtAll xs + 4
  | .tuple xs => wtAll xs + 4
  | .dict _ => 0
def wtAll : List PyData → Nat
  | [] => 0
  | x :: xs => wt x + 2 + wtAll xs
end
theorem int_len {i : Int} (h : i.natAbs.log2 < 1920) : (Str.ofString (toString i)).length ≤ 600 := by
  have hb : i.natAbs < 2 ^ 1920 := by
    by_cases z : i.natAbs = 0
    · rw [z]
      exact Nat.two_pow_pos 1920
    · exact (Nat.log2_lt z).mp h
  have hc : (2 : Nat) ^ 1920 < 10 ^ 599 := by decide +kernel
  by_cases h0 : 0 ≤ i
  · exact Nat.le_trans (PyProof.Rows.toString_length_le (k := 599) h0 (by decide) (by
      have : (i.natAbs : Int) < ((10 ^ 599 : Nat) : Int) := by exact_mod_cast Nat.lt_trans hb hc
      rw [Int.natAbs_of_nonneg h0] at this
      simpa using this)) (by decide)
  · have e : toString i = "-" ++ toString (-i) := by
      cases i with
      | ofNat n => exact absurd (Int.natCast_nonneg n) h0
      | negSucc n => rfl
    have h1 := PyProof.Rows.toString_length_le (v := -i) (k := 599) (by omega) (by decide) (by
      have : (i.natAbs : Int) < ((10 ^ 599 : Nat) : Int) := by exact_mod_cast Nat.lt_trans hb hc
      rw [show ((i.natAbs : Nat) : Int) = -i by omega] at this
      simpa using this)
    rw [e, PyProof.Rows.ofString_length, String.toList_append, List.length_append]
    rw [PyProof.Rows.ofString_length] at h1
    have : ("-" : String).toList.length = 1 := by decide
    omega
theorem textFrom_le : ∀ (ts : List Str) (k : Nat) (acc : Str), (textFrom k acc ts).length ≤ acc.length + piled ts
  | [], k, acc => by
    show acc.length ≤ acc.length + piled []
    omega
  | t :: r, k, acc => by
    have h := textFrom_le r (k + 1) (acc ++ (if k > 0 then ", " else "" : String) ++ t)
    have e : (acc ++ (if k > 0 then ", " else "" : String) ++ t).length = acc.length + (if k > 0 then 2 else 0) + t.length := by
      rw [strLen_append, strLen_append]
      split <;> rfl
    have d1 : (if k > 0 then 2 else 0 : Nat) ≤ 2 := by split <;> omega
    rw [piled_cons]
    show (textFrom (k + 1) _ r).length ≤ _
    omega
theorem join_le : ∀ ts : List Str, (Str.join ", " ts).length ≤ piled ts
  | [] => by decide
  | t :: r => by
    have := join_length_add (t :: r) (by simp)
    omega
mutual
theorem shown_len : ∀ p : PyData, p.showable = true → p.hasDict = false → p.shown.length ≤ wt p
  | .none, _, _ => by rw [PyData.shown, wt]; decide
  | .bool b, _, _ => by rw [PyData.shown, wt]; cases b <;> decide
  | .int i, h, _ => by
    rw [PyData.shown, wt]
    rw [PyData.showable] at h
    exact int_len (of_decide_eq_true h)
  | .str x, _, _ => by rw [PyData.shown, wt]; exact Nat.le_refl _
  | .list xs, h, hd => by
    rw [PyData.showable] at h
    rw [PyData.hasDict] at hd
    have := shownAll_len xs h hd
    rw [PyData.shown, wt]
    unfold listText
    rw [strLen_append]
    have h2 := textFrom_le (PyData.shownAll xs) 0 "["
    have h3 : (("[" : String) : Str).length = 1 := by decide
    have h4 : (("]" : String) : Str).length = 1 := by decide
    omega
  | .tuple xs, h, hd => by
    rw [PyData.showable] at h
    rw [PyData.hasDict] at hd
    have := shownAll_len xs h hd
    rw [PyData.shown, wt]
    unfold tupleText
    rw [strLen_append, strLen_append]
    have h2 := join_le (PyData.shownAll xs)
    have h3 : (("(" : String) : Str).length = 1 := by decide
    have h4 : ((if (PyData.shownAll xs).length == 1 then ",)" else ")" : String) : Str).length ≤ 2 := by split <;> decide
    omega
  | .dict kvs, _, hd => by
    rw [PyData.hasDict] at hd
    cases hd
theorem shownAll_len : ∀ xs : List PyData, PyData.showableAll xs = true → PyData.hasDictAll xs = false → piled (PyData.shownAll xs) ≤ wtAll xs
  | [], _, _ => by rw [PyData.shownAll, wtAll]; decide
  | x :: xs, h, hd => by
    rw [PyData.showableAll, Bool.and_eq_true] at h
    rw [PyData.hasDictAll, Bool.or_eq_false_iff] at hd
    have h1 := shown_len x h.1 hd.1
    have h2 := shownAll_len xs h.2 hd.2
    rw [PyData.shownAll, piled_cons, wtAll]
    omega
end
end Pl
set_option Elab.async false
set_option linter.all false
set_option maxRecDepth 100000
/-! Pl: the pen of a law. -/
namespace Pl
open Mp
open PySem (Str sizeLine)
/-- the pen's cell -/
def penC (cells : List Int) (b l : Int) : Ct := .dct [(.inr "cells", .lst (cells.map .int)), (.inr "begun", .int b), (.inr "left", .int l)]
/-- cell n is a pen with at most b draws begun -/
def Pen (s : Sto) (n : Nat) (b : Int) : Prop := ∃ cells g l, s[n]? = some (some (penC cells g l)) ∧ cells.length ≤ 63 ∧ 0 ≤ g ∧ g ≤ b ∧ 0 ≤ l
/-- all but cell n stays -/
def Fr (n : Nat) (s s' : Sto) : Prop := s.length ≤ s'.length ∧ ∀ i, i < s.length → i ≠ n → s'[i]? = s[i]?
theorem Fr.refl {n : Nat} {s : Sto} : Fr n s s := ⟨Nat.le_refl _, fun _ _ _ => rfl⟩
theorem Fr.trans {n : Nat} {s s' s'' : Sto} (h : Fr n s s') (k : Fr n s' s'') : Fr n s s'' := ⟨Nat.le_trans h.1 k.1, fun i hi ne => (k.2 i (Nat.lt_of_lt_of_le hi h.1) ne).trans (h.2 i hi ne)⟩
theorem Fr.set {n : Nat} {s : Sto} {c : Option Ct} : Fr n s (s.set n c) := ⟨by rw [List.length_set]; exact Nat.le_refl _, fun i _ ne => List.getElem?_set_ne (fun e => ne e.symm)⟩
theorem Pen.mono {s : Sto} {n : Nat} {b c : Int} (h : Pen s n b) (hb : b ≤ c) : Pen s n c := by
  obtain ⟨cells, g, l, h1, h2, h3, h4, h5⟩ := h
  exact ⟨cells, g, l, h1, h2, h3, Int.le_trans h4 hb, h5⟩
theorem Pen.lt {s : Sto} {n : Nat} {b : Int} (h : Pen s n b) : n < s.length := by
  obtain ⟨cells, g, l, h1, _⟩ := h
  exact (List.getElem?_eq_some_iff.mp h1).1
theorem Pen.app {s : Sto} {n : Nat} {b : Int} (h : Pen s n b) (c : Option Ct) : Pen (s ++ [c]) n b := by
  have hl := h.lt
  obtain ⟨cells, g, l, h1, h2⟩ := h
  exact ⟨cells, g, l, by rw [List.getElem?_append_left hl]; exact h1, h2⟩
end Pl
namespace Pl
open Mp
open PySem (Str sizeLine PyData)
section
variable {Q : D → Sto → Prop} {E : XT} {s : Sto} {n : Nat} {c : List Int} {g l x : Int}
theorem pen_left (hs : s[n]? = some (some (penC c g l))) (h : Q (.int l) s) : RP Q E (idxD (.cel n) (.str "left") s) := by
  refine o_idxD (n := n) (m := [(.inr "cells", .lst (c.map .int)), (.inr "begun", .int g), (.inr "left", .int l)]) (k := .inr "left") (d := .int l) ?_ rfl ?_ h
  · unfold dctOf
    dsimp only
    rw [hs]
    rfl
  · rfl
theorem pen_begun (hs : s[n]? = some (some (penC c g l))) (h : Q (.int g) s) : RP Q E (idxD (.cel n) (.str "begun") s) := by
  refine o_idxD (n := n) (m := [(.inr "cells", .lst (c.map .int)), (.inr "begun", .int g), (.inr "left", .int l)]) (k := .inr "begun") (d := .int g) ?_ rfl ?_ h
  · unfold dctOf
    dsimp only
    rw [hs]
    rfl
  · rfl
theorem pen_cells (hs : s[n]? = some (some (penC c g l))) (h : Q (.lst (c.map .int)) s) : RP Q E (idxD (.cel n) (.str "cells") s) := by
  refine o_idxD (n := n) (m := [(.inr "cells", .lst (c.map .int)), (.inr "begun", .int g), (.inr "left", .int l)]) (k := .inr "cells") (d := .lst (c.map .int)) ?_ rfl ?_ h
  · unfold dctOf
    dsimp only
    rw [hs]
    rfl
  · rfl
theorem pen_putL (hs : s[n]? = some (some (penC c g l))) : putI (.cel n) (.str "left") (.int x) s = some (s.set n (some (penC c g x))) := by
  unfold putI
  dsimp only
  rw [hs]
  rfl
theorem pen_putB (hs : s[n]? = some (some (penC c g l))) : putI (.cel n) (.str "begun") (.int x) s = some (s.set n (some (penC c x l))) := by
  unfold putI
  dsimp only
  rw [hs]
  rfl
theorem pen_at (hs : s[n]? = some (some (penC c g l))) {y : Ct} : (s.set n (some y))[n]? = some (some y) := List.getElem?_set_self (List.getElem?_eq_some_iff.mp hs).1
theorem toPys_ints : ∀ c : List Int, toPys (c.map D.int) = some (c.map PyData.int)
  | [] => rfl
  | i :: c => by
    show (toPy (.int i)).bind (fun x => (toPys (c.map D.int)).map fun y => x :: y) = _
    rw [toPys_ints c]
    rfl
theorem lay_ints : ∀ c : List Int, PyData.canLayAll0 (c.map PyData.int) = true
  | [] => rfl
  | i :: c => by
    rw [List.map_cons, PyData.canLayAll0, lay_ints c]
    rfl
theorem dep_ints : ∀ c : List Int, PyData.depthAll (c.map PyData.int) = 0
  | [] => rfl
  | i :: c => by
    rw [List.map_cons, PyData.depthAll, dep_ints c]
    rfl
theorem shaped_ints (c : List Int) : PySem.SeqAt.shaped (.list (c.map .int)) = true := by
  unfold PySem.SeqAt.shaped
  rw [PyData.canLay0, lay_ints, PyData.depth, dep_ints]
  rfl
theorem o_neNil (h : Q (.bl (!c.isEmpty)) s) : RP Q E (neD (.lst (c.map .int)) (.lst []) s) := by
  show RP Q E (eqG0 true (.lst (c.map .int)) (.lst []) s)
  have e1 : toPy (.lst (c.map .int)) = some (.list (c.map .int)) := by
    rw [toPy, toPys_ints]
    rfl
  have e2 : toPy (.lst []) = some (.list []) := rfl
  unfold eqG0
  rw [e1, e2]
  dsimp only
  rw [if_pos (by rw [shaped_ints]; rfl)]
  have e3 : PyData.eqv (.list (c.map .int)) (.list []) = c.isEmpty := by
    rw [PyData.eqv]
    cases c with
    | nil => rfl
    | cons i c => rfl
  show Q (.bl (if true = true then !PyData.eqv (.list (c.map .int)) (.list []) else _)) s
  rw [e3]
  exact h
end
end Pl
set_option Elab.async false
set_option linter.all false
set_option maxRecDepth 100000
/-! Pl: try .. except .. as e. -/
namespace Pl
open Mp
open PySem (Str sizeLine PyData Addr)
section
variable {Q : D → Sto → Prop} {E : XT} {r : En} {s : Sto} {q : PQ}
theorem FP.rt_eq {v : D} {s2 : Sto} {f : Fl} (h : FP ⟨fun _ _ => False, fun d s => d = v ∧ s = s2, fun _ _ => False, fun _ _ => False, fun _ _ _ _ => False⟩ f) : f = .rt v s2 := by
  cases f with
  | rt d s =>
    obtain ⟨rfl, rfl⟩ := h
    rfl
  | nx _ _ => exact h.elim
  | bk _ _ => exact h.elim
  | ct _ _ => exact h.elim
  | exc _ _ _ _ => exact h.elim
  | bad => exact h.elim
abbrev retQ (v : D) (s2 : Sto) : PQ := ⟨fun _ _ => False, fun d s => d = v ∧ s = s2, fun _ _ => False, fun _ _ => False, fun _ _ _ _ => False⟩
/-- a handler that returns -/
theorem w_tryAs {i : Nat} {C0 : Str} {mb : DS} {tb : List (Str × Bool)} {mh : Addr → Option Addr → List (Str × D) → DS} (h : FP ⟨q.nx, q.rt, q.bk, q.ct, fun C fs r' s' => ∃ k, tb.lookup C = some k ∧ (k = true → C = C0 ∧ ∃ v s2, (∀ a d, FP (retQ v s2) (mh a d fs (r'.set i (some (.exn a d C fs))) s')) ∧ q.rt v s2) ∧ (k = false → q.ex C fs r' s')⟩ (mb r s)) : FP q (tryAsS i C0 mb tb mh r s) := by
  unfold tryAsS
  cases e : mb r s with
  | exc C fs r' s' =>
    rw [e] at h
    obtain ⟨k, e1, h1, h2⟩ := h
    dsimp only
    rw [e1]
    cases k
    · exact h2 rfl
    · obtain ⟨rfl, v, s2, h3, h4⟩ := h1 rfl
      dsimp only
      rw [if_pos rfl]
      have h5 : ∀ a d, offS i (mh a d fs (r'.set i (some (.exn a d C fs))) s') = .rt v s2 := fun a d => by
        rw [(h3 a d).rt_eq]
        rfl
      rw [joinF_of fun a d => (h5 a d).trans (h5 0 none).symm, h5]
      exact h4
  | nx r s => rw [e] at h; exact h
  | rt d s => rw [e] at h; exact h
  | bk r s => rw [e] at h; exact h
  | ct r s => rw [e] at h; exact h
  | bad => rw [e] at h; exact h
theorem o_isx {a : Addr} {d : Option Addr} {tt : List (String × Bool)} {C : Str} {fs : List (Str × D)} {n : String} {b : Bool} (hb : tt.lookup n = some b) (h : Q (.bl b) s) : RP Q E (isxD a d tt [.exn a d C fs, .ty n] s) := by
  unfold isxD
  dsimp only
  rw [if_pos ⟨rfl, rfl⟩, hb]
  exact h
theorem w_exn {a : Addr} {d : Option Addr} {f : Str} {m : DE} (h : RP (fun x s1 => ∃ C fs v, x = .exn a d C fs ∧ fs.lookup f = some v ∧ Q v s1) E (m r s)) : RP Q E (exnM a d f m r s) := w_bind (h.mono (fun x s1 ⟨C, fs, v, e, e2, h⟩ => by
  subst e
  dsimp only
  rw [if_pos ⟨rfl, rfl⟩, e2]
  exact h) fun _ _ _ h => h)
end
end Pl
set_option Elab.async false
set_option linter.all false
set_option maxRecDepth 100000
/-! Pl: rules for lists that grow, dict comprehensions, zip of a starred tuple, sorting. -/
namespace Pl
open Mp
open PySem (Str sizeLine PyData)
section
variable {Q : D → Sto → Prop} {E : XT} {r : En} {s : Sto} {q : PQ} {a : DE}
theorem RP.eqn {T : Type} {m : Res T} {v : T} {s' : Sto} (h : RP (fun y t => t = s' ∧ y = v) noX m) : m = .ok v s' := by
  obtain ⟨x, t, e, rfl, rfl⟩ := h.ex
  exact e
/-! dict comprehensions -/
/-! methods -/
theorem w_bm {ty : Sto → D → Bool} {f : D → List D → Sto → Res D} {l : DM (List D)} (h : RP (fun x s1 => ty s1 x = true ∧ RP (fun ds s2 => RP Q E (f x ds s2)) E (l r s1)) E (a r s)) : RP Q E (bmD ty f a l r s) := w_bind (h.mono (fun x s ⟨e, h⟩ => by
  rw [if_pos e]
  exact w_bind h) fun _ _ _ h => h)
theorem o_app {n : Nat} {l : List D} {d : D} (hs : s[n]? = some (some (.lst l))) (hl : l.length < sizeLine) (h : Q .non (s.set n (some (.lst (l ++ [d]))))) : RP Q E (appD (.cel n) [d] s) := by
  unfold appD
  dsimp only
  rw [hs]
  dsimp only
  rw [if_pos hl]
  exact h
end
end Pl
set_option Elab.async false
set_option linter.all false
set_option maxRecDepth 100000
/-! Pl: letters and words as texts. -/
namespace Pl
open Mp
open PySem (Str sizeLine PyData)
def ch (i : Nat) : Str := ⟨#[97 + i]⟩
end Pl
set_option Elab.async false
set_option linter.all false
set_option maxRecDepth 100000
set_option maxHeartbeats 4000000
/-! Pl: lambdas handed to a def; texts by their signs. -/
namespace Pl
open Mp
open PySem (Str sizeLine PyData Addr)
section
variable {Q : D → Sto → Prop} {E : XT} {r : En} {s : Sto} {te : DE}
theorem w_th {f c : Addr} {q : Str} {t : L2.St} {r0 r : En} (h0 : r[0]? = some (some (D.clo f c q t r0))) (h : RP Q E (te r0 s)) : RP Q E (thM f c q t r0 te r s) := by
  unfold thM
  rw [if_pos h0]
  exact h
theorem w_lam {i n : Nat} {x : Str} {b : DE → DS} (v : D) (s2 : Sto) (h0 : s[i]? = some (some (.tab x))) (h : ∀ (f c : Addr) (t : L2.St), FP (retQ v s2) (b (thM f c (lamQ x) t r te) (some (.clo f c (lamQ x) t r) :: List.replicate n none) s)) (hq : Q v s2) : RP Q E (lamM i x n b te r s) := by
  rw [lamM_eq (R := .ok v s2) h0 fun f c t => by rw [(h f c t).rt_eq]; rfl]
  exact hq
end
end Pl
set_option Elab.async false
set_option linter.all false
set_option maxRecDepth 100000
set_option maxHeartbeats 4000000
/-! Pl: sums of products over a ring. -/
namespace Pl
section
end
end Pl
namespace Pl
open Mp
open PySem (Str sizeLine)
end Pl
namespace Pl
open Mp
open PySem (Str sizeLine PyData)
section
variable {s : Sto} {Q : D → Sto → Prop} {E : XT}
theorem o_repL {l : List D} {k : Int} {n : Nat} (hn : n = k.toNat) (h0 : 1 ≤ k) (h1 : k ≤ 1000000) (h2 : l.length * n ≤ 16777216) (h : Q (.lst (List.replicate n l).flatten) s) : RP Q E (mulD (.lst l) (.int k) s) := by
  subst hn
  unfold mulD
  dsimp only
  rw [show lstX s (.lst l) = some l from rfl]
  dsimp only
  rw [if_pos (by have : sizeLine = 16777216 := by decide
                 refine ⟨by omega, by omega, by omega⟩)]
  exact h
end
end Pl
set_option Elab.async false
set_option linter.all false
set_option maxRecDepth 100000
set_option maxHeartbeats 4000000
/-! Pl: rules for two clauses, starred items, dict(..), own operators, several except clauses. -/
namespace Pl
open Mp
open PySem (Str sizeLine PyData Addr)
section
variable {Q : D → Sto → Prop} {E : XT} {r : En} {s : Sto} {q : PQ} {a b : DE}
/-! two clauses -/
theorem w_lc20 {k : Bool} {mi mi1 : DM Src} {g g1 : DG} {tt tt1 : DM Bool} {te : DE} {vs vs1 : List Nat} (h : RP (fun c s' => RP (fun acc s2 => RP Q E (newL k acc s2)) noX (lcF2 c g tt mi1 g1 tt1 te vs1 (wipeE r vs) c.its [] s')) E (mi r s)) : RP Q E (lc2M k mi g tt mi1 g1 tt1 te vs vs1 r s) := w_bind (h.mono (fun c s1 h => by
  cases e : lcF2 c g tt mi1 g1 tt1 te vs1 (wipeE r vs) c.its [] s1 with
  | ok acc s2 => rw [e] at h; exact h
  | exc C fs s2 => rw [e] at h; exact h.elim
  | bad => rw [e] at h; exact h.elim) fun _ _ _ h => h)
theorem w_seqJ {Q : Src → Sto → Prop} (h : RP (fun x s1 => ∃ c, srcJ s1 x = some c ∧ Q c s1) E (a r s)) : RP Q E (seqJ a r s) := w_bind (h.mono (fun x s ⟨c, e, h⟩ => by
  rw [e]
  exact h) fun _ _ _ h => h)
/-! starred items -/
theorem w_starC {Q : List D → Sto → Prop} {m : DM (List D)} (h : RP (fun x s1 => ∃ l, seqOf s1 x = some l ∧ RP (fun ys s2 => Q (l ++ ys) s2) E (m r s1)) E (a r s)) : RP Q E (starC a m r s) := w_bind (h.mono (fun x s ⟨l, e, h⟩ => w_bind (by
  show RP _ E (okO s (seqOf s x))
  rw [e]
  exact w_bind h)) fun _ _ _ h => h)
theorem w_spr (h : RP (fun x s1 => ∃ m, dctOf s1 x = some m ∧ Q (.dct m) s1) E (a r s)) : RP Q E (sprM a r s) := w_bind (h.mono (fun x s ⟨m, e, h⟩ => by
  rw [e]
  exact h) fun _ _ _ h => h)
/-! dict(..) -/
/-! own operators -/
theorem o_own0 {tb : List (Str × DF)} {f : D → D → Sto → Res D} {x y : D} (h0 : insOf s x = none) (h : RP Q E (f x y s)) : RP Q E (ownD tb f x y s) := by
  unfold ownD
  rw [h0]
  exact h
theorem o_eqO0 {neg : Bool} {tb : List ((Str × Str) × DF)} {x y : D} (h0 : insOf s x = none) (h : RP Q E (eqG neg x y s)) : RP Q E (eqO neg tb x y s) := by
  unfold eqO
  rw [h0]
  exact h
/-! several except clauses -/
theorem w_tryN {x : DS} {hs : List Hd} (h : FP ⟨q.nx, q.rt, q.bk, q.ct, fun C fs r' s' => FP q (manyF hs C fs r' s')⟩ (x r s)) : FP q (tryNS x hs r s) := by
  unfold tryNS
  cases e : x r s with
  | exc C fs r' s' => rw [e] at h; exact h
  | nx r s => rw [e] at h; exact h
  | rt d s => rw [e] at h; exact h
  | bk r s => rw [e] at h; exact h
  | ct r s => rw [e] at h; exact h
  | bad => rw [e] at h; exact h
end
end Pl
namespace Pl
open Mp
open PySem (Str sizeLine PyData Addr)
section
variable {r : En} {s : Sto} {q : PQ} {C : Str} {fs : List (Str × D)} {i : Nat} {E0 : Str} {tb : List (Str × Bool)} {mh : Addr → Option Addr → List (Str × D) → DS} {mp : DS} {hs : List Hd}
theorem w_manyNo (hb : tb.lookup C = some false) (h : FP q (manyF hs C fs r s)) : FP q (manyF (.as i E0 tb mh :: hs) C fs r s) := by
  unfold manyF
  rw [hb]
  exact h
theorem w_manyPl (hb : tb.lookup C = some true) (h : FP ⟨q.nx, q.rt, q.bk, q.ct, fun _ _ _ _ => False⟩ (mp r s)) : FP q (manyF (.pl tb mp :: hs) C fs r s) := by
  unfold manyF
  rw [hb]
  exact w_noExc h
/-- a clause that returns -/
theorem w_manyAs (v : D) (s2 : Sto) (hb : tb.lookup C = some true) (h : ∀ a d, FP (retQ v s2) (mh a d fs (r.set i (some (.exn a d C fs))) s)) (hq : q.rt v s2) : FP q (manyF (.as i C tb mh :: hs) C fs r s) := by
  unfold manyF
  rw [hb]
  dsimp only
  rw [if_pos rfl]
  have h5 : ∀ a d, offS i (mh a d fs (r.set i (some (.exn a d C fs))) s) = .rt v s2 := fun a d => by
    rw [(h a d).rt_eq]
    rfl
  rw [joinF_of fun a d => (h5 a d).trans (h5 0 none).symm, h5]
  exact hq
end
end Pl
namespace Pl
open Mp
open PySem (Str sizeLine PyData Addr)
section
end
end Pl
set_option Elab.async false
set_option linter.all false
set_option maxRecDepth 100000
/-! Pl: how long a repr is, dicts too. -/
namespace Pl
open Mp
open PySem (Str sizeLine PyData)
open PySem
mutual
def wd : PyData → Nat
  | .none => 4
  | .bool _ => 5
  | .int _ => 600
  | .str x => (reprText x).length
  | .list xs => wdAll xs + 4
  | .tuple xs => wdAll xs + 4
  | .dict kvs => wdKv kvs + 4
def wdAll : List PyData → Nat
  | [] => 0
  | x :: xs => wd x + 2 + wdAll xs
def wdKv : List (PyData × PyData) → Nat
  | [] => 0
  | (a, b) :: r => wd a + wd b + 4 + wdKv r
end
/-! texts of sound signs -/
def SOk (z : Str) : Prop := ∀ c ∈ z.cps.toList, c < 0x110000
theorem SOk.iff {z : Str} : SOk z ↔ PyData.strOk z = true := by
  unfold SOk PyData.strOk
  rw [← Array.all_toList, List.all_eq_true]
  simp
theorem SOk.of (x : String) : SOk (Str.ofString x) := by
  rw [Str.ofString_eq_toList]
  intro c hc
  have hc : c ∈ x.toList.map Char.toNat := by simpa using hc
  obtain ⟨k, _, rfl⟩ := List.mem_map.mp hc
  have := k.valid
  show k.val.toNat < _
  rcases this with h | h <;> omega
theorem SOk.app {a b : Str} (ha : SOk a) (hb : SOk b) : SOk (a ++ b) := fun c hc => by
  have hc : c ∈ (a.cps ++ b.cps).toList := hc
  rw [Array.toList_append, List.mem_append] at hc
  exact hc.elim (ha c) (hb c)
theorem SOk.join : ∀ {ts : List Str}, (∀ t ∈ ts, SOk t) → SOk (Str.join ", " ts)
  | [], _ => fun c hc => by cases hc
  | [x], h => h x List.mem_cons_self
  | x :: y :: r, h => by
    show SOk (x ++ Str.ofString ", " ++ Str.join ", " (y :: r))
    exact ((h x List.mem_cons_self).app (SOk.of _)).app (SOk.join fun t ht => h t (List.mem_cons_of_mem _ ht))
theorem SOk.from : ∀ {ts : List Str} {k : Nat} {acc : Str}, SOk acc → (∀ t ∈ ts, SOk t) → SOk (textFrom k acc ts)
  | [], _, _, ha, _ => ha
  | t :: r, k, acc, ha, h => by
    show SOk (textFrom (k + 1) (acc ++ (if k > 0 then ", " else "" : String) ++ t) r)
    exact SOk.from ((ha.app (SOk.of _)).app (h t List.mem_cons_self)) fun u hu => h u (List.mem_cons_of_mem _ hu)
mutual
/-- all texts in it are sound when shown -/
def snd : PyData → Prop
  | .none => True
  | .bool _ => True
  | .int _ => True
  | .str x => SOk (reprText x)
  | .list xs => sndAll xs
  | .tuple xs => sndAll xs
  | .dict kvs => sndKv kvs
def sndAll : List PyData → Prop
  | [] => True
  | x :: xs => snd x ∧ sndAll xs
def sndKv : List (PyData × PyData) → Prop
  | [] => True
  | (a, b) :: r => snd a ∧ snd b ∧ sndKv r
end
mutual
theorem shown_snd : ∀ p : PyData, snd p → SOk p.shown
  | .none, _ => by rw [PyData.shown]; exact SOk.of _
  | .bool b, _ => by rw [PyData.shown]; split <;> exact SOk.of _
  | .int i, h => by rw [PyData.shown]; exact SOk.of _
  | .str x, h => by
    rw [snd] at h
    rw [PyData.shown]
    exact h
  | .list xs, h => by
    rw [snd] at h
    rw [PyData.shown]
    exact (SOk.from (SOk.of _) (shownAll_snd xs h)).app (SOk.of _)
  | .tuple xs, h => by
    rw [snd] at h
    rw [PyData.shown]
    exact ((SOk.of _).app (SOk.join (shownAll_snd xs h))).app (SOk.of _)
  | .dict kvs, h => by
    rw [snd] at h
    rw [PyData.shown]
    exact ((SOk.of _).app (SOk.join (shownKv_snd kvs h))).app (SOk.of _)
theorem shownAll_snd : ∀ xs : List PyData, sndAll xs → ∀ t ∈ PyData.shownAll xs, SOk t
  | [], _, t, ht => by
    rw [PyData.shownAll] at ht
    cases ht
  | x :: xs, h, t, ht => by
    rw [sndAll] at h
    rw [PyData.shownAll] at ht
    rcases List.mem_cons.mp ht with rfl | ht
    · exact shown_snd x h.1
    · exact shownAll_snd xs h.2 t ht
theorem shownKv_snd : ∀ xs : List (PyData × PyData), sndKv xs → ∀ t ∈ PyData.shownKv xs, SOk t
  | [], _, t, ht => by
    rw [PyData.shownKv] at ht
    cases ht
  | (a, b) :: xs, h, t, ht => by
    rw [sndKv] at h
    rw [PyData.shownKv] at ht
    rcases List.mem_cons.mp ht with rfl | ht
    · exact ((shown_snd a h.1).app (SOk.of _)).app (shown_snd b h.2.1)
    · exact shownKv_snd xs h.2.2 t ht
end
/-- data that can be shown: so much fuel, so deep, so wide -/
def Rdy (m k W : Nat) (d : D) : Prop := ∃ p, (∀ (s : Sto) n, m ≤ n → rdP s n d = some p) ∧ p.showable = true ∧ p.depth ≤ k ∧ wd p ≤ W ∧ snd p
def Rds (m k W : Nat) (l : List D) : Prop := ∃ ps, (∀ (s : Sto) n, m ≤ n → rdPs s n l = some ps) ∧ PyData.showableAll ps = true ∧ PyData.depthAll ps ≤ k ∧ wdAll ps ≤ W ∧ ps.length = l.length ∧ sndAll ps
section
variable {m m' k k' W W' : Nat} {d : D} {l : List D}
theorem Rdy.mono (h : Rdy m k W d) (h1 : m ≤ m') (h2 : k ≤ k') (h3 : W ≤ W') : Rdy m' k' W' d := by
  obtain ⟨p, e, a, b, c, o⟩ := h
  exact ⟨p, fun s n hn => e s n (Nat.le_trans h1 hn), a, Nat.le_trans b h2, Nat.le_trans c h3, o⟩
theorem Rds.nil : Rds 1 0 0 [] := by
  refine ⟨[], fun s n hn => ?_, rfl, Nat.le_refl _, Nat.le_refl _, rfl, trivial⟩
  obtain ⟨n, rfl⟩ : ∃ j, n = j + 1 := ⟨n - 1, by omega⟩
  simp only [rdPs]
theorem Rds.cons (h : Rdy m k W d) (h2 : Rds m' k' W' l) : Rds (max m m' + 1) (max k k') (W + 2 + W') (d :: l) := by
  obtain ⟨p, e1, a1, b1, c1, o1⟩ := h
  obtain ⟨ps, e2, a2, b2, c2, l2, o2⟩ := h2
  refine ⟨p :: ps, fun s n hn => ?_, ?_, ?_, ?_, by rw [List.length_cons, l2, List.length_cons], by rw [sndAll]; exact ⟨o1, o2⟩⟩
  · obtain ⟨n, rfl⟩ : ∃ j, n = j + 1 := ⟨n - 1, by omega⟩
    simp only [rdPs]
    rw [e1 s n (by omega), e2 s n (by omega)]
    rfl
  · rw [PyData.showableAll, a1, a2]
    rfl
  · rw [PyData.depthAll]
    omega
  · rw [wdAll]
    omega
theorem Rds.all : ∀ {l : List D}, (∀ d ∈ l, Rdy m k W d) → Rds (m + l.length + 1) k ((W + 2) * l.length) l
  | [], _ => by
    refine ⟨[], fun s n hn => ?_, rfl, Nat.zero_le _, Nat.zero_le _, rfl, trivial⟩
    obtain ⟨n, rfl⟩ : ∃ j, n = j + 1 := ⟨n - 1, by omega⟩
    simp only [rdPs]
  | d :: l, h => by
    obtain ⟨p, e1, a1, b1, c1, o1⟩ := h d List.mem_cons_self
    obtain ⟨ps, e2, a2, b2, c2, l2, o2⟩ := Rds.all (l := l) fun x hx => h x (List.mem_cons_of_mem _ hx)
    refine ⟨p :: ps, fun s n hn => ?_, ?_, ?_, ?_, by rw [List.length_cons, l2, List.length_cons], by rw [sndAll]; exact ⟨o1, o2⟩⟩
    · rw [List.length_cons] at hn
      obtain ⟨n, rfl⟩ : ∃ j, n = j + 1 := ⟨n - 1, by omega⟩
      simp only [rdPs]
      rw [e1 s n (by omega), e2 s n (by omega)]
      rfl
    · rw [PyData.showableAll, a1, a2]
      rfl
    · rw [PyData.depthAll]
      omega
    · rw [wdAll, List.length_cons, Nat.mul_succ]
      omega
theorem Rdy.int {i : Int} (h : i.natAbs < 2 ^ 1900) : Rdy 1 0 600 (.int i) := by
  refine ⟨.int i, fun s n hn => ?_, ?_, Nat.le_refl _, Nat.le_refl _, trivial⟩
  · obtain ⟨n, rfl⟩ : ∃ j, n = j + 1 := ⟨n - 1, by omega⟩
    simp only [rdP]
  · rw [PyData.showable]
    refine decide_eq_true ?_
    by_cases z : i.natAbs = 0
    · rw [z]
      decide
    · exact (Nat.log2_lt z).mpr (Nat.lt_of_lt_of_le h (Nat.pow_le_pow_right (by decide) (by decide)))
theorem Rdy.str {z : Str} (h : ∀ c ∈ z.cps.toList, c < 16 ^ 8) (ho : SOk (reprText z)) : Rdy 1 0 (10 * z.length + 2) (.str z) := by
  refine ⟨.str z, fun s n hn => ?_, rfl, Nat.le_refl _, PySem.StrLaws.reprText_len z h, by rw [snd]; exact ho⟩
  obtain ⟨n, rfl⟩ : ∃ j, n = j + 1 := ⟨n - 1, by omega⟩
  simp only [rdP]
theorem Rdy.tup (h : Rds m k W l) : Rdy (m + 1) (k + 1) (W + 4) (.tup l) := by
  obtain ⟨ps, e, a, b, c, _, o⟩ := h
  refine ⟨.tuple ps, fun s n hn => ?_, by rw [PyData.showable]; exact a, by rw [PyData.depth]; omega, by rw [wd]; omega, by rw [snd]; exact o⟩
  obtain ⟨n, rfl⟩ : ∃ j, n = j + 1 := ⟨n - 1, by omega⟩
  simp only [rdP]
  rw [e s n (by omega)]
  rfl
theorem Rdy.lst (h : Rds m k W l) : Rdy (m + 1) (k + 1) (W + 4) (.lst l) := by
  obtain ⟨ps, e, a, b, c, _, o⟩ := h
  refine ⟨.list ps, fun s n hn => ?_, by rw [PyData.showable]; exact a, by rw [PyData.depth]; omega, by rw [wd]; omega, by rw [snd]; exact o⟩
  obtain ⟨n, rfl⟩ : ∃ j, n = j + 1 := ⟨n - 1, by omega⟩
  simp only [rdP]
  rw [e s n (by omega)]
  rfl
theorem kv_show : ∀ {ks ps : List PyData}, PyData.showableAll ks = true → PyData.showableAll ps = true → ks.length = ps.length → PyData.showableKv (ks.zip ps) = true ∧ PyData.depthKv (ks.zip ps) ≤ max (PyData.depthAll ks) (PyData.depthAll ps) ∧ wdKv (ks.zip ps) ≤ wdAll ks + wdAll ps
  | [], [], _, _, _ => ⟨rfl, by simp [PyData.depthKv], by simp [wdKv]⟩
  | [], _ :: _, _, _, h => by cases h
  | _ :: _, [], _, _, h => by cases h
  | x :: ks, y :: ps, h1, h2, h3 => by
    rw [PyData.showableAll, Bool.and_eq_true] at h1 h2
    obtain ⟨a, b, c⟩ := kv_show h1.2 h2.2 (by simpa using h3)
    rw [List.zip_cons_cons, PyData.showableKv, PyData.depthKv, wdKv, PyData.depthAll, PyData.depthAll, wdAll, wdAll]
    refine ⟨by rw [h1.1, h2.1, a]; rfl, by omega, by omega⟩
theorem kv_snd : ∀ {ks ps : List PyData}, sndAll ks → sndAll ps → sndKv (ks.zip ps)
  | [], ps, _, _ => by rw [List.zip_nil_left]; trivial
  | x :: ks, [], _, _ => by rw [List.zip_nil_right]; trivial
  | x :: ks, y :: ps, h1, h2 => by
    rw [sndAll] at h1 h2
    rw [List.zip_cons_cons, sndKv]
    exact ⟨h1.1, h2.1, kv_snd h1.2 h2.2⟩
theorem Rdy.dct {m0 : List (L2.Key × D)} {K : Nat} (hk : PyData.showableAll (m0.map fun p => keyP p.1) = true) (hd : PyData.depthAll (m0.map fun p => keyP p.1) = 0) (hw : wdAll (m0.map fun p => keyP p.1) ≤ K) (ho : sndAll (m0.map fun p => keyP p.1)) (h : Rds m k W (m0.map (·.2))) : Rdy (m + 1) (k + 1) (K + W + 4) (.dct m0) := by
  obtain ⟨ps, e, a, b, c, hl, o⟩ := h
  obtain ⟨x, y, z⟩ := kv_show hk a (by rw [hl, List.length_map, List.length_map])
  refine ⟨.dict ((m0.map fun p => keyP p.1).zip ps), fun s n hn => ?_, by rw [PyData.showable]; exact x, by rw [PyData.depth]; omega, by rw [wd]; omega, by rw [snd]; exact kv_snd ho o⟩
  obtain ⟨n, rfl⟩ : ∃ j, n = j + 1 := ⟨n - 1, by omega⟩
  simp only [rdP]
  rw [e s n (by omega)]
  rfl
end
end Pl
set_option Elab.async false
set_option linter.all false
set_option maxRecDepth 100000
set_option maxHeartbeats 0
namespace G
open PySem PySem.Spec PyProof.Rows L2 Mp
section
variable {w : World} {K : Frag} {mg : Str → Option Value} {base : Heap}
theorem z0 (Z : FX K mg) : mg "ValueError" = none := Z.free 0 rfl
theorem z1 (Z : FX K mg) : OexB K (He.ga K "InvalidNumber") "ValueError" "ValueError.__new__" "ValueError.__init__" mValue ∧ PySem.W.findIn K (.ref (He.ga K "InvalidNumber")) "__init__" = some (some (.ref (He.ma K (He.ga K "InvalidNumber") "__init__"))) ∧ PySem.W.typeIn K (.ref (He.ma K (He.ga K "InvalidNumber") "__init__")) = some (.type "function") := Z.exc 1 bxValue rfl
theorem z2 (Z : FX K mg) : NoAttr K (He.ga K "InvalidNumber") "value" := Z.noat 2 rfl
theorem z3 (Z : FX K mg) : OexB K (He.ga K "InvalidPrime") "ValueError" "ValueError.__new__" "ValueError.__init__" mValue ∧ PySem.W.findIn K (.ref (He.ga K "InvalidPrime")) "__init__" = some (some (.ref (He.ma K (He.ga K "InvalidPrime") "__init__"))) ∧ PySem.W.typeIn K (.ref (He.ma K (He.ga K "InvalidPrime") "__init__")) = some (.type "function") := Z.exc 3 bxValue rfl
theorem z4 (Z : FX K mg) : NoAttr K (He.ga K "InvalidPrime") "value" := Z.noat 4 rfl
theorem z5 (Z : FX K mg) : mg "ArithmeticError" = none := Z.free 5 rfl
theorem z6 (Z : FX K mg) : OexB K (He.ga K "NoQuotient") "ArithmeticError" "ArithmeticError.__new__" "ArithmeticError.__init__" mArith ∧ PySem.W.findIn K (.ref (He.ga K "NoQuotient")) "__init__" = some (some (.ref (He.ma K (He.ga K "NoQuotient") "__init__"))) ∧ PySem.W.typeIn K (.ref (He.ma K (He.ga K "NoQuotient") "__init__")) = some (.type "function") := Z.exc 6 bxArith rfl
theorem z7 (Z : FX K mg) : Cls K (He.ga K "Modulo") := Z.cls 7 rfl
theorem z8 (Z : FX K mg) : NoAttr K (He.ga K "Modulo") "own_prime" := Z.noat 8 rfl
theorem z9 (Z : FX K mg) : Cls K (He.ga K "Fractions") := Z.cls 9 rfl
theorem z10 (Z : FX K mg) : NoAttr K (He.ga K "Fractions") "own_prime" := Z.noat 10 rfl
theorem z11 (Z : FX K mg) : mg "abs" = none := Z.free 11 rfl
theorem z12 (Z : FX K mg) : mg "int" = none := Z.free 12 rfl
theorem z13 (Z : FX K mg) : mg "isinstance" = none := Z.free 13 rfl
theorem z14 (Z : FX K mg) : mg "bool" = none := Z.free 14 rfl
theorem z15 (Z : FX K mg) : mg "tuple" = none := Z.free 15 rfl
theorem z16 (Z : FX K mg) : mg "is_integer" = some (.ref (He.ga K "is_integer")) := Z.glo 16 rfl
theorem z17 (Z : FX K mg) : mg "len" = none := Z.free 17 rfl
theorem z18 (Z : FX K mg) : mg "all" = none := Z.free 18 rfl
theorem z19 (Z : FX K mg) : mg "common_divisor" = some (.ref (He.ga K "common_divisor")) := Z.glo 19 rfl
theorem z20 (Z : FX K mg) : mg "is_between" = some (.ref (He.ga K "is_between")) := Z.glo 20 rfl
theorem z21 (Z : FX K mg) : mg "range" = none := Z.free 21 rfl
theorem z22 (Z : FX K mg) : mg "ten_to" = some (.ref (He.ga K "ten_to")) := Z.glo 22 rfl
theorem z23 (Z : FX K mg) : mg "parts_of" = some (.ref (He.ga K "parts_of")) := Z.glo 23 rfl
theorem z24 (Z : FX K mg) : Meth K (He.ga K "Modulo") "is_any" (He.ma K (He.ga K "Modulo") "is_any") := Z.meth 24 rfl
theorem z25 (Z : FX K mg) : Meth K (He.ga K "Fractions") "is_any" (He.ma K (He.ga K "Fractions") "is_any") := Z.meth 25 rfl
theorem z26 (Z : FX K mg) : ∃ t, mg "MAX_DIGITS" = some (.int 100 t) := Z.int 26 rfl
theorem z27 (Z : FX K mg) : mg "is_short" = some (.ref (He.ga K "is_short")) := Z.glo 27 rfl
theorem z28 (Z : FX K mg) : (decide (He.ma K (He.ga K "Fractions") "is_number" = (fun K => He.ma K (He.ga K "Field") "is_number") K)) = true := Z.fact (f := fun K => decide (He.ma K (He.ga K "Fractions") "is_number" = (fun K => He.ma K (He.ga K "Field") "is_number") K)) 28 rfl
theorem z29 (Z : FX K mg) : (decide (He.ma K (He.ga K "Modulo") "is_number" = (fun K => He.ma K (He.ga K "Field") "is_number") K)) = true := Z.fact (f := fun K => decide (He.ma K (He.ga K "Modulo") "is_number" = (fun K => He.ma K (He.ga K "Field") "is_number") K)) 29 rfl
theorem z30 (Z : FX K mg) : Meth K (He.ga K "Modulo") "is_number" (He.ma K (He.ga K "Modulo") "is_number") := Z.meth 30 rfl
theorem z31 (Z : FX K mg) : Meth K (He.ga K "Fractions") "is_number" (He.ma K (He.ga K "Fractions") "is_number") := Z.meth 31 rfl
theorem z32 (Z : FX K mg) : mg "InvalidNumber" = some (.ref (He.ga K "InvalidNumber")) := Z.glo 32 rfl
theorem z33 (Z : FX K mg) : (decide (He.ma K (He.ga K "Fractions") "need_numbers" = (fun K => He.ma K (He.ga K "Field") "need_numbers") K)) = true := Z.fact (f := fun K => decide (He.ma K (He.ga K "Fractions") "need_numbers" = (fun K => He.ma K (He.ga K "Field") "need_numbers") K)) 33 rfl
theorem z34 (Z : FX K mg) : (decide (He.ma K (He.ga K "Modulo") "need_numbers" = (fun K => He.ma K (He.ga K "Field") "need_numbers") K)) = true := Z.fact (f := fun K => decide (He.ma K (He.ga K "Modulo") "need_numbers" = (fun K => He.ma K (He.ga K "Field") "need_numbers") K)) 34 rfl
theorem z35 (Z : FX K mg) : mg "fraction" = some (.ref (He.ga K "fraction")) := Z.glo 35 rfl
theorem z36 (Z : FX K mg) : Meth K (He.ga K "Modulo") "add" (He.ma K (He.ga K "Modulo") "add") := Z.meth 36 rfl
theorem z37 (Z : FX K mg) : Meth K (He.ga K "Fractions") "add" (He.ma K (He.ga K "Fractions") "add") := Z.meth 37 rfl
theorem z38 (Z : FX K mg) : Meth K (He.ga K "Modulo") "negative" (He.ma K (He.ga K "Modulo") "negative") := Z.meth 38 rfl
theorem z39 (Z : FX K mg) : Meth K (He.ga K "Fractions") "negative" (He.ma K (He.ga K "Fractions") "negative") := Z.meth 39 rfl
theorem z40 (Z : FX K mg) : (decide (He.ma K (He.ga K "Fractions") "subtract" = (fun K => He.ma K (He.ga K "Field") "subtract") K)) = true := Z.fact (f := fun K => decide (He.ma K (He.ga K "Fractions") "subtract" = (fun K => He.ma K (He.ga K "Field") "subtract") K)) 40 rfl
theorem z41 (Z : FX K mg) : (decide (He.ma K (He.ga K "Modulo") "subtract" = (fun K => He.ma K (He.ga K "Field") "subtract") K)) = true := Z.fact (f := fun K => decide (He.ma K (He.ga K "Modulo") "subtract" = (fun K => He.ma K (He.ga K "Field") "subtract") K)) 41 rfl
theorem z42 (Z : FX K mg) : Meth K (He.ga K "Modulo") "need_numbers" (He.ma K (He.ga K "Modulo") "need_numbers") := Z.meth 42 rfl
theorem z43 (Z : FX K mg) : Meth K (He.ga K "Fractions") "need_numbers" (He.ma K (He.ga K "Fractions") "need_numbers") := Z.meth 43 rfl
theorem z44 (Z : FX K mg) : Meth K (He.ga K "Modulo") "subtract" (He.ma K (He.ga K "Modulo") "subtract") := Z.meth 44 rfl
theorem z45 (Z : FX K mg) : Meth K (He.ga K "Fractions") "subtract" (He.ma K (He.ga K "Fractions") "subtract") := Z.meth 45 rfl
theorem z46 (Z : FX K mg) : (decide (He.ma K (He.ga K "Fractions") "minus" = (fun K => He.ma K (He.ga K "Field") "minus") K)) = true := Z.fact (f := fun K => decide (He.ma K (He.ga K "Fractions") "minus" = (fun K => He.ma K (He.ga K "Field") "minus") K)) 46 rfl
theorem z47 (Z : FX K mg) : (decide (He.ma K (He.ga K "Modulo") "minus" = (fun K => He.ma K (He.ga K "Field") "minus") K)) = true := Z.fact (f := fun K => decide (He.ma K (He.ga K "Modulo") "minus" = (fun K => He.ma K (He.ga K "Field") "minus") K)) 47 rfl
theorem z48 (Z : FX K mg) : mg "power" = some (.ref (He.ga K "power")) := Z.glo 48 rfl
theorem z49 (Z : FX K mg) : mg "NoQuotient" = some (.ref (He.ga K "NoQuotient")) := Z.glo 49 rfl
theorem z50 (Z : FX K mg) : Meth K (He.ga K "Modulo") "divide" (He.ma K (He.ga K "Modulo") "divide") := Z.meth 50 rfl
theorem z51 (Z : FX K mg) : Meth K (He.ga K "Fractions") "divide" (He.ma K (He.ga K "Fractions") "divide") := Z.meth 51 rfl
theorem z52 (Z : FX K mg) : (decide (He.ma K (He.ga K "Fractions") "over" = (fun K => He.ma K (He.ga K "Field") "over") K)) = true := Z.fact (f := fun K => decide (He.ma K (He.ga K "Fractions") "over" = (fun K => He.ma K (He.ga K "Field") "over") K)) 52 rfl
theorem z53 (Z : FX K mg) : (decide (He.ma K (He.ga K "Modulo") "over" = (fun K => He.ma K (He.ga K "Field") "over") K)) = true := Z.fact (f := fun K => decide (He.ma K (He.ga K "Modulo") "over" = (fun K => He.ma K (He.ga K "Field") "over") K)) 53 rfl
theorem z54 (Z : FX K mg) : (decide (He.ma K (He.ga K "Fractions") "plus" = (fun K => He.ma K (He.ga K "Field") "plus") K)) = true := Z.fact (f := fun K => decide (He.ma K (He.ga K "Fractions") "plus" = (fun K => He.ma K (He.ga K "Field") "plus") K)) 54 rfl
theorem z55 (Z : FX K mg) : (decide (He.ma K (He.ga K "Modulo") "plus" = (fun K => He.ma K (He.ga K "Field") "plus") K)) = true := Z.fact (f := fun K => decide (He.ma K (He.ga K "Modulo") "plus" = (fun K => He.ma K (He.ga K "Field") "plus") K)) 55 rfl
theorem z56 (Z : FX K mg) : Meth K (He.ga K "Modulo") "multiply" (He.ma K (He.ga K "Modulo") "multiply") := Z.meth 56 rfl
theorem z57 (Z : FX K mg) : Meth K (He.ga K "Fractions") "multiply" (He.ma K (He.ga K "Fractions") "multiply") := Z.meth 57 rfl
theorem z58 (Z : FX K mg) : (decide (He.ma K (He.ga K "Fractions") "times" = (fun K => He.ma K (He.ga K "Field") "times") K)) = true := Z.fact (f := fun K => decide (He.ma K (He.ga K "Fractions") "times" = (fun K => He.ma K (He.ga K "Field") "times") K)) 58 rfl
theorem z59 (Z : FX K mg) : (decide (He.ma K (He.ga K "Modulo") "times" = (fun K => He.ma K (He.ga K "Field") "times") K)) = true := Z.fact (f := fun K => decide (He.ma K (He.ga K "Modulo") "times" = (fun K => He.ma K (He.ga K "Field") "times") K)) 59 rfl
theorem z60 (Z : FX K mg) : BMeth K (He.ga K "Modulo") "need_numbers" (He.ma K (He.ga K "Modulo") "need_numbers") := Z.bm 60 rfl
theorem z61 (Z : FX K mg) : BMeth K (He.ga K "Fractions") "need_numbers" (He.ma K (He.ga K "Fractions") "need_numbers") := Z.bm 61 rfl
theorem z62 (Z : FX K mg) : (decide (He.ma K (He.ga K "Fractions") "total" = (fun K => He.ma K (He.ga K "Field") "total") K)) = true := Z.fact (f := fun K => decide (He.ma K (He.ga K "Fractions") "total" = (fun K => He.ma K (He.ga K "Field") "total") K)) 62 rfl
theorem z63 (Z : FX K mg) : (decide (He.ma K (He.ga K "Modulo") "total" = (fun K => He.ma K (He.ga K "Field") "total") K)) = true := Z.fact (f := fun K => decide (He.ma K (He.ga K "Modulo") "total" = (fun K => He.ma K (He.ga K "Field") "total") K)) 63 rfl
theorem z65 (Z : FX K mg) : mg "super" = none := Z.free 65 rfl
theorem z66 (Z : FX K mg) : ∃ t, mg "MAX_PRIME" = some (.int 1000000000 t) := Z.int 66 rfl
theorem z67 (Z : FX K mg) : mg "SMALL_PRIMES" = some (.ref (He.ga K "SMALL_PRIMES")) := Z.glo 67 rfl
theorem z68 (Z : FX K mg) : KT K (He.ga K "SMALL_PRIMES") (([.int 2, .int 3, .int 5, .int 7, .int 11, .int 13, .int 17, .int 19, .int 23, .int 29, .int 31, .int 37] : List He.Dv).map (He.Dv.v K)) := Z.tup 68 rfl
theorem z69 (Z : FX K mg) : mg "WITNESSES" = some (.ref (He.ga K "WITNESSES")) := Z.glo 69 rfl
theorem z70 (Z : FX K mg) : KT K (He.ga K "WITNESSES") (([.int 2, .int 3, .int 5, .int 7] : List He.Dv).map (He.Dv.v K)) := Z.tup 70 rfl
theorem z71 (Z : FX K mg) : mg "is_witness" = some (.ref (He.ga K "is_witness")) := Z.glo 71 rfl
theorem z72 (Z : FX K mg) : mg "any" = none := Z.free 72 rfl
theorem z73 (Z : FX K mg) : mg "is_prime" = some (.ref (He.ga K "is_prime")) := Z.glo 73 rfl
theorem z74 (Z : FX K mg) : mg "InvalidPrime" = some (.ref (He.ga K "InvalidPrime")) := Z.glo 74 rfl
theorem z76 (Z : FX K mg) : mg "_law_draw" = some (.ref (He.ga K "_law_draw")) := Z.glo 76 rfl
theorem z77 (Z : FX K mg) : mg "_law_pick" = some (.ref (He.ga K "_law_pick")) := Z.glo 77 rfl
theorem z78 (Z : FX K mg) : mg "_law_tens" = some (.ref (He.ga K "_law_tens")) := Z.glo 78 rfl
theorem z79 (Z : FX K mg) : mg "_law_gcd" = some (.ref (He.ga K "_law_gcd")) := Z.glo 79 rfl
theorem z80 (Z : FX K mg) : mg "_law_number" = some (.ref (He.ga K "_law_number")) := Z.glo 80 rfl
theorem z81 (Z : FX K mg) : mg "_law_signed" = some (.ref (He.ga K "_law_signed")) := Z.glo 81 rfl
theorem z82 (Z : FX K mg) : mg "_law_far" = some (.ref (He.ga K "_law_far")) := Z.glo 82 rfl
theorem z83 (Z : FX K mg) : mg "max" = none := Z.free 83 rfl
theorem z84 (Z : FX K mg) : mg "_law_told" = some (.ref (He.ga K "_law_told")) := Z.glo 84 rfl
theorem z85 (Z : FX K mg) : mg "_law_prime" = some (.ref (He.ga K "_law_prime")) := Z.glo 85 rfl
theorem z86 (Z : FX K mg) : mg "_law_is_whole" = some (.ref (He.ga K "_law_is_whole")) := Z.glo 86 rfl
theorem z87 (Z : FX K mg) : mg "_law_is_number" = some (.ref (He.ga K "_law_is_number")) := Z.glo 87 rfl
theorem z88 (Z : FX K mg) : SysD K := Z.sys 88 rfl
theorem z89 (Z : FX K mg) : mg "repr" = none := Z.free 89 rfl
theorem z90 (Z : FX K mg) : Mk K (He.ga K "Fractions") (He.ma K (He.ga K "Fractions") "__init__") := Z.mkr 90 rfl
theorem z91 (Z : FX K mg) : mg "Fractions" = some (.ref (He.ga K "Fractions")) := Z.glo 91 rfl
theorem z92 (Z : FX K mg) : Mk K (He.ga K "Modulo") (He.ma K (He.ga K "Modulo") "__init__") := Z.mkr 92 rfl
theorem z93 (Z : FX K mg) : mg "Modulo" = some (.ref (He.ga K "Modulo")) := Z.glo 93 rfl
theorem z94 (Z : FX K mg) : mg "list" = none := Z.free 94 rfl
theorem z95 (Z : FX K mg) : ExTab K (((fun K => .ref (He.ga K "InvalidNumber") : Frag → Value)) K) [("InvalidNumber", true), ("InvalidPrime", false), ("NoQuotient", false)] := Z.exm 95 rfl
theorem z96 (Z : FX K mg) : ExcC K (He.ga K "InvalidNumber") := Z.xc 96 rfl
theorem z97 (Z : FX K mg) : KitTab K "InvalidNumber" [("ValueError", true), ("LookupError", false), ("ArithmeticError", false), ("OverflowError", false), ("RuntimeError", false)] := Z.kt 97 rfl
theorem z98 (Z : FX K mg) : ExTab K (((fun K => .ref (He.ga K "NoQuotient") : Frag → Value)) K) [("InvalidNumber", false), ("InvalidPrime", false), ("NoQuotient", true)] := Z.exm 98 rfl
theorem z99 (Z : FX K mg) : mg "_law_pen" = some (.ref (He.ga K "_law_pen")) := Z.glo 99 rfl
theorem z100 (Z : FX K mg) : mg "_law_any_prime" = some (.ref (He.ga K "_law_any_prime")) := Z.glo 100 rfl
theorem z101 (Z : FX K mg) : mg "_law_made_field" = some (.ref (He.ga K "_law_made_field")) := Z.glo 101 rfl
theorem z102 (Z : FX K mg) : mg "Field" = some (.ref (He.ga K "Field")) := Z.glo 102 rfl
theorem z103 (Z : FX K mg) : mg "_law_any_number" = some (.ref (He.ga K "_law_any_number")) := Z.glo 103 rfl
theorem z104 (Z : FX K mg) : mg "_law_odd" = some (.ref (He.ga K "_law_odd")) := Z.glo 104 rfl
theorem z105 (Z : FX K mg) : mg "_law_first_wrong" = some (.ref (He.ga K "_law_first_wrong")) := Z.glo 105 rfl
theorem z106 (Z : FX K mg) : Meth K (He.ga K "Modulo") "plus" (He.ma K (He.ga K "Modulo") "plus") := Z.meth 106 rfl
theorem z107 (Z : FX K mg) : Meth K (He.ga K "Fractions") "plus" (He.ma K (He.ga K "Fractions") "plus") := Z.meth 107 rfl
theorem z108 (Z : FX K mg) : Meth K (He.ga K "Modulo") "minus" (He.ma K (He.ga K "Modulo") "minus") := Z.meth 108 rfl
theorem z109 (Z : FX K mg) : Meth K (He.ga K "Fractions") "minus" (He.ma K (He.ga K "Fractions") "minus") := Z.meth 109 rfl
theorem z110 (Z : FX K mg) : Meth K (He.ga K "Modulo") "times" (He.ma K (He.ga K "Modulo") "times") := Z.meth 110 rfl
theorem z111 (Z : FX K mg) : Meth K (He.ga K "Fractions") "times" (He.ma K (He.ga K "Fractions") "times") := Z.meth 111 rfl
theorem z112 (Z : FX K mg) : mg "_law_told_of" = some (.ref (He.ga K "_law_told_of")) := Z.glo 112 rfl
theorem z113 (Z : FX K mg) : Meth K (He.ga K "Modulo") "over" (He.ma K (He.ga K "Modulo") "over") := Z.meth 113 rfl
theorem z114 (Z : FX K mg) : Meth K (He.ga K "Fractions") "over" (He.ma K (He.ga K "Fractions") "over") := Z.meth 114 rfl
theorem z115 (Z : FX K mg) : Meth K (He.ga K "Modulo") "total" (He.ma K (He.ga K "Modulo") "total") := Z.meth 115 rfl
theorem z116 (Z : FX K mg) : Meth K (He.ga K "Fractions") "total" (He.ma K (He.ga K "Fractions") "total") := Z.meth 116 rfl
theorem z117 (Z : FX K mg) : mg "law" = some (.ref (He.ga K "law")) := Z.glo 117 rfl
theorem z118 (Z : FX K mg) : IsiOk K it0 := Z.isi 118 rfl
theorem z_isi (Z : FX K mg) : IsiOk K it0 := z118 Z
theorem x_InvalidNumber (Z : FX K mg) : ∃ fd, FnOk PP w K mg base (L2.CX PP w) 1 (He.ma K (He.ga K "InvalidNumber") "__init__") fd ["self", "value"] (spI1 (He.ga K "InvalidNumber") "value") ∧ Binds K fd ["self", "value"] [] := by
  obtain ⟨fd, F⟩ := Z.df 0 (d := d_InvalidNumber___init__) rfl rfl
  exact ⟨fd, fn_init1 F ⟨rfl, rfl, rfl, by decide +kernel, rfl, by decide +kernel, by decide +kernel⟩ rfl rfl (by decide) (by decide) (z0 Z) ((z1 Z)).1 (z2 Z), F.bindsN (ps := ["self", "value"]) fun _ _ _ _ _ _ us hl => match us, hl with | [_, _], _ => rfl⟩
theorem x_InvalidPrime (Z : FX K mg) : ∃ fd, FnOk PP w K mg base (L2.CX PP w) 1 (He.ma K (He.ga K "InvalidPrime") "__init__") fd ["self", "value"] (spI1 (He.ga K "InvalidPrime") "value") ∧ Binds K fd ["self", "value"] [] := by
  obtain ⟨fd, F⟩ := Z.df 1 (d := d_InvalidPrime___init__) rfl rfl
  exact ⟨fd, fn_init1 F ⟨rfl, rfl, rfl, by decide +kernel, rfl, by decide +kernel, by decide +kernel⟩ rfl rfl (by decide) (by decide) (z0 Z) ((z3 Z)).1 (z4 Z), F.bindsN (ps := ["self", "value"]) fun _ _ _ _ _ _ us hl => match us, hl with | [_, _], _ => rfl⟩
theorem x_NoQuotient (Z : FX K mg) : ∃ fd, FnOk PP w K mg base (L2.CX PP w) 1 (He.ma K (He.ga K "NoQuotient") "__init__") fd ["self"] (spI0 (He.ga K "NoQuotient")) ∧ Binds K fd ["self"] [] := by
  obtain ⟨fd, F⟩ := Z.df 2 (d := d_NoQuotient___init__) rfl rfl
  exact ⟨fd, fn_init0 F ⟨rfl, rfl, rfl, by decide +kernel, rfl, by decide +kernel, by decide +kernel⟩ rfl rfl (z5 Z) ((z6 Z)).1, F.bindsN (ps := ["self"]) fun _ _ _ _ _ _ us hl => match us, hl with | [_], _ => rfl⟩
noncomputable def b_Field___init__ : DS := fldS ["Fractions", "Modulo"] "own_prime" (vM 0) (vM 1)
noncomputable def m_Field___init__ : DF := bodyM 2 [] 2 b_Field___init__
theorem c_Field___init__ (Z : FX K mg) {f : Addr} : BodyD PP w K mg base ["self", "prime"] "Field.__init__" (defScope s_Field___init__) f 0 (defBody s_Field___init__) b_Field___init__ := by
  intro cdv A outer s H E hr
  have nd : (["self", "prime"] : List Str).Nodup := by decide +kernel
  have tk : Takes (cxOf (L2.CX PP w) PP w K mg base ["self", "prime"] "Field.__init__" (defScope s_Field___init__) f cdv A outer s H E) (fun c d _ H' => E c d H') := takes_of rfl rfl rfl rfl
  have hp := passes_of (X := cxOf (L2.CX PP w) PP w K mg base ["self", "prime"] "Field.__init__" (defScope s_Field___init__) f cdv A outer s H E) rfl
  have hu := hr.rm.units
  have hu1 : _ + 1 < cLine := Nat.lt_of_le_of_lt (Nat.add_le_add_left (by decide : 1 ≤ 64) _) hu
  exact (s_one (s_fld (List.forall_mem_cons.2 ⟨⟨(z9 Z), (z10 Z)⟩, (List.forall_mem_cons.2 ⟨⟨(z7 Z), (z8 Z)⟩, (List.forall_mem_nil _)⟩)⟩) (ev 0) (ev 1)))
theorem f_Field___init__ (Z : FX K mg) : FnD PP w K mg base 1 ((fun K => He.ma K (He.ga K "Field") "__init__") K) m_Field___init__ := by
  obtain ⟨fd, F0⟩ := Z.df 3 (d := d_Field___init__) rfl rfl
  have F : FunD K "__init__" "Field.__init__" (defArgs s_Field___init__) (defBody s_Field___init__) (defScope s_Field___init__) [] [] ((fun K => He.ma K (He.ga K "Field") "__init__") K) fd := cast (by kernel_rfl) F0
  exact fn_ok0 (x := "__init__") (qual := "Field.__init__") (params := defArgs s_Field___init__) (body := defBody s_Field___init__) (scope := defScope s_Field___init__) (kws := []) (N := ["self", "prime"]) (ps := ["self", "prime"]) (k := 0) (b := b_Field___init__) F ⟨by kernel_rfl, by kernel_rfl, by kernel_rfl, by decide +kernel, by kernel_rfl, by decide +kernel, by decide +kernel⟩ (fun _ _ _ _ _ _ us hl => match us, hl with | [_, _], _ => by kernel_rfl) (c_Field___init__ Z)
noncomputable def b_common_divisor : DS := seqS (whileS (blM (binM neD (vM 1) (cM (.int 0)))) (par2S 0 1 (consA (vM 1) (consA (binM modD (vM 0) (vM 1)) (nilA))))) (retS (argM (absD) (consA (vM 0) (nilA))))
noncomputable def m_common_divisor : DF := bodyM 2 [] 2 b_common_divisor
theorem c_common_divisor (Z : FX K mg) {f : Addr} : BodyD PP w K mg base ["one", "other"] "common_divisor" (defScope s_common_divisor) f 0 (defBody s_common_divisor) b_common_divisor := by
  intro cdv A outer s H E hr
  have nd : (["one", "other"] : List Str).Nodup := by decide +kernel
  have tk : Takes (cxOf (L2.CX PP w) PP w K mg base ["one", "other"] "common_divisor" (defScope s_common_divisor) f cdv A outer s H E) (fun c d _ H' => E c d H') := takes_of rfl rfl rfl rfl
  have hp := passes_of (X := cxOf (L2.CX PP w) PP w K mg base ["one", "other"] "common_divisor" (defScope s_common_divisor) f cdv A outer s H E) rfl
  have hu := hr.rm.units
  have hu1 : _ + 1 < cLine := Nat.lt_of_le_of_lt (Nat.add_le_add_left (by decide : 1 ≤ 64) _) hu
  exact (s_cons (s_while hp (t_ne hu (ev 1) e_int) (s_one (s_par2 rfl nd rfl rfl (by decide) rfl rfl (a_cons (ev 1) (a_cons (e_mod (ev 0) (ev 1)) a_nil)))))
    (s_one (s_ret (e_callB call_abs v_abs rfl (z11 Z) (by decide +kernel) (a_cons (ev 0) a_nil)))))
theorem f_common_divisor (Z : FX K mg) : FnD PP w K mg base 1 ((fun K => He.ga K "common_divisor") K) m_common_divisor := by
  obtain ⟨fd, F0⟩ := Z.df 4 (d := d_common_divisor) rfl rfl
  have F : FunD K "common_divisor" "common_divisor" (defArgs s_common_divisor) (defBody s_common_divisor) (defScope s_common_divisor) [] [] ((fun K => He.ga K "common_divisor") K) fd := cast (by kernel_rfl) F0
  exact fn_ok0 (x := "common_divisor") (qual := "common_divisor") (params := defArgs s_common_divisor) (body := defBody s_common_divisor) (scope := defScope s_common_divisor) (kws := []) (N := ["one", "other"]) (ps := ["one", "other"]) (k := 0) (b := b_common_divisor) F ⟨by kernel_rfl, by kernel_rfl, by kernel_rfl, by decide +kernel, by kernel_rfl, by decide +kernel, by decide +kernel⟩ (fun _ _ _ _ _ _ us hl => match us, hl with | [_, _], _ => by kernel_rfl) (c_common_divisor Z)
theorem k_common_divisor (Z : FX K mg) : PySem.W.keepIn K (.ref ((fun K => He.ga K "common_divisor") K)) = true := Z.keep 4 (d := d_common_divisor) rfl
noncomputable def b_is_integer : DS := retS (andV (argM (isiD it0) (consA (vM 0) (consA (cM (.ty "int")) (nilA)))) (notV (argM (isiD it0) (consA (vM 0) (consA (cM (.ty "bool")) (nilA))))))
noncomputable def m_is_integer : DF := bodyM 1 [] 1 b_is_integer
theorem c_is_integer (Z : FX K mg) {f : Addr} : BodyD PP w K mg base ["value"] "is_integer" (defScope s_is_integer) f 0 (defBody s_is_integer) b_is_integer := by
  intro cdv A outer s H E hr
  have nd : (["value"] : List Str).Nodup := by decide +kernel
  have tk : Takes (cxOf (L2.CX PP w) PP w K mg base ["value"] "is_integer" (defScope s_is_integer) f cdv A outer s H E) (fun c d _ H' => E c d H') := takes_of rfl rfl rfl rfl
  have hp := passes_of (X := cxOf (L2.CX PP w) PP w K mg base ["value"] "is_integer" (defScope s_is_integer) f cdv A outer s H E) rfl
  have hu := hr.rm.units
  have hu1 : _ + 1 < cLine := Nat.lt_of_le_of_lt (Nat.add_le_add_left (by decide : 1 ≤ 64) _) hu
  exact (s_one (s_ret (e_and (e_callB call_isi (v_isi (z_isi Z)) rfl (z13 Z) (by decide +kernel) (a_cons (ev 0) (a_cons (e_ty (n := "int") rfl (z12 Z) (by decide +kernel)) a_nil))) (e_one (e_not (e_callB call_isi (v_isi (z_isi Z)) rfl (z13 Z) (by decide +kernel) (a_cons (ev 0) (a_cons (e_ty (n := "bool") rfl (z14 Z) (by decide +kernel)) a_nil))))))))
theorem f_is_integer (Z : FX K mg) : FnD PP w K mg base 1 ((fun K => He.ga K "is_integer") K) m_is_integer := by
  obtain ⟨fd, F0⟩ := Z.df 5 (d := d_is_integer) rfl rfl
  have F : FunD K "is_integer" "is_integer" (defArgs s_is_integer) (defBody s_is_integer) (defScope s_is_integer) [] [] ((fun K => He.ga K "is_integer") K) fd := cast (by kernel_rfl) F0
  exact fn_ok0 (x := "is_integer") (qual := "is_integer") (params := defArgs s_is_integer) (body := defBody s_is_integer) (scope := defScope s_is_integer) (kws := []) (N := ["value"]) (ps := ["value"]) (k := 0) (b := b_is_integer) F ⟨by kernel_rfl, by kernel_rfl, by kernel_rfl, by decide +kernel, by kernel_rfl, by decide +kernel, by decide +kernel⟩ (fun _ _ _ _ _ _ us hl => match us, hl with | [_], _ => by kernel_rfl) (c_is_integer Z)
theorem k_is_integer (Z : FX K mg) : PySem.W.keepIn K (.ref ((fun K => He.ga K "is_integer") K)) = true := Z.keep 5 (d := d_is_integer) rfl
noncomputable def b_Fractions_is_any : DS := seqS (ifS (notT (truM (argM (isiD it0) (consA (vM 1) (consA (cM (.ty "tuple")) (nilA)))))) (retS (callM m_is_integer (consA (vM 1) (nilA)))) (skipS)) (seqS (ifS (orT (blM (binM neD (argM (lenD) (consA (vM 1) (nilA))) (cM (.int 2)))) (orT (notT (truM (argM (allD) (consA (lcM false (seqI (vM 1)) (nameG 2) (yesM) (callM m_is_integer (consA (vM 2) (nilA))) [2]) (nilA))))) (blM (binM ltI (binM idxD (vM 1) (cM (.int 1))) (cM (.int 2)))))) (retS (cM (.bl false))) (skipS)) (retS ((binM eqD (callM m_common_divisor (consA (binM idxD (vM 1) (cM (.int 0))) (consA (binM idxD (vM 1) (cM (.int 1))) (nilA)))) (cM (.int 1))))))
noncomputable def m_Fractions_is_any : DF := bodyM 2 [] 3 b_Fractions_is_any
theorem c_Fractions_is_any (Z : FX K mg) {f : Addr} : BodyD PP w K mg base ["self", "value", "part"] "Fractions.is_any" (defScope s_Fractions_is_any) f 1 (defBody s_Fractions_is_any) b_Fractions_is_any := by
  intro cdv A outer s H E hr
  have nd : (["self", "value", "part"] : List Str).Nodup := by decide +kernel
  have tk : Takes (cxOf (L2.CX PP w) PP w K mg base ["self", "value", "part"] "Fractions.is_any" (defScope s_Fractions_is_any) f cdv A outer s H E) (fun c d _ H' => E c d H') := takes_of rfl rfl rfl rfl
  have hp := passes_of (X := cxOf (L2.CX PP w) PP w K mg base ["self", "value", "part"] "Fractions.is_any" (defScope s_Fractions_is_any) f cdv A outer s H E) rfl
  have hu := hr.rm.units
  have hu1 : _ + 1 < cLine := Nat.lt_of_le_of_lt (Nat.add_le_add_left (by decide : 1 ≤ 64) _) hu
  exact (s_cons (s_if (t_not (t_truth (e_callB call_isi (v_isi (z_isi Z)) rfl (z13 Z) (by decide +kernel) (a_cons (ev 1) (a_cons (e_ty (n := "tuple") rfl (z15 Z) (by decide +kernel)) a_nil))))) (s_one (s_ret (e_call tk (f_is_integer Z) (hr.mono (Nat.le_of_ble_eq_true rfl) : Rm 1 _) rfl (z16 Z) (k_is_integer Z) (a_cons (ev 1) a_nil)))) s_nil)
    (s_cons (s_if (PW.pt (w_or (t_ne hu (e_callB call_len v_len rfl (z17 Z) (by decide +kernel) (a_cons (ev 1) a_nil)) e_int) (w_or (t_not (t_truth (e_callB (cr_all rfl) v_all rfl (z18 Z) (by decide +kernel) (a_cons (e_lc false rfl nd (i_seq (ev 1)) (own := ([("part", 2)] : List (Str × Nat))) (show BlkOk ["self", "value", "part"] (defScope s_Fractions_is_any) _ _ from ⟨rfl, by decide +kernel, by decide +kernel, by decide +kernel, by decide +kernel⟩) (fun _ _ _ _ _ => (gw_name nd rfl (by first | exact .inl rfl | exact .inr rfl) (by decide))) (fun _ _ _ _ _ => ts_nil) (fun _ _ _ _ _ => (e_call takes_blk (f_is_integer Z) (hr.mono (Nat.le_of_ble_eq_true rfl) : Rm 1 _) rfl (z16 Z) (k_is_integer Z) (a_cons (ev 2) a_nil)))) a_nil)))) (w_or1 (t_lt (e_idx hu1 (ev 1) e_int) e_int))))) (s_one (s_ret e_bl)) s_nil)
    (s_one (s_ret (e_eq hu (e_call tk (f_common_divisor Z) (hr.mono (Nat.le_of_ble_eq_true rfl) : Rm 1 _) rfl (z19 Z) (k_common_divisor Z) (a_cons (e_idx hu1 (ev 1) e_int) (a_cons (e_idx hu1 (ev 1) e_int) a_nil))) e_int)))))
theorem f_Fractions_is_any (Z : FX K mg) : FnD PP w K mg base 2 ((fun K => He.ma K (He.ga K "Fractions") "is_any") K) m_Fractions_is_any := by
  obtain ⟨fd, F0⟩ := Z.df 6 (d := d_Fractions_is_any) rfl rfl
  have F : FunD K "is_any" "Fractions.is_any" (defArgs s_Fractions_is_any) (defBody s_Fractions_is_any) (defScope s_Fractions_is_any) [] [] ((fun K => He.ma K (He.ga K "Fractions") "is_any") K) fd := cast (by kernel_rfl) F0
  exact fn_ok0 (x := "is_any") (qual := "Fractions.is_any") (params := defArgs s_Fractions_is_any) (body := defBody s_Fractions_is_any) (scope := defScope s_Fractions_is_any) (kws := []) (N := ["self", "value", "part"]) (ps := ["self", "value"]) (k := 1) (b := b_Fractions_is_any) F ⟨by kernel_rfl, by kernel_rfl, by kernel_rfl, by decide +kernel, by kernel_rfl, by decide +kernel, by decide +kernel⟩ (fun _ _ _ _ _ _ us hl => match us, hl with | [_, _], _ => by kernel_rfl) (c_Fractions_is_any Z)
theorem f_Fractions_is_any_at_Fractions (Z : FX K mg) : FnD PP w K mg base 2 (He.ma K (He.ga K "Fractions") "is_any") m_Fractions_is_any := f_Fractions_is_any Z
noncomputable def b_is_between : DS := retS (andV (callM m_is_integer (consA (vM 0) (nilA))) ((chainM leI leI (vM 1) (vM 0) (vM 2))))
noncomputable def m_is_between : DF := bodyM 3 [] 3 b_is_between
theorem c_is_between (Z : FX K mg) {f : Addr} : BodyD PP w K mg base ["value", "least", "most"] "is_between" (defScope s_is_between) f 1 (defBody s_is_between) b_is_between := by
  intro cdv A outer s H E hr
  have nd : (["value", "least", "most"] : List Str).Nodup := by decide +kernel
  have tk : Takes (cxOf (L2.CX PP w) PP w K mg base ["value", "least", "most"] "is_between" (defScope s_is_between) f cdv A outer s H E) (fun c d _ H' => E c d H') := takes_of rfl rfl rfl rfl
  have hp := passes_of (X := cxOf (L2.CX PP w) PP w K mg base ["value", "least", "most"] "is_between" (defScope s_is_between) f cdv A outer s H E) rfl
  have hu := hr.rm.units
  have hu1 : _ + 1 < cLine := Nat.lt_of_le_of_lt (Nat.add_le_add_left (by decide : 1 ≤ 64) _) hu
  exact (s_one (s_ret (e_and (e_call tk (f_is_integer Z) (hr.mono (Nat.le_of_ble_eq_true rfl) : Rm 1 _) rfl (z16 Z) (k_is_integer Z) (a_cons (ev 0) a_nil)) (e_one (e_chain o_le o_le v_ord v_ord (ev 1) (ev 0) (ev 2))))))
theorem f_is_between (Z : FX K mg) : FnD PP w K mg base 2 ((fun K => He.ga K "is_between") K) m_is_between := by
  obtain ⟨fd, F0⟩ := Z.df 7 (d := d_is_between) rfl rfl
  have F : FunD K "is_between" "is_between" (defArgs s_is_between) (defBody s_is_between) (defScope s_is_between) [] [] ((fun K => He.ga K "is_between") K) fd := cast (by kernel_rfl) F0
  exact fn_ok0 (x := "is_between") (qual := "is_between") (params := defArgs s_is_between) (body := defBody s_is_between) (scope := defScope s_is_between) (kws := []) (N := ["value", "least", "most"]) (ps := ["value", "least", "most"]) (k := 1) (b := b_is_between) F ⟨by kernel_rfl, by kernel_rfl, by kernel_rfl, by decide +kernel, by kernel_rfl, by decide +kernel, by decide +kernel⟩ (fun _ _ _ _ _ _ us hl => match us, hl with | [_, _, _], _ => by kernel_rfl) (c_is_between Z)
theorem k_is_between (Z : FX K mg) : PySem.W.keepIn K (.ref ((fun K => He.ga K "is_between") K)) = true := Z.keep 7 (d := d_is_between) rfl
noncomputable def b_Modulo_is_any : DS := retS (callM m_is_between (consA (vM 1) (consA (cM (.int 0)) (consA (binM subD (attrM [("Fractions", .fld), ("Modulo", .fld)] "own_prime" (vM 0)) (cM (.int 1))) (nilA)))))
noncomputable def m_Modulo_is_any : DF := bodyM 2 [] 2 b_Modulo_is_any
theorem c_Modulo_is_any (Z : FX K mg) {f : Addr} : BodyD PP w K mg base ["self", "value"] "Modulo.is_any" (defScope s_Modulo_is_any) f 2 (defBody s_Modulo_is_any) b_Modulo_is_any := by
  intro cdv A outer s H E hr
  have nd : (["self", "value"] : List Str).Nodup := by decide +kernel
  have tk : Takes (cxOf (L2.CX PP w) PP w K mg base ["self", "value"] "Modulo.is_any" (defScope s_Modulo_is_any) f cdv A outer s H E) (fun c d _ H' => E c d H') := takes_of rfl rfl rfl rfl
  have hp := passes_of (X := cxOf (L2.CX PP w) PP w K mg base ["self", "value"] "Modulo.is_any" (defScope s_Modulo_is_any) f cdv A outer s H E) rfl
  have hu := hr.rm.units
  have hu1 : _ + 1 < cLine := Nat.lt_of_le_of_lt (Nat.add_le_add_left (by decide : 1 ≤ 64) _) hu
  exact (s_one (s_ret (e_call tk (f_is_between Z) (hr.mono (Nat.le_of_ble_eq_true rfl) : Rm 2 _) rfl (z20 Z) (k_is_between Z) (a_cons (ev 1) (a_cons e_int (a_cons (e_sub (e_attr (.fld (z9 Z) (z10 Z) (.fld (z7 Z) (z8 Z) .nil)) (ev 0)) e_int) a_nil))))))
theorem f_Modulo_is_any (Z : FX K mg) : FnD PP w K mg base 3 ((fun K => He.ma K (He.ga K "Modulo") "is_any") K) m_Modulo_is_any := by
  obtain ⟨fd, F0⟩ := Z.df 8 (d := d_Modulo_is_any) rfl rfl
  have F : FunD K "is_any" "Modulo.is_any" (defArgs s_Modulo_is_any) (defBody s_Modulo_is_any) (defScope s_Modulo_is_any) [] [] ((fun K => He.ma K (He.ga K "Modulo") "is_any") K) fd := cast (by kernel_rfl) F0
  exact fn_ok0 (x := "is_any") (qual := "Modulo.is_any") (params := defArgs s_Modulo_is_any) (body := defBody s_Modulo_is_any) (scope := defScope s_Modulo_is_any) (kws := []) (N := ["self", "value"]) (ps := ["self", "value"]) (k := 2) (b := b_Modulo_is_any) F ⟨by kernel_rfl, by kernel_rfl, by kernel_rfl, by decide +kernel, by kernel_rfl, by decide +kernel, by decide +kernel⟩ (fun _ _ _ _ _ _ us hl => match us, hl with | [_, _], _ => by kernel_rfl) (c_Modulo_is_any Z)
theorem f_Modulo_is_any_at_Modulo (Z : FX K mg) : FnD PP w K mg base 3 (He.ma K (He.ga K "Modulo") "is_any") m_Modulo_is_any := f_Modulo_is_any Z
noncomputable def b_parts_of : DS := retS (ifM (truM (argM (isiD it0) (consA (vM 0) (consA (cM (.ty "tuple")) (nilA))))) (vM 0) (argM tupD (consA (vM 0) (consA (cM (.int 1)) (nilA)))))
noncomputable def m_parts_of : DF := bodyM 1 [] 1 b_parts_of
theorem c_parts_of (Z : FX K mg) {f : Addr} : BodyD PP w K mg base ["number"] "parts_of" (defScope s_parts_of) f 0 (defBody s_parts_of) b_parts_of := by
  intro cdv A outer s H E hr
  have nd : (["number"] : List Str).Nodup := by decide +kernel
  have tk : Takes (cxOf (L2.CX PP w) PP w K mg base ["number"] "parts_of" (defScope s_parts_of) f cdv A outer s H E) (fun c d _ H' => E c d H') := takes_of rfl rfl rfl rfl
  have hp := passes_of (X := cxOf (L2.CX PP w) PP w K mg base ["number"] "parts_of" (defScope s_parts_of) f cdv A outer s H E) rfl
  have hu := hr.rm.units
  have hu1 : _ + 1 < cLine := Nat.lt_of_le_of_lt (Nat.add_le_add_left (by decide : 1 ≤ 64) _) hu
  exact (s_one (s_ret (e_if (t_truth (e_callB call_isi (v_isi (z_isi Z)) rfl (z13 Z) (by decide +kernel) (a_cons (ev 0) (a_cons (e_ty (n := "tuple") rfl (z15 Z) (by decide +kernel)) a_nil)))) (ev 0) (e_tup (a_cons (ev 0) (a_cons e_int a_nil))))))
theorem f_parts_of (Z : FX K mg) : FnD PP w K mg base 1 ((fun K => He.ga K "parts_of") K) m_parts_of := by
  obtain ⟨fd, F0⟩ := Z.df 9 (d := d_parts_of) rfl rfl
  have F : FunD K "parts_of" "parts_of" (defArgs s_parts_of) (defBody s_parts_of) (defScope s_parts_of) [] [] ((fun K => He.ga K "parts_of") K) fd := cast (by kernel_rfl) F0
  exact fn_ok0 (x := "parts_of") (qual := "parts_of") (params := defArgs s_parts_of) (body := defBody s_parts_of) (scope := defScope s_parts_of) (kws := []) (N := ["number"]) (ps := ["number"]) (k := 0) (b := b_parts_of) F ⟨by kernel_rfl, by kernel_rfl, by kernel_rfl, by decide +kernel, by kernel_rfl, by decide +kernel, by decide +kernel⟩ (fun _ _ _ _ _ _ us hl => match us, hl with | [_], _ => by kernel_rfl) (c_parts_of Z)
theorem k_parts_of (Z : FX K mg) : PySem.W.keepIn K (.ref ((fun K => He.ga K "parts_of") K)) = true := Z.keep 9 (d := d_parts_of) rfl
noncomputable def b_ten_to : DS := seqS (setS 1 (cM (.int 1))) (seqS (forS (argI rangeD1 (consA (binM divD (vM 0) (cM (.int 50))) (nilA))) (nameG 2) (augS 1 mulI (binM powD (cM (.int 10)) (cM (.int 50))))) (retS (vM 1)))
noncomputable def m_ten_to : DF := bodyM 1 [] 3 b_ten_to
theorem c_ten_to (Z : FX K mg) {f : Addr} : BodyD PP w K mg base ["digits", "found", "turn"] "ten_to" (defScope s_ten_to) f 0 (defBody s_ten_to) b_ten_to := by
  intro cdv A outer s H E hr
  have nd : (["digits", "found", "turn"] : List Str).Nodup := by decide +kernel
  have tk : Takes (cxOf (L2.CX PP w) PP w K mg base ["digits", "found", "turn"] "ten_to" (defScope s_ten_to) f cdv A outer s H E) (fun c d _ H' => E c d H') := takes_of rfl rfl rfl rfl
  have hp := passes_of (X := cxOf (L2.CX PP w) PP w K mg base ["digits", "found", "turn"] "ten_to" (defScope s_ten_to) f cdv A outer s H E) rfl
  have hu := hr.rm.units
  have hu1 : _ + 1 < cLine := Nat.lt_of_le_of_lt (Nat.add_le_add_left (by decide : 1 ≤ 64) _) hu
  exact (s_cons (s_set nd rfl (by first | exact .inl rfl | exact .inr rfl) e_int)
    (s_cons (s_for hp rfl (i_range1 rfl (z21 Z) (a_cons (e_div (ev 0) e_int) a_nil)) (g_name nd rfl (by first | exact .inl rfl | exact .inr rfl)) (s_one (s_augMul nd rfl (by first | exact .inl rfl | exact .inr rfl) (e_pow e_int e_int))))
    (s_one (s_ret (ev 1)))))
theorem f_ten_to (Z : FX K mg) : FnD PP w K mg base 1 ((fun K => He.ga K "ten_to") K) m_ten_to := by
  obtain ⟨fd, F0⟩ := Z.df 10 (d := d_ten_to) rfl rfl
  have F : FunD K "ten_to" "ten_to" (defArgs s_ten_to) (defBody s_ten_to) (defScope s_ten_to) [] [] ((fun K => He.ga K "ten_to") K) fd := cast (by kernel_rfl) F0
  exact fn_ok0 (x := "ten_to") (qual := "ten_to") (params := defArgs s_ten_to) (body := defBody s_ten_to) (scope := defScope s_ten_to) (kws := []) (N := ["digits", "found", "turn"]) (ps := ["digits"]) (k := 0) (b := b_ten_to) F ⟨by kernel_rfl, by kernel_rfl, by kernel_rfl, by decide +kernel, by kernel_rfl, by decide +kernel, by decide +kernel⟩ (fun _ _ _ _ _ _ us hl => match us, hl with | [_], _ => by kernel_rfl) (c_ten_to Z)
theorem k_ten_to (Z : FX K mg) : PySem.W.keepIn K (.ref ((fun K => He.ga K "ten_to") K)) = true := Z.keep 10 (d := d_ten_to) rfl
noncomputable def b_is_short : DS := seqS (setS 2 (callM m_ten_to (consA (vM 1) (nilA)))) (retS (argM (allD) (consA (lcM false (seqI (callM m_parts_of (consA (vM 0) (nilA)))) (nameG 3) (yesM) ((binM ltI (argM (absD) (consA (vM 3) (nilA))) (vM 2))) [3]) (nilA))))
noncomputable def m_is_short : DF := bodyM 2 [] 4 b_is_short
theorem c_is_short (Z : FX K mg) {f : Addr} : BodyD PP w K mg base ["number", "digits", "most", "part"] "is_short" (defScope s_is_short) f 1 (defBody s_is_short) b_is_short := by
  intro cdv A outer s H E hr
  have nd : (["number", "digits", "most", "part"] : List Str).Nodup := by decide +kernel
  have tk : Takes (cxOf (L2.CX PP w) PP w K mg base ["number", "digits", "most", "part"] "is_short" (defScope s_is_short) f cdv A outer s H E) (fun c d _ H' => E c d H') := takes_of rfl rfl rfl rfl
  have hp := passes_of (X := cxOf (L2.CX PP w) PP w K mg base ["number", "digits", "most", "part"] "is_short" (defScope s_is_short) f cdv A outer s H E) rfl
  have hu := hr.rm.units
  have hu1 : _ + 1 < cLine := Nat.lt_of_le_of_lt (Nat.add_le_add_left (by decide : 1 ≤ 64) _) hu
  exact (s_cons (s_set nd rfl (by first | exact .inl rfl | exact .inr rfl) (e_call tk (f_ten_to Z) (hr.mono (Nat.le_of_ble_eq_true rfl) : Rm 1 _) rfl (z22 Z) (k_ten_to Z) (a_cons (ev 1) a_nil)))
    (s_one (s_ret (e_callB (cr_all rfl) v_all rfl (z18 Z) (by decide +kernel) (a_cons (e_lc false rfl nd (i_seq (e_call tk (f_parts_of Z) (hr.mono (Nat.le_of_ble_eq_true rfl) : Rm 1 _) rfl (z23 Z) (k_parts_of Z) (a_cons (ev 0) a_nil))) (own := ([("part", 3)] : List (Str × Nat))) (show BlkOk ["number", "digits", "most", "part"] (defScope s_is_short) _ _ from ⟨rfl, by decide +kernel, by decide +kernel, by decide +kernel, by decide +kernel⟩) (fun _ _ _ _ _ => (gw_name nd rfl (by first | exact .inl rfl | exact .inr rfl) (by decide))) (fun _ _ _ _ _ => ts_nil) (fun _ _ _ _ _ => (e_lt (e_callB call_abs v_abs rfl (z11 Z) (by decide +kernel) (a_cons (ev 3) a_nil)) (ev 2)))) a_nil)))))
theorem f_is_short (Z : FX K mg) : FnD PP w K mg base 2 ((fun K => He.ga K "is_short") K) m_is_short := by
  obtain ⟨fd, F0⟩ := Z.df 11 (d := d_is_short) rfl rfl
  have F : FunD K "is_short" "is_short" (defArgs s_is_short) (defBody s_is_short) (defScope s_is_short) [] [] ((fun K => He.ga K "is_short") K) fd := cast (by kernel_rfl) F0
  exact fn_ok0 (x := "is_short") (qual := "is_short") (params := defArgs s_is_short) (body := defBody s_is_short) (scope := defScope s_is_short) (kws := []) (N := ["number", "digits", "most", "part"]) (ps := ["number", "digits"]) (k := 1) (b := b_is_short) F ⟨by kernel_rfl, by kernel_rfl, by kernel_rfl, by decide +kernel, by kernel_rfl, by decide +kernel, by decide +kernel⟩ (fun _ _ _ _ _ _ us hl => match us, hl with | [_, _], _ => by kernel_rfl) (c_is_short Z)
theorem k_is_short (Z : FX K mg) : PySem.W.keepIn K (.ref ((fun K => He.ga K "is_short") K)) = true := Z.keep 11 (d := d_is_short) rfl
noncomputable def b_Field_is_number : DS := retS (andV (methM [("Fractions", m_Fractions_is_any), ("Modulo", m_Modulo_is_any)] "is_any" (vM 0) (consA (vM 1) (nilA))) (callM m_is_short (consA (vM 1) (consA (cM (.int 100)) (nilA)))))
noncomputable def m_Field_is_number : DF := bodyM 2 [] 2 b_Field_is_number
theorem c_Field_is_number (Z : FX K mg) {f : Addr} : BodyD PP w K mg base ["self", "value"] "Field.is_number" (defScope s_Field_is_number) f 3 (defBody s_Field_is_number) b_Field_is_number := by
  intro cdv A outer s H E hr
  have nd : (["self", "value"] : List Str).Nodup := by decide +kernel
  have tk : Takes (cxOf (L2.CX PP w) PP w K mg base ["self", "value"] "Field.is_number" (defScope s_Field_is_number) f cdv A outer s H E) (fun c d _ H' => E c d H') := takes_of rfl rfl rfl rfl
  have hp := passes_of (X := cxOf (L2.CX PP w) PP w K mg base ["self", "value"] "Field.is_number" (defScope s_Field_is_number) f cdv A outer s H E) rfl
  have hu := hr.rm.units
  have hu1 : _ + 1 < cLine := Nat.lt_of_le_of_lt (Nat.add_le_add_left (by decide : 1 ≤ 64) _) hu
  exact (s_one (s_ret (e_and (e_meth tk (.cons ⟨(z9 Z), _, 2, (z25 Z), f_Fractions_is_any_at_Fractions Z, (hr.mono (Nat.le_of_ble_eq_true rfl) : Rm 2 _)⟩ (.cons ⟨(z7 Z), _, 3, (z24 Z), f_Modulo_is_any_at_Modulo Z, (hr.mono (Nat.le_of_ble_eq_true rfl) : Rm 3 _)⟩ .nil)) (ev 0) (a_cons (ev 1) a_nil)) (e_one (e_call tk (f_is_short Z) (hr.mono (Nat.le_of_ble_eq_true rfl) : Rm 2 _) rfl (z27 Z) (k_is_short Z) (a_cons (ev 1) (a_cons (e_gint rfl (z26 Z)) a_nil)))))))
theorem f_Field_is_number (Z : FX K mg) : FnD PP w K mg base 4 ((fun K => He.ma K (He.ga K "Field") "is_number") K) m_Field_is_number := by
  obtain ⟨fd, F0⟩ := Z.df 12 (d := d_Field_is_number) rfl rfl
  have F : FunD K "is_number" "Field.is_number" (defArgs s_Field_is_number) (defBody s_Field_is_number) (defScope s_Field_is_number) [] [] ((fun K => He.ma K (He.ga K "Field") "is_number") K) fd := cast (by kernel_rfl) F0
  exact fn_ok0 (x := "is_number") (qual := "Field.is_number") (params := defArgs s_Field_is_number) (body := defBody s_Field_is_number) (scope := defScope s_Field_is_number) (kws := []) (N := ["self", "value"]) (ps := ["self", "value"]) (k := 3) (b := b_Field_is_number) F ⟨by kernel_rfl, by kernel_rfl, by kernel_rfl, by decide +kernel, by kernel_rfl, by decide +kernel, by decide +kernel⟩ (fun _ _ _ _ _ _ us hl => match us, hl with | [_, _], _ => by kernel_rfl) (c_Field_is_number Z)
theorem f_Field_is_number_at_Fractions (Z : FX K mg) : FnD PP w K mg base 4 (He.ma K (He.ga K "Fractions") "is_number") m_Field_is_number := by
  have e : He.ma K (He.ga K "Fractions") "is_number" = (fun K => He.ma K (He.ga K "Field") "is_number") K := of_decide_eq_true (z28 Z)
  rw [e]
  exact f_Field_is_number Z
theorem f_Field_is_number_at_Modulo (Z : FX K mg) : FnD PP w K mg base 4 (He.ma K (He.ga K "Modulo") "is_number") m_Field_is_number := by
  have e : He.ma K (He.ga K "Modulo") "is_number" = (fun K => He.ma K (He.ga K "Field") "is_number") K := of_decide_eq_true (z29 Z)
  rw [e]
  exact f_Field_is_number Z
noncomputable def b_Field_need_numbers : DS := forS (seqI (vM 1)) (nameG 2) (ifS (notT (truM (methM [("Fractions", m_Field_is_number), ("Modulo", m_Field_is_number)] "is_number" (vM 0) (consA (vM 2) (nilA))))) (raiseS "InvalidNumber" "value" (consA (vM 2) (nilA))) (skipS))
noncomputable def m_Field_need_numbers : DF := bodyV 1 3 b_Field_need_numbers
theorem c_Field_need_numbers (Z : FX K mg) {f : Addr} : BodyD PP w K mg base ["self", "values", "value"] "Field.need_numbers" (defScope s_Field_need_numbers) f 4 (defBody s_Field_need_numbers) b_Field_need_numbers := by
  intro cdv A outer s H E hr
  have nd : (["self", "values", "value"] : List Str).Nodup := by decide +kernel
  have tk : Takes (cxOf (L2.CX PP w) PP w K mg base ["self", "values", "value"] "Field.need_numbers" (defScope s_Field_need_numbers) f cdv A outer s H E) (fun c d _ H' => E c d H') := takes_of rfl rfl rfl rfl
  have hp := passes_of (X := cxOf (L2.CX PP w) PP w K mg base ["self", "values", "value"] "Field.need_numbers" (defScope s_Field_need_numbers) f cdv A outer s H E) rfl
  have hu := hr.rm.units
  have hu1 : _ + 1 < cLine := Nat.lt_of_le_of_lt (Nat.add_le_add_left (by decide : 1 ≤ 64) _) hu
  exact (s_one (s_for hp rfl (i_seq (ev 1)) (g_name nd rfl (by first | exact .inl rfl | exact .inr rfl)) (s_one (s_if (t_not (t_truth (e_meth tk (.cons ⟨(z9 Z), _, 4, (z31 Z), f_Field_is_number_at_Fractions Z, (hr.mono (Nat.le_of_ble_eq_true rfl) : Rm 4 _)⟩ (.cons ⟨(z7 Z), _, 4, (z30 Z), f_Field_is_number_at_Modulo Z, (hr.mono (Nat.le_of_ble_eq_true rfl) : Rm 4 _)⟩ .nil)) (ev 0) (a_cons (ev 2) a_nil)))) (s_one (raise_row1 (x_InvalidNumber Z) fun fd h => s_raise1 rfl tk ⟨((z1 Z)).1, ((z1 Z)).2.1, ((z1 Z)).2.2⟩ h.1 ((hr.mono (Nat.le_of_ble_eq_true rfl) : Rm 2 _)).rm h.2 rfl (z32 Z) (a_cons (ev 2) a_nil))) s_nil))))
theorem f_Field_need_numbers (Z : FX K mg) : FnD PP w K mg base 5 ((fun K => He.ma K (He.ga K "Field") "need_numbers") K) m_Field_need_numbers := by
  obtain ⟨fd, F⟩ := Z.df 13 (d := d_Field_need_numbers) rfl rfl
  exact fn_okV (ps := ["self"]) (pv := "values") F ⟨rfl, rfl, rfl, by decide +kernel, rfl, by decide +kernel, by decide +kernel⟩ (fun b1 b2 b3 b4 b5 b6 => StX.bind_star1 (B := fun l => bindArgs (PySem.W.fnOf _ _ _ _ _ .none b1 b2 b3 b4 b5 b6) ⟨l, []⟩) (fun a0 => rfl) (fun a0 r rs => rfl)) (c_Field_need_numbers Z)
theorem f_Field_need_numbers_at_Fractions (Z : FX K mg) : FnD PP w K mg base 5 (He.ma K (He.ga K "Fractions") "need_numbers") m_Field_need_numbers := by
  have e : He.ma K (He.ga K "Fractions") "need_numbers" = (fun K => He.ma K (He.ga K "Field") "need_numbers") K := of_decide_eq_true (z33 Z)
  rw [e]
  exact f_Field_need_numbers Z
theorem f_Field_need_numbers_at_Modulo (Z : FX K mg) : FnD PP w K mg base 5 (He.ma K (He.ga K "Modulo") "need_numbers") m_Field_need_numbers := by
  have e : He.ma K (He.ga K "Modulo") "need_numbers" = (fun K => He.ma K (He.ga K "Field") "need_numbers") K := of_decide_eq_true (z34 Z)
  rw [e]
  exact f_Field_need_numbers Z
noncomputable def b_fraction : DS := seqS (ifS (blM (binM eqD (vM 1) (cM (.int 1)))) (retS (vM 0)) (skipS)) (seqS (setS 2 (ifM (blM (binM gtI (vM 1) (cM (.int 0)))) (callM m_common_divisor (consA (vM 0) (consA (vM 1) (nilA)))) (unM negD (callM m_common_divisor (consA (vM 0) (consA (vM 1) (nilA))))))) (retS (ifM (blM (binM eqD (vM 1) (vM 2))) (binM divD (vM 0) (vM 2)) (argM tupD (consA (binM divD (vM 0) (vM 2)) (consA (binM divD (vM 1) (vM 2)) (nilA)))))))
noncomputable def m_fraction : DF := bodyM 2 [] 3 b_fraction
theorem c_fraction (Z : FX K mg) {f : Addr} : BodyD PP w K mg base ["top", "bottom", "divisor"] "fraction" (defScope s_fraction) f 1 (defBody s_fraction) b_fraction := by
  intro cdv A outer s H E hr
  have nd : (["top", "bottom", "divisor"] : List Str).Nodup := by decide +kernel
  have tk : Takes (cxOf (L2.CX PP w) PP w K mg base ["top", "bottom", "divisor"] "fraction" (defScope s_fraction) f cdv A outer s H E) (fun c d _ H' => E c d H') := takes_of rfl rfl rfl rfl
  have hp := passes_of (X := cxOf (L2.CX PP w) PP w K mg base ["top", "bottom", "divisor"] "fraction" (defScope s_fraction) f cdv A outer s H E) rfl
  have hu := hr.rm.units
  have hu1 : _ + 1 < cLine := Nat.lt_of_le_of_lt (Nat.add_le_add_left (by decide : 1 ≤ 64) _) hu
  exact (s_cons (s_if (t_eq hu (ev 1) e_int) (s_one (s_ret (ev 0))) s_nil)
    (s_cons (s_set nd rfl (by first | exact .inl rfl | exact .inr rfl) (e_if (t_gt (ev 1) e_int) (e_call tk (f_common_divisor Z) (hr.mono (Nat.le_of_ble_eq_true rfl) : Rm 1 _) rfl (z19 Z) (k_common_divisor Z) (a_cons (ev 0) (a_cons (ev 1) a_nil))) (e_neg (e_call tk (f_common_divisor Z) (hr.mono (Nat.le_of_ble_eq_true rfl) : Rm 1 _) rfl (z19 Z) (k_common_divisor Z) (a_cons (ev 0) (a_cons (ev 1) a_nil))))))
    (s_one (s_ret (e_if (t_eq hu (ev 1) (ev 2)) (e_div (ev 0) (ev 2)) (e_tup (a_cons (e_div (ev 0) (ev 2)) (a_cons (e_div (ev 1) (ev 2)) a_nil))))))))
theorem f_fraction (Z : FX K mg) : FnD PP w K mg base 2 ((fun K => He.ga K "fraction") K) m_fraction := by
  obtain ⟨fd, F0⟩ := Z.df 14 (d := d_fraction) rfl rfl
  have F : FunD K "fraction" "fraction" (defArgs s_fraction) (defBody s_fraction) (defScope s_fraction) [] [] ((fun K => He.ga K "fraction") K) fd := cast (by kernel_rfl) F0
  exact fn_ok0 (x := "fraction") (qual := "fraction") (params := defArgs s_fraction) (body := defBody s_fraction) (scope := defScope s_fraction) (kws := []) (N := ["top", "bottom", "divisor"]) (ps := ["top", "bottom"]) (k := 1) (b := b_fraction) F ⟨by kernel_rfl, by kernel_rfl, by kernel_rfl, by decide +kernel, by kernel_rfl, by decide +kernel, by decide +kernel⟩ (fun _ _ _ _ _ _ us hl => match us, hl with | [_, _], _ => by kernel_rfl) (c_fraction Z)
theorem k_fraction (Z : FX K mg) : PySem.W.keepIn K (.ref ((fun K => He.ga K "fraction") K)) = true := Z.keep 14 (d := d_fraction) rfl
noncomputable def b_Fractions_add : DS := seqS (ifS (andT (notT (truM (argM (isiD it0) (consA (vM 1) (consA (cM (.ty "tuple")) (nilA)))))) (notT (truM (argM (isiD it0) (consA (vM 2) (consA (cM (.ty "tuple")) (nilA))))))) (retS (binM addD (vM 1) (vM 2))) (skipS)) (seqS (asgS (argM tupD (consA (callM m_parts_of (consA (vM 1) (nilA))) (consA (callM m_parts_of (consA (vM 2) (nilA))) (nilA)))) (tupG 2 (consG (tupG 2 (consG (nameG 3) (consG (nameG 4) (nilG)))) (consG (tupG 2 (consG (nameG 5) (consG (nameG 6) (nilG)))) (nilG))))) (retS (callM m_fraction (consA (binM addD (binM mulD (vM 3) (vM 6)) (binM mulD (vM 5) (vM 4))) (consA (binM mulD (vM 4) (vM 6)) (nilA))))))
noncomputable def m_Fractions_add : DF := bodyM 3 [] 7 b_Fractions_add
theorem c_Fractions_add (Z : FX K mg) {f : Addr} : BodyD PP w K mg base ["self", "one", "other", "top", "bottom", "more", "below"] "Fractions.add" (defScope s_Fractions_add) f 2 (defBody s_Fractions_add) b_Fractions_add := by
  intro cdv A outer s H E hr
  have nd : (["self", "one", "other", "top", "bottom", "more", "below"] : List Str).Nodup := by decide +kernel
  have tk : Takes (cxOf (L2.CX PP w) PP w K mg base ["self", "one", "other", "top", "bottom", "more", "below"] "Fractions.add" (defScope s_Fractions_add) f cdv A outer s H E) (fun c d _ H' => E c d H') := takes_of rfl rfl rfl rfl
  have hp := passes_of (X := cxOf (L2.CX PP w) PP w K mg base ["self", "one", "other", "top", "bottom", "more", "below"] "Fractions.add" (defScope s_Fractions_add) f cdv A outer s H E) rfl
  have hu := hr.rm.units
  have hu1 : _ + 1 < cLine := Nat.lt_of_le_of_lt (Nat.add_le_add_left (by decide : 1 ≤ 64) _) hu
  exact (s_cons (s_if (PW.pt (w_and (t_not (t_truth (e_callB call_isi (v_isi (z_isi Z)) rfl (z13 Z) (by decide +kernel) (a_cons (ev 1) (a_cons (e_ty (n := "tuple") rfl (z15 Z) (by decide +kernel)) a_nil))))) (w_and1 (t_not (t_truth (e_callB call_isi (v_isi (z_isi Z)) rfl (z13 Z) (by decide +kernel) (a_cons (ev 2) (a_cons (e_ty (n := "tuple") rfl (z15 Z) (by decide +kernel)) a_nil)))))))) (s_one (s_ret (e_add (ev 1) (ev 2)))) s_nil)
    (s_cons (s_asg (e_tup (a_cons (e_call tk (f_parts_of Z) (hr.mono (Nat.le_of_ble_eq_true rfl) : Rm 1 _) rfl (z23 Z) (k_parts_of Z) (a_cons (ev 1) a_nil)) (a_cons (e_call tk (f_parts_of Z) (hr.mono (Nat.le_of_ble_eq_true rfl) : Rm 1 _) rfl (z23 Z) (k_parts_of Z) (a_cons (ev 2) a_nil)) a_nil))) (g_tup rfl (gs_cons (g_tup rfl (gs_cons (g_name nd rfl (by first | exact .inl rfl | exact .inr rfl)) (gs_cons (g_name nd rfl (by first | exact .inl rfl | exact .inr rfl)) gs_nil))) (gs_cons (g_tup rfl (gs_cons (g_name nd rfl (by first | exact .inl rfl | exact .inr rfl)) (gs_cons (g_name nd rfl (by first | exact .inl rfl | exact .inr rfl)) gs_nil))) gs_nil))))
    (s_one (s_ret (e_call tk (f_fraction Z) (hr.mono (Nat.le_of_ble_eq_true rfl) : Rm 2 _) rfl (z35 Z) (k_fraction Z) (a_cons (e_add (e_mul (ev 3) (ev 6)) (e_mul (ev 5) (ev 4))) (a_cons (e_mul (ev 4) (ev 6)) a_nil)))))))
theorem f_Fractions_add (Z : FX K mg) : FnD PP w K mg base 3 ((fun K => He.ma K (He.ga K "Fractions") "add") K) m_Fractions_add := by
  obtain ⟨fd, F0⟩ := Z.df 15 (d := d_Fractions_add) rfl rfl
  have F : FunD K "add" "Fractions.add" (defArgs s_Fractions_add) (defBody s_Fractions_add) (defScope s_Fractions_add) [] [] ((fun K => He.ma K (He.ga K "Fractions") "add") K) fd := cast (by kernel_rfl) F0
  exact fn_ok0 (x := "add") (qual := "Fractions.add") (params := defArgs s_Fractions_add) (body := defBody s_Fractions_add) (scope := defScope s_Fractions_add) (kws := []) (N := ["self", "one", "other", "top", "bottom", "more", "below"]) (ps := ["self", "one", "other"]) (k := 2) (b := b_Fractions_add) F ⟨by kernel_rfl, by kernel_rfl, by kernel_rfl, by decide +kernel, by kernel_rfl, by decide +kernel, by decide +kernel⟩ (fun _ _ _ _ _ _ us hl => match us, hl with | [_, _, _], _ => by kernel_rfl) (c_Fractions_add Z)
theorem f_Fractions_add_at_Fractions (Z : FX K mg) : FnD PP w K mg base 3 (He.ma K (He.ga K "Fractions") "add") m_Fractions_add := f_Fractions_add Z
noncomputable def b_Fractions_negative : DS := retS (ifM (truM (argM (isiD it0) (consA (vM 1) (consA (cM (.ty "tuple")) (nilA))))) (argM tupD (consA (unM negD (binM idxD (vM 1) (cM (.int 0)))) (consA (binM idxD (vM 1) (cM (.int 1))) (nilA)))) (unM negD (vM 1)))
noncomputable def m_Fractions_negative : DF := bodyM 2 [] 2 b_Fractions_negative
theorem c_Fractions_negative (Z : FX K mg) {f : Addr} : BodyD PP w K mg base ["self", "number"] "Fractions.negative" (defScope s_Fractions_negative) f 0 (defBody s_Fractions_negative) b_Fractions_negative := by
  intro cdv A outer s H E hr
  have nd : (["self", "number"] : List Str).Nodup := by decide +kernel
  have tk : Takes (cxOf (L2.CX PP w) PP w K mg base ["self", "number"] "Fractions.negative" (defScope s_Fractions_negative) f cdv A outer s H E) (fun c d _ H' => E c d H') := takes_of rfl rfl rfl rfl
  have hp := passes_of (X := cxOf (L2.CX PP w) PP w K mg base ["self", "number"] "Fractions.negative" (defScope s_Fractions_negative) f cdv A outer s H E) rfl
  have hu := hr.rm.units
  have hu1 : _ + 1 < cLine := Nat.lt_of_le_of_lt (Nat.add_le_add_left (by decide : 1 ≤ 64) _) hu
  exact (s_one (s_ret (e_if (t_truth (e_callB call_isi (v_isi (z_isi Z)) rfl (z13 Z) (by decide +kernel) (a_cons (ev 1) (a_cons (e_ty (n := "tuple") rfl (z15 Z) (by decide +kernel)) a_nil)))) (e_tup (a_cons (e_neg (e_idx hu1 (ev 1) e_int)) (a_cons (e_idx hu1 (ev 1) e_int) a_nil))) (e_neg (ev 1)))))
theorem f_Fractions_negative (Z : FX K mg) : FnD PP w K mg base 1 ((fun K => He.ma K (He.ga K "Fractions") "negative") K) m_Fractions_negative := by
  obtain ⟨fd, F0⟩ := Z.df 16 (d := d_Fractions_negative) rfl rfl
  have F : FunD K "negative" "Fractions.negative" (defArgs s_Fractions_negative) (defBody s_Fractions_negative) (defScope s_Fractions_negative) [] [] ((fun K => He.ma K (He.ga K "Fractions") "negative") K) fd := cast (by kernel_rfl) F0
  exact fn_ok0 (x := "negative") (qual := "Fractions.negative") (params := defArgs s_Fractions_negative) (body := defBody s_Fractions_negative) (scope := defScope s_Fractions_negative) (kws := []) (N := ["self", "number"]) (ps := ["self", "number"]) (k := 0) (b := b_Fractions_negative) F ⟨by kernel_rfl, by kernel_rfl, by kernel_rfl, by decide +kernel, by kernel_rfl, by decide +kernel, by decide +kernel⟩ (fun _ _ _ _ _ _ us hl => match us, hl with | [_, _], _ => by kernel_rfl) (c_Fractions_negative Z)
theorem f_Fractions_negative_at_Fractions (Z : FX K mg) : FnD PP w K mg base 1 (He.ma K (He.ga K "Fractions") "negative") m_Fractions_negative := f_Fractions_negative Z
noncomputable def b_Modulo_add : DS := retS (binM modD (binM addD (vM 1) (vM 2)) (attrM [("Fractions", .fld), ("Modulo", .fld)] "own_prime" (vM 0)))
noncomputable def m_Modulo_add : DF := bodyM 3 [] 3 b_Modulo_add
theorem c_Modulo_add (Z : FX K mg) {f : Addr} : BodyD PP w K mg base ["self", "one", "other"] "Modulo.add" (defScope s_Modulo_add) f 0 (defBody s_Modulo_add) b_Modulo_add := by
  intro cdv A outer s H E hr
  have nd : (["self", "one", "other"] : List Str).Nodup := by decide +kernel
  have tk : Takes (cxOf (L2.CX PP w) PP w K mg base ["self", "one", "other"] "Modulo.add" (defScope s_Modulo_add) f cdv A outer s H E) (fun c d _ H' => E c d H') := takes_of rfl rfl rfl rfl
  have hp := passes_of (X := cxOf (L2.CX PP w) PP w K mg base ["self", "one", "other"] "Modulo.add" (defScope s_Modulo_add) f cdv A outer s H E) rfl
  have hu := hr.rm.units
  have hu1 : _ + 1 < cLine := Nat.lt_of_le_of_lt (Nat.add_le_add_left (by decide : 1 ≤ 64) _) hu
  exact (s_one (s_ret (e_mod (e_add (ev 1) (ev 2)) (e_attr (.fld (z9 Z) (z10 Z) (.fld (z7 Z) (z8 Z) .nil)) (ev 0)))))
theorem f_Modulo_add (Z : FX K mg) : FnD PP w K mg base 1 ((fun K => He.ma K (He.ga K "Modulo") "add") K) m_Modulo_add := by
  obtain ⟨fd, F0⟩ := Z.df 17 (d := d_Modulo_add) rfl rfl
  have F : FunD K "add" "Modulo.add" (defArgs s_Modulo_add) (defBody s_Modulo_add) (defScope s_Modulo_add) [] [] ((fun K => He.ma K (He.ga K "Modulo") "add") K) fd := cast (by kernel_rfl) F0
  exact fn_ok0 (x := "add") (qual := "Modulo.add") (params := defArgs s_Modulo_add) (body := defBody s_Modulo_add) (scope := defScope s_Modulo_add) (kws := []) (N := ["self", "one", "other"]) (ps := ["self", "one", "other"]) (k := 0) (b := b_Modulo_add) F ⟨by kernel_rfl, by kernel_rfl, by kernel_rfl, by decide +kernel, by kernel_rfl, by decide +kernel, by decide +kernel⟩ (fun _ _ _ _ _ _ us hl => match us, hl with | [_, _, _], _ => by kernel_rfl) (c_Modulo_add Z)
theorem f_Modulo_add_at_Modulo (Z : FX K mg) : FnD PP w K mg base 1 (He.ma K (He.ga K "Modulo") "add") m_Modulo_add := f_Modulo_add Z
noncomputable def b_Modulo_negative : DS := retS (binM modD (unM negD (vM 1)) (attrM [("Fractions", .fld), ("Modulo", .fld)] "own_prime" (vM 0)))
noncomputable def m_Modulo_negative : DF := bodyM 2 [] 2 b_Modulo_negative
theorem c_Modulo_negative (Z : FX K mg) {f : Addr} : BodyD PP w K mg base ["self", "number"] "Modulo.negative" (defScope s_Modulo_negative) f 0 (defBody s_Modulo_negative) b_Modulo_negative := by
  intro cdv A outer s H E hr
  have nd : (["self", "number"] : List Str).Nodup := by decide +kernel
  have tk : Takes (cxOf (L2.CX PP w) PP w K mg base ["self", "number"] "Modulo.negative" (defScope s_Modulo_negative) f cdv A outer s H E) (fun c d _ H' => E c d H') := takes_of rfl rfl rfl rfl
  have hp := passes_of (X := cxOf (L2.CX PP w) PP w K mg base ["self", "number"] "Modulo.negative" (defScope s_Modulo_negative) f cdv A outer s H E) rfl
  have hu := hr.rm.units
  have hu1 : _ + 1 < cLine := Nat.lt_of_le_of_lt (Nat.add_le_add_left (by decide : 1 ≤ 64) _) hu
  exact (s_one (s_ret (e_mod (e_neg (ev 1)) (e_attr (.fld (z9 Z) (z10 Z) (.fld (z7 Z) (z8 Z) .nil)) (ev 0)))))
theorem f_Modulo_negative (Z : FX K mg) : FnD PP w K mg base 1 ((fun K => He.ma K (He.ga K "Modulo") "negative") K) m_Modulo_negative := by
  obtain ⟨fd, F0⟩ := Z.df 18 (d := d_Modulo_negative) rfl rfl
  have F : FunD K "negative" "Modulo.negative" (defArgs s_Modulo_negative) (defBody s_Modulo_negative) (defScope s_Modulo_negative) [] [] ((fun K => He.ma K (He.ga K "Modulo") "negative") K) fd := cast (by kernel_rfl) F0
  exact fn_ok0 (x := "negative") (qual := "Modulo.negative") (params := defArgs s_Modulo_negative) (body := defBody s_Modulo_negative) (scope := defScope s_Modulo_negative) (kws := []) (N := ["self", "number"]) (ps := ["self", "number"]) (k := 0) (b := b_Modulo_negative) F ⟨by kernel_rfl, by kernel_rfl, by kernel_rfl, by decide +kernel, by kernel_rfl, by decide +kernel, by decide +kernel⟩ (fun _ _ _ _ _ _ us hl => match us, hl with | [_, _], _ => by kernel_rfl) (c_Modulo_negative Z)
theorem f_Modulo_negative_at_Modulo (Z : FX K mg) : FnD PP w K mg base 1 (He.ma K (He.ga K "Modulo") "negative") m_Modulo_negative := f_Modulo_negative Z
noncomputable def b_Field_subtract : DS := retS (methM [("Fractions", m_Fractions_add), ("Modulo", m_Modulo_add)] "add" (vM 0) (consA (vM 1) (consA (methM [("Fractions", m_Fractions_negative), ("Modulo", m_Modulo_negative)] "negative" (vM 0) (consA (vM 2) (nilA))) (nilA))))
noncomputable def m_Field_subtract : DF := bodyM 3 [] 3 b_Field_subtract
theorem c_Field_subtract (Z : FX K mg) {f : Addr} : BodyD PP w K mg base ["self", "one", "other"] "Field.subtract" (defScope s_Field_subtract) f 3 (defBody s_Field_subtract) b_Field_subtract := by
  intro cdv A outer s H E hr
  have nd : (["self", "one", "other"] : List Str).Nodup := by decide +kernel
  have tk : Takes (cxOf (L2.CX PP w) PP w K mg base ["self", "one", "other"] "Field.subtract" (defScope s_Field_subtract) f cdv A outer s H E) (fun c d _ H' => E c d H') := takes_of rfl rfl rfl rfl
  have hp := passes_of (X := cxOf (L2.CX PP w) PP w K mg base ["self", "one", "other"] "Field.subtract" (defScope s_Field_subtract) f cdv A outer s H E) rfl
  have hu := hr.rm.units
  have hu1 : _ + 1 < cLine := Nat.lt_of_le_of_lt (Nat.add_le_add_left (by decide : 1 ≤ 64) _) hu
  exact (s_one (s_ret (e_meth tk (.cons ⟨(z9 Z), _, 3, (z37 Z), f_Fractions_add_at_Fractions Z, (hr.mono (Nat.le_of_ble_eq_true rfl) : Rm 3 _)⟩ (.cons ⟨(z7 Z), _, 1, (z36 Z), f_Modulo_add_at_Modulo Z, (hr.mono (Nat.le_of_ble_eq_true rfl) : Rm 1 _)⟩ .nil)) (ev 0) (a_cons (ev 1) (a_cons (e_meth tk (.cons ⟨(z9 Z), _, 1, (z39 Z), f_Fractions_negative_at_Fractions Z, (hr.mono (Nat.le_of_ble_eq_true rfl) : Rm 1 _)⟩ (.cons ⟨(z7 Z), _, 1, (z38 Z), f_Modulo_negative_at_Modulo Z, (hr.mono (Nat.le_of_ble_eq_true rfl) : Rm 1 _)⟩ .nil)) (ev 0) (a_cons (ev 2) a_nil)) a_nil)))))
theorem f_Field_subtract (Z : FX K mg) : FnD PP w K mg base 4 ((fun K => He.ma K (He.ga K "Field") "subtract") K) m_Field_subtract := by
  obtain ⟨fd, F0⟩ := Z.df 19 (d := d_Field_subtract) rfl rfl
  have F : FunD K "subtract" "Field.subtract" (defArgs s_Field_subtract) (defBody s_Field_subtract) (defScope s_Field_subtract) [] [] ((fun K => He.ma K (He.ga K "Field") "subtract") K) fd := cast (by kernel_rfl) F0
  exact fn_ok0 (x := "subtract") (qual := "Field.subtract") (params := defArgs s_Field_subtract) (body := defBody s_Field_subtract) (scope := defScope s_Field_subtract) (kws := []) (N := ["self", "one", "other"]) (ps := ["self", "one", "other"]) (k := 3) (b := b_Field_subtract) F ⟨by kernel_rfl, by kernel_rfl, by kernel_rfl, by decide +kernel, by kernel_rfl, by decide +kernel, by decide +kernel⟩ (fun _ _ _ _ _ _ us hl => match us, hl with | [_, _, _], _ => by kernel_rfl) (c_Field_subtract Z)
theorem f_Field_subtract_at_Fractions (Z : FX K mg) : FnD PP w K mg base 4 (He.ma K (He.ga K "Fractions") "subtract") m_Field_subtract := by
  have e : He.ma K (He.ga K "Fractions") "subtract" = (fun K => He.ma K (He.ga K "Field") "subtract") K := of_decide_eq_true (z40 Z)
  rw [e]
  exact f_Field_subtract Z
theorem f_Field_subtract_at_Modulo (Z : FX K mg) : FnD PP w K mg base 4 (He.ma K (He.ga K "Modulo") "subtract") m_Field_subtract := by
  have e : He.ma K (He.ga K "Modulo") "subtract" = (fun K => He.ma K (He.ga K "Field") "subtract") K := of_decide_eq_true (z41 Z)
  rw [e]
  exact f_Field_subtract Z
noncomputable def b_Field_minus : DS := seqS (exprS (methM [("Fractions", m_Field_need_numbers), ("Modulo", m_Field_need_numbers)] "need_numbers" (vM 0) (consA (vM 1) (consA (vM 2) (nilA))))) (retS (methM [("Fractions", m_Field_subtract), ("Modulo", m_Field_subtract)] "subtract" (vM 0) (consA (vM 1) (consA (vM 2) (nilA)))))
noncomputable def m_Field_minus : DF := bodyM 3 [] 3 b_Field_minus
theorem c_Field_minus (Z : FX K mg) {f : Addr} : BodyD PP w K mg base ["self", "one", "other"] "Field.minus" (defScope s_Field_minus) f 5 (defBody s_Field_minus) b_Field_minus := by
  intro cdv A outer s H E hr
  have nd : (["self", "one", "other"] : List Str).Nodup := by decide +kernel
  have tk : Takes (cxOf (L2.CX PP w) PP w K mg base ["self", "one", "other"] "Field.minus" (defScope s_Field_minus) f cdv A outer s H E) (fun c d _ H' => E c d H') := takes_of rfl rfl rfl rfl
  have hp := passes_of (X := cxOf (L2.CX PP w) PP w K mg base ["self", "one", "other"] "Field.minus" (defScope s_Field_minus) f cdv A outer s H E) rfl
  have hu := hr.rm.units
  have hu1 : _ + 1 < cLine := Nat.lt_of_le_of_lt (Nat.add_le_add_left (by decide : 1 ≤ 64) _) hu
  exact (s_cons (s_expr (e_meth tk (.cons ⟨(z9 Z), _, 5, (z43 Z), f_Field_need_numbers_at_Fractions Z, (hr.mono (Nat.le_of_ble_eq_true rfl) : Rm 5 _)⟩ (.cons ⟨(z7 Z), _, 5, (z42 Z), f_Field_need_numbers_at_Modulo Z, (hr.mono (Nat.le_of_ble_eq_true rfl) : Rm 5 _)⟩ .nil)) (ev 0) (a_cons (ev 1) (a_cons (ev 2) a_nil))))
    (s_one (s_ret (e_meth tk (.cons ⟨(z9 Z), _, 4, (z45 Z), f_Field_subtract_at_Fractions Z, (hr.mono (Nat.le_of_ble_eq_true rfl) : Rm 4 _)⟩ (.cons ⟨(z7 Z), _, 4, (z44 Z), f_Field_subtract_at_Modulo Z, (hr.mono (Nat.le_of_ble_eq_true rfl) : Rm 4 _)⟩ .nil)) (ev 0) (a_cons (ev 1) (a_cons (ev 2) a_nil))))))
theorem f_Field_minus (Z : FX K mg) : FnD PP w K mg base 6 ((fun K => He.ma K (He.ga K "Field") "minus") K) m_Field_minus := by
  obtain ⟨fd, F0⟩ := Z.df 20 (d := d_Field_minus) rfl rfl
  have F : FunD K "minus" "Field.minus" (defArgs s_Field_minus) (defBody s_Field_minus) (defScope s_Field_minus) [] [] ((fun K => He.ma K (He.ga K "Field") "minus") K) fd := cast (by kernel_rfl) F0
  exact fn_ok0 (x := "minus") (qual := "Field.minus") (params := defArgs s_Field_minus) (body := defBody s_Field_minus) (scope := defScope s_Field_minus) (kws := []) (N := ["self", "one", "other"]) (ps := ["self", "one", "other"]) (k := 5) (b := b_Field_minus) F ⟨by kernel_rfl, by kernel_rfl, by kernel_rfl, by decide +kernel, by kernel_rfl, by decide +kernel, by decide +kernel⟩ (fun _ _ _ _ _ _ us hl => match us, hl with | [_, _, _], _ => by kernel_rfl) (c_Field_minus Z)
theorem f_Field_minus_at_Fractions (Z : FX K mg) : FnD PP w K mg base 6 (He.ma K (He.ga K "Fractions") "minus") m_Field_minus := by
  have e : He.ma K (He.ga K "Fractions") "minus" = (fun K => He.ma K (He.ga K "Field") "minus") K := of_decide_eq_true (z46 Z)
  rw [e]
  exact f_Field_minus Z
theorem f_Field_minus_at_Modulo (Z : FX K mg) : FnD PP w K mg base 6 (He.ma K (He.ga K "Modulo") "minus") m_Field_minus := by
  have e : He.ma K (He.ga K "Modulo") "minus" = (fun K => He.ma K (He.ga K "Field") "minus") K := of_decide_eq_true (z47 Z)
  rw [e]
  exact f_Field_minus Z
noncomputable def b_Fractions_divide : DS := seqS (asgS (argM tupD (consA (callM m_parts_of (consA (vM 1) (nilA))) (consA (callM m_parts_of (consA (vM 2) (nilA))) (nilA)))) (tupG 2 (consG (tupG 2 (consG (nameG 3) (consG (nameG 4) (nilG)))) (consG (tupG 2 (consG (nameG 5) (consG (nameG 6) (nilG)))) (nilG))))) (retS (callM m_fraction (consA (binM mulD (vM 3) (vM 6)) (consA (binM mulD (vM 4) (vM 5)) (nilA)))))
noncomputable def m_Fractions_divide : DF := bodyM 3 [] 7 b_Fractions_divide
theorem c_Fractions_divide (Z : FX K mg) {f : Addr} : BodyD PP w K mg base ["self", "one", "other", "top", "bottom", "more", "below"] "Fractions.divide" (defScope s_Fractions_divide) f 2 (defBody s_Fractions_divide) b_Fractions_divide := by
  intro cdv A outer s H E hr
  have nd : (["self", "one", "other", "top", "bottom", "more", "below"] : List Str).Nodup := by decide +kernel
  have tk : Takes (cxOf (L2.CX PP w) PP w K mg base ["self", "one", "other", "top", "bottom", "more", "below"] "Fractions.divide" (defScope s_Fractions_divide) f cdv A outer s H E) (fun c d _ H' => E c d H') := takes_of rfl rfl rfl rfl
  have hp := passes_of (X := cxOf (L2.CX PP w) PP w K mg base ["self", "one", "other", "top", "bottom", "more", "below"] "Fractions.divide" (defScope s_Fractions_divide) f cdv A outer s H E) rfl
  have hu := hr.rm.units
  have hu1 : _ + 1 < cLine := Nat.lt_of_le_of_lt (Nat.add_le_add_left (by decide : 1 ≤ 64) _) hu
  exact (s_cons (s_asg (e_tup (a_cons (e_call tk (f_parts_of Z) (hr.mono (Nat.le_of_ble_eq_true rfl) : Rm 1 _) rfl (z23 Z) (k_parts_of Z) (a_cons (ev 1) a_nil)) (a_cons (e_call tk (f_parts_of Z) (hr.mono (Nat.le_of_ble_eq_true rfl) : Rm 1 _) rfl (z23 Z) (k_parts_of Z) (a_cons (ev 2) a_nil)) a_nil))) (g_tup rfl (gs_cons (g_tup rfl (gs_cons (g_name nd rfl (by first | exact .inl rfl | exact .inr rfl)) (gs_cons (g_name nd rfl (by first | exact .inl rfl | exact .inr rfl)) gs_nil))) (gs_cons (g_tup rfl (gs_cons (g_name nd rfl (by first | exact .inl rfl | exact .inr rfl)) (gs_cons (g_name nd rfl (by first | exact .inl rfl | exact .inr rfl)) gs_nil))) gs_nil))))
    (s_one (s_ret (e_call tk (f_fraction Z) (hr.mono (Nat.le_of_ble_eq_true rfl) : Rm 2 _) rfl (z35 Z) (k_fraction Z) (a_cons (e_mul (ev 3) (ev 6)) (a_cons (e_mul (ev 4) (ev 5)) a_nil))))))
theorem f_Fractions_divide (Z : FX K mg) : FnD PP w K mg base 3 ((fun K => He.ma K (He.ga K "Fractions") "divide") K) m_Fractions_divide := by
  obtain ⟨fd, F0⟩ := Z.df 21 (d := d_Fractions_divide) rfl rfl
  have F : FunD K "divide" "Fractions.divide" (defArgs s_Fractions_divide) (defBody s_Fractions_divide) (defScope s_Fractions_divide) [] [] ((fun K => He.ma K (He.ga K "Fractions") "divide") K) fd := cast (by kernel_rfl) F0
  exact fn_ok0 (x := "divide") (qual := "Fractions.divide") (params := defArgs s_Fractions_divide) (body := defBody s_Fractions_divide) (scope := defScope s_Fractions_divide) (kws := []) (N := ["self", "one", "other", "top", "bottom", "more", "below"]) (ps := ["self", "one", "other"]) (k := 2) (b := b_Fractions_divide) F ⟨by kernel_rfl, by kernel_rfl, by kernel_rfl, by decide +kernel, by kernel_rfl, by decide +kernel, by decide +kernel⟩ (fun _ _ _ _ _ _ us hl => match us, hl with | [_, _, _], _ => by kernel_rfl) (c_Fractions_divide Z)
theorem f_Fractions_divide_at_Fractions (Z : FX K mg) : FnD PP w K mg base 3 (He.ma K (He.ga K "Fractions") "divide") m_Fractions_divide := f_Fractions_divide Z
noncomputable def b_power : DS := seqS (setS 3 (cM (.int 1))) (seqS (whileS (blM (binM gtI (vM 1) (cM (.int 0)))) (seqS (ifS (blM (binM eqD (binM modD (vM 1) (cM (.int 2))) (cM (.int 1)))) (setS 3 (binM modD (binM mulD (vM 3) (vM 0)) (vM 2))) (skipS)) (seqS (setS 0 (binM modD (binM mulD (vM 0) (vM 0)) (vM 2))) (setS 1 (binM divD (vM 1) (cM (.int 2))))))) (retS (vM 3)))
noncomputable def m_power : DF := bodyM 3 [] 4 b_power
theorem c_power (Z : FX K mg) {f : Addr} : BodyD PP w K mg base ["number", "times", "modulus", "found"] "power" (defScope s_power) f 0 (defBody s_power) b_power := by
  intro cdv A outer s H E hr
  have nd : (["number", "times", "modulus", "found"] : List Str).Nodup := by decide +kernel
  have tk : Takes (cxOf (L2.CX PP w) PP w K mg base ["number", "times", "modulus", "found"] "power" (defScope s_power) f cdv A outer s H E) (fun c d _ H' => E c d H') := takes_of rfl rfl rfl rfl
  have hp := passes_of (X := cxOf (L2.CX PP w) PP w K mg base ["number", "times", "modulus", "found"] "power" (defScope s_power) f cdv A outer s H E) rfl
  have hu := hr.rm.units
  have hu1 : _ + 1 < cLine := Nat.lt_of_le_of_lt (Nat.add_le_add_left (by decide : 1 ≤ 64) _) hu
  exact (s_cons (s_set nd rfl (by first | exact .inl rfl | exact .inr rfl) e_int)
    (s_cons (s_while hp (t_gt (ev 1) e_int) (s_cons (s_if (t_eq hu (e_mod (ev 1) e_int) e_int) (s_one (s_set nd rfl (by first | exact .inl rfl | exact .inr rfl) (e_mod (e_mul (ev 3) (ev 0)) (ev 2)))) s_nil)
    (s_cons (s_set nd rfl (by first | exact .inl rfl | exact .inr rfl) (e_mod (e_mul (ev 0) (ev 0)) (ev 2)))
    (s_one (s_set nd rfl (by first | exact .inl rfl | exact .inr rfl) (e_div (ev 1) e_int))))))
    (s_one (s_ret (ev 3)))))
theorem f_power (Z : FX K mg) : FnD PP w K mg base 1 ((fun K => He.ga K "power") K) m_power := by
  obtain ⟨fd, F0⟩ := Z.df 22 (d := d_power) rfl rfl
  have F : FunD K "power" "power" (defArgs s_power) (defBody s_power) (defScope s_power) [] [] ((fun K => He.ga K "power") K) fd := cast (by kernel_rfl) F0
  exact fn_ok0 (x := "power") (qual := "power") (params := defArgs s_power) (body := defBody s_power) (scope := defScope s_power) (kws := []) (N := ["number", "times", "modulus", "found"]) (ps := ["number", "times", "modulus"]) (k := 0) (b := b_power) F ⟨by kernel_rfl, by kernel_rfl, by kernel_rfl, by decide +kernel, by kernel_rfl, by decide +kernel, by decide +kernel⟩ (fun _ _ _ _ _ _ us hl => match us, hl with | [_, _, _], _ => by kernel_rfl) (c_power Z)
theorem k_power (Z : FX K mg) : PySem.W.keepIn K (.ref ((fun K => He.ga K "power") K)) = true := Z.keep 22 (d := d_power) rfl
noncomputable def b_Modulo_divide : DS := retS (binM modD (binM mulD (vM 1) (callM m_power (consA (vM 2) (consA (binM subD (attrM [("Fractions", .fld), ("Modulo", .fld)] "own_prime" (vM 0)) (cM (.int 2))) (consA (attrM [("Fractions", .fld), ("Modulo", .fld)] "own_prime" (vM 0)) (nilA)))))) (attrM [("Fractions", .fld), ("Modulo", .fld)] "own_prime" (vM 0)))
noncomputable def m_Modulo_divide : DF := bodyM 3 [] 3 b_Modulo_divide
theorem c_Modulo_divide (Z : FX K mg) {f : Addr} : BodyD PP w K mg base ["self", "one", "other"] "Modulo.divide" (defScope s_Modulo_divide) f 1 (defBody s_Modulo_divide) b_Modulo_divide := by
  intro cdv A outer s H E hr
  have nd : (["self", "one", "other"] : List Str).Nodup := by decide +kernel
  have tk : Takes (cxOf (L2.CX PP w) PP w K mg base ["self", "one", "other"] "Modulo.divide" (defScope s_Modulo_divide) f cdv A outer s H E) (fun c d _ H' => E c d H') := takes_of rfl rfl rfl rfl
  have hp := passes_of (X := cxOf (L2.CX PP w) PP w K mg base ["self", "one", "other"] "Modulo.divide" (defScope s_Modulo_divide) f cdv A outer s H E) rfl
  have hu := hr.rm.units
  have hu1 : _ + 1 < cLine := Nat.lt_of_le_of_lt (Nat.add_le_add_left (by decide : 1 ≤ 64) _) hu
  exact (s_one (s_ret (e_mod (e_mul (ev 1) (e_call tk (f_power Z) (hr.mono (Nat.le_of_ble_eq_true rfl) : Rm 1 _) rfl (z48 Z) (k_power Z) (a_cons (ev 2) (a_cons (e_sub (e_attr (.fld (z9 Z) (z10 Z) (.fld (z7 Z) (z8 Z) .nil)) (ev 0)) e_int) (a_cons (e_attr (.fld (z9 Z) (z10 Z) (.fld (z7 Z) (z8 Z) .nil)) (ev 0)) a_nil))))) (e_attr (.fld (z9 Z) (z10 Z) (.fld (z7 Z) (z8 Z) .nil)) (ev 0)))))
theorem f_Modulo_divide (Z : FX K mg) : FnD PP w K mg base 2 ((fun K => He.ma K (He.ga K "Modulo") "divide") K) m_Modulo_divide := by
  obtain ⟨fd, F0⟩ := Z.df 23 (d := d_Modulo_divide) rfl rfl
  have F : FunD K "divide" "Modulo.divide" (defArgs s_Modulo_divide) (defBody s_Modulo_divide) (defScope s_Modulo_divide) [] [] ((fun K => He.ma K (He.ga K "Modulo") "divide") K) fd := cast (by kernel_rfl) F0
  exact fn_ok0 (x := "divide") (qual := "Modulo.divide") (params := defArgs s_Modulo_divide) (body := defBody s_Modulo_divide) (scope := defScope s_Modulo_divide) (kws := []) (N := ["self", "one", "other"]) (ps := ["self", "one", "other"]) (k := 1) (b := b_Modulo_divide) F ⟨by kernel_rfl, by kernel_rfl, by kernel_rfl, by decide +kernel, by kernel_rfl, by decide +kernel, by decide +kernel⟩ (fun _ _ _ _ _ _ us hl => match us, hl with | [_, _, _], _ => by kernel_rfl) (c_Modulo_divide Z)
theorem f_Modulo_divide_at_Modulo (Z : FX K mg) : FnD PP w K mg base 2 (He.ma K (He.ga K "Modulo") "divide") m_Modulo_divide := f_Modulo_divide Z
noncomputable def b_Field_over : DS := seqS (exprS (methM [("Fractions", m_Field_need_numbers), ("Modulo", m_Field_need_numbers)] "need_numbers" (vM 0) (consA (vM 1) (consA (vM 2) (nilA))))) (seqS (ifS (blM (binM eqD (vM 2) (cM (.int 0)))) (raise0S "NoQuotient") (skipS)) (retS (methM [("Fractions", m_Fractions_divide), ("Modulo", m_Modulo_divide)] "divide" (vM 0) (consA (vM 1) (consA (vM 2) (nilA))))))
noncomputable def m_Field_over : DF := bodyM 3 [] 3 b_Field_over
theorem c_Field_over (Z : FX K mg) {f : Addr} : BodyD PP w K mg base ["self", "one", "other"] "Field.over" (defScope s_Field_over) f 5 (defBody s_Field_over) b_Field_over := by
  intro cdv A outer s H E hr
  have nd : (["self", "one", "other"] : List Str).Nodup := by decide +kernel
  have tk : Takes (cxOf (L2.CX PP w) PP w K mg base ["self", "one", "other"] "Field.over" (defScope s_Field_over) f cdv A outer s H E) (fun c d _ H' => E c d H') := takes_of rfl rfl rfl rfl
  have hp := passes_of (X := cxOf (L2.CX PP w) PP w K mg base ["self", "one", "other"] "Field.over" (defScope s_Field_over) f cdv A outer s H E) rfl
  have hu := hr.rm.units
  have hu1 : _ + 1 < cLine := Nat.lt_of_le_of_lt (Nat.add_le_add_left (by decide : 1 ≤ 64) _) hu
  exact (s_cons (s_expr (e_meth tk (.cons ⟨(z9 Z), _, 5, (z43 Z), f_Field_need_numbers_at_Fractions Z, (hr.mono (Nat.le_of_ble_eq_true rfl) : Rm 5 _)⟩ (.cons ⟨(z7 Z), _, 5, (z42 Z), f_Field_need_numbers_at_Modulo Z, (hr.mono (Nat.le_of_ble_eq_true rfl) : Rm 5 _)⟩ .nil)) (ev 0) (a_cons (ev 1) (a_cons (ev 2) a_nil))))
    (s_cons (s_if (t_eq hu (ev 2) e_int) (s_one (raise_row1 (x_NoQuotient Z) fun fd h => s_raise0 rfl tk ⟨((z6 Z)).1, ((z6 Z)).2.1, ((z6 Z)).2.2⟩ h.1 ((hr.mono (Nat.le_of_ble_eq_true rfl) : Rm 2 _)).rm h.2 rfl (z49 Z))) s_nil)
    (s_one (s_ret (e_meth tk (.cons ⟨(z9 Z), _, 3, (z51 Z), f_Fractions_divide_at_Fractions Z, (hr.mono (Nat.le_of_ble_eq_true rfl) : Rm 3 _)⟩ (.cons ⟨(z7 Z), _, 2, (z50 Z), f_Modulo_divide_at_Modulo Z, (hr.mono (Nat.le_of_ble_eq_true rfl) : Rm 2 _)⟩ .nil)) (ev 0) (a_cons (ev 1) (a_cons (ev 2) a_nil)))))))
theorem p_Field_over_other_one (Z : FX K mg) : FnP PP w K mg base 6 ((fun K => He.ma K (He.ga K "Field") "over") K) ["other", "one"] [1, 0] m_Field_over := by
  obtain ⟨fd, F0⟩ := Z.df 24 (d := d_Field_over) rfl rfl
  have F : FunD K "over" "Field.over" (defArgs s_Field_over) (defBody s_Field_over) (defScope s_Field_over) [] [] ((fun K => He.ma K (He.ga K "Field") "over") K) fd := cast (by kernel_rfl) F0
  exact fn_okP (x := "over") (qual := "Field.over") (params := defArgs s_Field_over) (body := defBody s_Field_over) (scope := defScope s_Field_over) (kws := []) (N := ["self", "one", "other"]) (ps := ["self", "one", "other"]) (ks := ["other", "one"]) (π := [1, 0]) (k := 5) (b := b_Field_over) F ⟨by kernel_rfl, by kernel_rfl, by kernel_rfl, by decide +kernel, by kernel_rfl, by decide +kernel, by decide +kernel⟩ (fun _ _ _ _ _ _ _ us hl => match us, hl with | [_, _], _ => by kernel_rfl) (by decide) rfl (c_Field_over Z)
theorem p_Field_over_at_Fractions_other_one (Z : FX K mg) : FnP PP w K mg base 6 (He.ma K (He.ga K "Fractions") "over") ["other", "one"] [1, 0] m_Field_over := by
  have e : He.ma K (He.ga K "Fractions") "over" = (fun K => He.ma K (He.ga K "Field") "over") K := of_decide_eq_true (z52 Z)
  rw [e]
  exact p_Field_over_other_one Z
theorem p_Field_over_at_Modulo_other_one (Z : FX K mg) : FnP PP w K mg base 6 (He.ma K (He.ga K "Modulo") "over") ["other", "one"] [1, 0] m_Field_over := by
  have e : He.ma K (He.ga K "Modulo") "over" = (fun K => He.ma K (He.ga K "Field") "over") K := of_decide_eq_true (z53 Z)
  rw [e]
  exact p_Field_over_other_one Z
noncomputable def b_Field_plus : DS := seqS (exprS (methM [("Fractions", m_Field_need_numbers), ("Modulo", m_Field_need_numbers)] "need_numbers" (vM 0) (consA (vM 1) (consA (vM 2) (nilA))))) (retS (methM [("Fractions", m_Fractions_add), ("Modulo", m_Modulo_add)] "add" (vM 0) (consA (vM 1) (consA (vM 2) (nilA)))))
noncomputable def m_Field_plus : DF := bodyM 3 [] 3 b_Field_plus
theorem c_Field_plus (Z : FX K mg) {f : Addr} : BodyD PP w K mg base ["self", "one", "other"] "Field.plus" (defScope s_Field_plus) f 5 (defBody s_Field_plus) b_Field_plus := by
  intro cdv A outer s H E hr
  have nd : (["self", "one", "other"] : List Str).Nodup := by decide +kernel
  have tk : Takes (cxOf (L2.CX PP w) PP w K mg base ["self", "one", "other"] "Field.plus" (defScope s_Field_plus) f cdv A outer s H E) (fun c d _ H' => E c d H') := takes_of rfl rfl rfl rfl
  have hp := passes_of (X := cxOf (L2.CX PP w) PP w K mg base ["self", "one", "other"] "Field.plus" (defScope s_Field_plus) f cdv A outer s H E) rfl
  have hu := hr.rm.units
  have hu1 : _ + 1 < cLine := Nat.lt_of_le_of_lt (Nat.add_le_add_left (by decide : 1 ≤ 64) _) hu
  exact (s_cons (s_expr (e_meth tk (.cons ⟨(z9 Z), _, 5, (z43 Z), f_Field_need_numbers_at_Fractions Z, (hr.mono (Nat.le_of_ble_eq_true rfl) : Rm 5 _)⟩ (.cons ⟨(z7 Z), _, 5, (z42 Z), f_Field_need_numbers_at_Modulo Z, (hr.mono (Nat.le_of_ble_eq_true rfl) : Rm 5 _)⟩ .nil)) (ev 0) (a_cons (ev 1) (a_cons (ev 2) a_nil))))
    (s_one (s_ret (e_meth tk (.cons ⟨(z9 Z), _, 3, (z37 Z), f_Fractions_add_at_Fractions Z, (hr.mono (Nat.le_of_ble_eq_true rfl) : Rm 3 _)⟩ (.cons ⟨(z7 Z), _, 1, (z36 Z), f_Modulo_add_at_Modulo Z, (hr.mono (Nat.le_of_ble_eq_true rfl) : Rm 1 _)⟩ .nil)) (ev 0) (a_cons (ev 1) (a_cons (ev 2) a_nil))))))
theorem p_Field_plus_other_one (Z : FX K mg) : FnP PP w K mg base 6 ((fun K => He.ma K (He.ga K "Field") "plus") K) ["other", "one"] [1, 0] m_Field_plus := by
  obtain ⟨fd, F0⟩ := Z.df 25 (d := d_Field_plus) rfl rfl
  have F : FunD K "plus" "Field.plus" (defArgs s_Field_plus) (defBody s_Field_plus) (defScope s_Field_plus) [] [] ((fun K => He.ma K (He.ga K "Field") "plus") K) fd := cast (by kernel_rfl) F0
  exact fn_okP (x := "plus") (qual := "Field.plus") (params := defArgs s_Field_plus) (body := defBody s_Field_plus) (scope := defScope s_Field_plus) (kws := []) (N := ["self", "one", "other"]) (ps := ["self", "one", "other"]) (ks := ["other", "one"]) (π := [1, 0]) (k := 5) (b := b_Field_plus) F ⟨by kernel_rfl, by kernel_rfl, by kernel_rfl, by decide +kernel, by kernel_rfl, by decide +kernel, by decide +kernel⟩ (fun _ _ _ _ _ _ _ us hl => match us, hl with | [_, _], _ => by kernel_rfl) (by decide) rfl (c_Field_plus Z)
theorem p_Field_plus_at_Fractions_other_one (Z : FX K mg) : FnP PP w K mg base 6 (He.ma K (He.ga K "Fractions") "plus") ["other", "one"] [1, 0] m_Field_plus := by
  have e : He.ma K (He.ga K "Fractions") "plus" = (fun K => He.ma K (He.ga K "Field") "plus") K := of_decide_eq_true (z54 Z)
  rw [e]
  exact p_Field_plus_other_one Z
theorem p_Field_plus_at_Modulo_other_one (Z : FX K mg) : FnP PP w K mg base 6 (He.ma K (He.ga K "Modulo") "plus") ["other", "one"] [1, 0] m_Field_plus := by
  have e : He.ma K (He.ga K "Modulo") "plus" = (fun K => He.ma K (He.ga K "Field") "plus") K := of_decide_eq_true (z55 Z)
  rw [e]
  exact p_Field_plus_other_one Z
noncomputable def b_Fractions_multiply : DS := seqS (ifS (andT (notT (truM (argM (isiD it0) (consA (vM 1) (consA (cM (.ty "tuple")) (nilA)))))) (notT (truM (argM (isiD it0) (consA (vM 2) (consA (cM (.ty "tuple")) (nilA))))))) (retS (binM mulD (vM 1) (vM 2))) (skipS)) (seqS (asgS (argM tupD (consA (callM m_parts_of (consA (vM 1) (nilA))) (consA (callM m_parts_of (consA (vM 2) (nilA))) (nilA)))) (tupG 2 (consG (tupG 2 (consG (nameG 3) (consG (nameG 4) (nilG)))) (consG (tupG 2 (consG (nameG 5) (consG (nameG 6) (nilG)))) (nilG))))) (retS (callM m_fraction (consA (binM mulD (vM 3) (vM 5)) (consA (binM mulD (vM 4) (vM 6)) (nilA))))))
noncomputable def m_Fractions_multiply : DF := bodyM 3 [] 7 b_Fractions_multiply
theorem c_Fractions_multiply (Z : FX K mg) {f : Addr} : BodyD PP w K mg base ["self", "one", "other", "top", "bottom", "more", "below"] "Fractions.multiply" (defScope s_Fractions_multiply) f 2 (defBody s_Fractions_multiply) b_Fractions_multiply := by
  intro cdv A outer s H E hr
  have nd : (["self", "one", "other", "top", "bottom", "more", "below"] : List Str).Nodup := by decide +kernel
  have tk : Takes (cxOf (L2.CX PP w) PP w K mg base ["self", "one", "other", "top", "bottom", "more", "below"] "Fractions.multiply" (defScope s_Fractions_multiply) f cdv A outer s H E) (fun c d _ H' => E c d H') := takes_of rfl rfl rfl rfl
  have hp := passes_of (X := cxOf (L2.CX PP w) PP w K mg base ["self", "one", "other", "top", "bottom", "more", "below"] "Fractions.multiply" (defScope s_Fractions_multiply) f cdv A outer s H E) rfl
  have hu := hr.rm.units
  have hu1 : _ + 1 < cLine := Nat.lt_of_le_of_lt (Nat.add_le_add_left (by decide : 1 ≤ 64) _) hu
  exact (s_cons (s_if (PW.pt (w_and (t_not (t_truth (e_callB call_isi (v_isi (z_isi Z)) rfl (z13 Z) (by decide +kernel) (a_cons (ev 1) (a_cons (e_ty (n := "tuple") rfl (z15 Z) (by decide +kernel)) a_nil))))) (w_and1 (t_not (t_truth (e_callB call_isi (v_isi (z_isi Z)) rfl (z13 Z) (by decide +kernel) (a_cons (ev 2) (a_cons (e_ty (n := "tuple") rfl (z15 Z) (by decide +kernel)) a_nil)))))))) (s_one (s_ret (e_mul (ev 1) (ev 2)))) s_nil)
    (s_cons (s_asg (e_tup (a_cons (e_call tk (f_parts_of Z) (hr.mono (Nat.le_of_ble_eq_true rfl) : Rm 1 _) rfl (z23 Z) (k_parts_of Z) (a_cons (ev 1) a_nil)) (a_cons (e_call tk (f_parts_of Z) (hr.mono (Nat.le_of_ble_eq_true rfl) : Rm 1 _) rfl (z23 Z) (k_parts_of Z) (a_cons (ev 2) a_nil)) a_nil))) (g_tup rfl (gs_cons (g_tup rfl (gs_cons (g_name nd rfl (by first | exact .inl rfl | exact .inr rfl)) (gs_cons (g_name nd rfl (by first | exact .inl rfl | exact .inr rfl)) gs_nil))) (gs_cons (g_tup rfl (gs_cons (g_name nd rfl (by first | exact .inl rfl | exact .inr rfl)) (gs_cons (g_name nd rfl (by first | exact .inl rfl | exact .inr rfl)) gs_nil))) gs_nil))))
    (s_one (s_ret (e_call tk (f_fraction Z) (hr.mono (Nat.le_of_ble_eq_true rfl) : Rm 2 _) rfl (z35 Z) (k_fraction Z) (a_cons (e_mul (ev 3) (ev 5)) (a_cons (e_mul (ev 4) (ev 6)) a_nil)))))))
theorem f_Fractions_multiply (Z : FX K mg) : FnD PP w K mg base 3 ((fun K => He.ma K (He.ga K "Fractions") "multiply") K) m_Fractions_multiply := by
  obtain ⟨fd, F0⟩ := Z.df 26 (d := d_Fractions_multiply) rfl rfl
  have F : FunD K "multiply" "Fractions.multiply" (defArgs s_Fractions_multiply) (defBody s_Fractions_multiply) (defScope s_Fractions_multiply) [] [] ((fun K => He.ma K (He.ga K "Fractions") "multiply") K) fd := cast (by kernel_rfl) F0
  exact fn_ok0 (x := "multiply") (qual := "Fractions.multiply") (params := defArgs s_Fractions_multiply) (body := defBody s_Fractions_multiply) (scope := defScope s_Fractions_multiply) (kws := []) (N := ["self", "one", "other", "top", "bottom", "more", "below"]) (ps := ["self", "one", "other"]) (k := 2) (b := b_Fractions_multiply) F ⟨by kernel_rfl, by kernel_rfl, by kernel_rfl, by decide +kernel, by kernel_rfl, by decide +kernel, by decide +kernel⟩ (fun _ _ _ _ _ _ us hl => match us, hl with | [_, _, _], _ => by kernel_rfl) (c_Fractions_multiply Z)
theorem f_Fractions_multiply_at_Fractions (Z : FX K mg) : FnD PP w K mg base 3 (He.ma K (He.ga K "Fractions") "multiply") m_Fractions_multiply := f_Fractions_multiply Z
noncomputable def b_Modulo_multiply : DS := retS (binM modD (binM mulD (vM 1) (vM 2)) (attrM [("Fractions", .fld), ("Modulo", .fld)] "own_prime" (vM 0)))
noncomputable def m_Modulo_multiply : DF := bodyM 3 [] 3 b_Modulo_multiply
theorem c_Modulo_multiply (Z : FX K mg) {f : Addr} : BodyD PP w K mg base ["self", "one", "other"] "Modulo.multiply" (defScope s_Modulo_multiply) f 0 (defBody s_Modulo_multiply) b_Modulo_multiply := by
  intro cdv A outer s H E hr
  have nd : (["self", "one", "other"] : List Str).Nodup := by decide +kernel
  have tk : Takes (cxOf (L2.CX PP w) PP w K mg base ["self", "one", "other"] "Modulo.multiply" (defScope s_Modulo_multiply) f cdv A outer s H E) (fun c d _ H' => E c d H') := takes_of rfl rfl rfl rfl
  have hp := passes_of (X := cxOf (L2.CX PP w) PP w K mg base ["self", "one", "other"] "Modulo.multiply" (defScope s_Modulo_multiply) f cdv A outer s H E) rfl
  have hu := hr.rm.units
  have hu1 : _ + 1 < cLine := Nat.lt_of_le_of_lt (Nat.add_le_add_left (by decide : 1 ≤ 64) _) hu
  exact (s_one (s_ret (e_mod (e_mul (ev 1) (ev 2)) (e_attr (.fld (z9 Z) (z10 Z) (.fld (z7 Z) (z8 Z) .nil)) (ev 0)))))
theorem f_Modulo_multiply (Z : FX K mg) : FnD PP w K mg base 1 ((fun K => He.ma K (He.ga K "Modulo") "multiply") K) m_Modulo_multiply := by
  obtain ⟨fd, F0⟩ := Z.df 27 (d := d_Modulo_multiply) rfl rfl
  have F : FunD K "multiply" "Modulo.multiply" (defArgs s_Modulo_multiply) (defBody s_Modulo_multiply) (defScope s_Modulo_multiply) [] [] ((fun K => He.ma K (He.ga K "Modulo") "multiply") K) fd := cast (by kernel_rfl) F0
  exact fn_ok0 (x := "multiply") (qual := "Modulo.multiply") (params := defArgs s_Modulo_multiply) (body := defBody s_Modulo_multiply) (scope := defScope s_Modulo_multiply) (kws := []) (N := ["self", "one", "other"]) (ps := ["self", "one", "other"]) (k := 0) (b := b_Modulo_multiply) F ⟨by kernel_rfl, by kernel_rfl, by kernel_rfl, by decide +kernel, by kernel_rfl, by decide +kernel, by decide +kernel⟩ (fun _ _ _ _ _ _ us hl => match us, hl with | [_, _, _], _ => by kernel_rfl) (c_Modulo_multiply Z)
theorem f_Modulo_multiply_at_Modulo (Z : FX K mg) : FnD PP w K mg base 1 (He.ma K (He.ga K "Modulo") "multiply") m_Modulo_multiply := f_Modulo_multiply Z
noncomputable def b_Field_times : DS := seqS (exprS (methM [("Fractions", m_Field_need_numbers), ("Modulo", m_Field_need_numbers)] "need_numbers" (vM 0) (consA (vM 1) (consA (vM 2) (nilA))))) (retS (methM [("Fractions", m_Fractions_multiply), ("Modulo", m_Modulo_multiply)] "multiply" (vM 0) (consA (vM 1) (consA (vM 2) (nilA)))))
noncomputable def m_Field_times : DF := bodyM 3 [] 3 b_Field_times
theorem c_Field_times (Z : FX K mg) {f : Addr} : BodyD PP w K mg base ["self", "one", "other"] "Field.times" (defScope s_Field_times) f 5 (defBody s_Field_times) b_Field_times := by
  intro cdv A outer s H E hr
  have nd : (["self", "one", "other"] : List Str).Nodup := by decide +kernel
  have tk : Takes (cxOf (L2.CX PP w) PP w K mg base ["self", "one", "other"] "Field.times" (defScope s_Field_times) f cdv A outer s H E) (fun c d _ H' => E c d H') := takes_of rfl rfl rfl rfl
  have hp := passes_of (X := cxOf (L2.CX PP w) PP w K mg base ["self", "one", "other"] "Field.times" (defScope s_Field_times) f cdv A outer s H E) rfl
  have hu := hr.rm.units
  have hu1 : _ + 1 < cLine := Nat.lt_of_le_of_lt (Nat.add_le_add_left (by decide : 1 ≤ 64) _) hu
  exact (s_cons (s_expr (e_meth tk (.cons ⟨(z9 Z), _, 5, (z43 Z), f_Field_need_numbers_at_Fractions Z, (hr.mono (Nat.le_of_ble_eq_true rfl) : Rm 5 _)⟩ (.cons ⟨(z7 Z), _, 5, (z42 Z), f_Field_need_numbers_at_Modulo Z, (hr.mono (Nat.le_of_ble_eq_true rfl) : Rm 5 _)⟩ .nil)) (ev 0) (a_cons (ev 1) (a_cons (ev 2) a_nil))))
    (s_one (s_ret (e_meth tk (.cons ⟨(z9 Z), _, 3, (z57 Z), f_Fractions_multiply_at_Fractions Z, (hr.mono (Nat.le_of_ble_eq_true rfl) : Rm 3 _)⟩ (.cons ⟨(z7 Z), _, 1, (z56 Z), f_Modulo_multiply_at_Modulo Z, (hr.mono (Nat.le_of_ble_eq_true rfl) : Rm 1 _)⟩ .nil)) (ev 0) (a_cons (ev 1) (a_cons (ev 2) a_nil))))))
theorem p_Field_times_other_one (Z : FX K mg) : FnP PP w K mg base 6 ((fun K => He.ma K (He.ga K "Field") "times") K) ["other", "one"] [1, 0] m_Field_times := by
  obtain ⟨fd, F0⟩ := Z.df 28 (d := d_Field_times) rfl rfl
  have F : FunD K "times" "Field.times" (defArgs s_Field_times) (defBody s_Field_times) (defScope s_Field_times) [] [] ((fun K => He.ma K (He.ga K "Field") "times") K) fd := cast (by kernel_rfl) F0
  exact fn_okP (x := "times") (qual := "Field.times") (params := defArgs s_Field_times) (body := defBody s_Field_times) (scope := defScope s_Field_times) (kws := []) (N := ["self", "one", "other"]) (ps := ["self", "one", "other"]) (ks := ["other", "one"]) (π := [1, 0]) (k := 5) (b := b_Field_times) F ⟨by kernel_rfl, by kernel_rfl, by kernel_rfl, by decide +kernel, by kernel_rfl, by decide +kernel, by decide +kernel⟩ (fun _ _ _ _ _ _ _ us hl => match us, hl with | [_, _], _ => by kernel_rfl) (by decide) rfl (c_Field_times Z)
theorem p_Field_times_at_Fractions_other_one (Z : FX K mg) : FnP PP w K mg base 6 (He.ma K (He.ga K "Fractions") "times") ["other", "one"] [1, 0] m_Field_times := by
  have e : He.ma K (He.ga K "Fractions") "times" = (fun K => He.ma K (He.ga K "Field") "times") K := of_decide_eq_true (z58 Z)
  rw [e]
  exact p_Field_times_other_one Z
theorem p_Field_times_at_Modulo_other_one (Z : FX K mg) : FnP PP w K mg base 6 (He.ma K (He.ga K "Modulo") "times") ["other", "one"] [1, 0] m_Field_times := by
  have e : He.ma K (He.ga K "Modulo") "times" = (fun K => He.ma K (He.ga K "Field") "times") K := of_decide_eq_true (z59 Z)
  rw [e]
  exact p_Field_times_other_one Z
noncomputable def b_Field_total : DS := seqS (exprS (methM [("Fractions", m_Field_need_numbers), ("Modulo", m_Field_need_numbers)] "need_numbers" (vM 0) (starA (vM 1)))) (seqS (setS 2 (cM (.int 0))) (seqS (forS (seqI (vM 1)) (nameG 3) (setS 2 (methM [("Fractions", m_Fractions_add), ("Modulo", m_Modulo_add)] "add" (vM 0) (consA (vM 2) (consA (vM 3) (nilA)))))) (retS (vM 2))))
noncomputable def m_Field_total : DF := bodyV 1 4 b_Field_total
theorem c_Field_total (Z : FX K mg) {f : Addr} : BodyD PP w K mg base ["self", "numbers", "found", "number"] "Field.total" (defScope s_Field_total) f 5 (defBody s_Field_total) b_Field_total := by
  intro cdv A outer s H E hr
  have nd : (["self", "numbers", "found", "number"] : List Str).Nodup := by decide +kernel
  have tk : Takes (cxOf (L2.CX PP w) PP w K mg base ["self", "numbers", "found", "number"] "Field.total" (defScope s_Field_total) f cdv A outer s H E) (fun c d _ H' => E c d H') := takes_of rfl rfl rfl rfl
  have hp := passes_of (X := cxOf (L2.CX PP w) PP w K mg base ["self", "numbers", "found", "number"] "Field.total" (defScope s_Field_total) f cdv A outer s H E) rfl
  have hu := hr.rm.units
  have hu1 : _ + 1 < cLine := Nat.lt_of_le_of_lt (Nat.add_le_add_left (by decide : 1 ≤ 64) _) hu
  exact (s_cons (s_expr (e_methS tk (.cons ⟨(z9 Z), _, 5, (z61 Z), f_Field_need_numbers_at_Fractions Z, (hr.mono (Nat.le_of_ble_eq_true rfl) : Rm 5 _)⟩ (.cons ⟨(z7 Z), _, 5, (z60 Z), f_Field_need_numbers_at_Modulo Z, (hr.mono (Nat.le_of_ble_eq_true rfl) : Rm 5 _)⟩ .nil)) (ev 0) (ev 1)))
    (s_cons (s_set nd rfl (by first | exact .inl rfl | exact .inr rfl) e_int)
    (s_cons (s_for hp rfl (i_seq (ev 1)) (g_name nd rfl (by first | exact .inl rfl | exact .inr rfl)) (s_one (s_set nd rfl (by first | exact .inl rfl | exact .inr rfl) (e_meth tk (.cons ⟨(z9 Z), _, 3, (z37 Z), f_Fractions_add_at_Fractions Z, (hr.mono (Nat.le_of_ble_eq_true rfl) : Rm 3 _)⟩ (.cons ⟨(z7 Z), _, 1, (z36 Z), f_Modulo_add_at_Modulo Z, (hr.mono (Nat.le_of_ble_eq_true rfl) : Rm 1 _)⟩ .nil)) (ev 0) (a_cons (ev 2) (a_cons (ev 3) a_nil))))))
    (s_one (s_ret (ev 2))))))
theorem f_Field_total (Z : FX K mg) : FnD PP w K mg base 6 ((fun K => He.ma K (He.ga K "Field") "total") K) m_Field_total := by
  obtain ⟨fd, F⟩ := Z.df 29 (d := d_Field_total) rfl rfl
  exact fn_okV (ps := ["self"]) (pv := "numbers") F ⟨rfl, rfl, rfl, by decide +kernel, rfl, by decide +kernel, by decide +kernel⟩ (fun b1 b2 b3 b4 b5 b6 => StX.bind_star1 (B := fun l => bindArgs (PySem.W.fnOf _ _ _ _ _ .none b1 b2 b3 b4 b5 b6) ⟨l, []⟩) (fun a0 => rfl) (fun a0 r rs => rfl)) (c_Field_total Z)
theorem f_Field_total_at_Fractions (Z : FX K mg) : FnD PP w K mg base 6 (He.ma K (He.ga K "Fractions") "total") m_Field_total := by
  have e : He.ma K (He.ga K "Fractions") "total" = (fun K => He.ma K (He.ga K "Field") "total") K := of_decide_eq_true (z62 Z)
  rw [e]
  exact f_Field_total Z
theorem f_Field_total_at_Modulo (Z : FX K mg) : FnD PP w K mg base 6 (He.ma K (He.ga K "Modulo") "total") m_Field_total := by
  have e : He.ma K (He.ga K "Modulo") "total" = (fun K => He.ma K (He.ga K "Field") "total") K := of_decide_eq_true (z63 Z)
  rw [e]
  exact f_Field_total Z
noncomputable def b_Fractions___init__ : DS := seqS (superS [("Fractions", m_Field___init__)] (consA (cM .non) (nilA))) (skipS)
noncomputable def m_Fractions___init__ : DF := bodyM 1 [] 2 b_Fractions___init__
theorem f_Fractions___init__ (Z : FX K mg) : FnD PP w K mg base 2 ((fun K => He.ma K (He.ga K "Fractions") "__init__") K) m_Fractions___init__ := by
  obtain ⟨cc, cda, F⟩ := Z.dfS (P := PP) 30 (d := d_Fractions___init__) (C := "Fractions") rfl rfl rfl
  refine fn_sup (N := ["self", "__class__"]) (ps := ["self"]) (b := b_Fractions___init__) F ⟨rfl, rfl, rfl, by decide +kernel, rfl, by decide +kernel, by decide +kernel, by decide +kernel, by decide +kernel⟩ (fun _ _ _ _ _ us hl => match us, hl with | [_], _ => rfl) fun A outer s H E hr => ?_
  have nd : (["self", "__class__"] : List Str).Nodup := by decide +kernel
  have tk : Takes (cxS PP w K mg base ["self", "__class__"] d_Fractions___init__.name d_Fractions___init__.qual d_Fractions___init__.params d_Fractions___init__.body d_Fractions___init__.scope (d_Fractions___init__.ad K) cc cda A outer s H E) (fun c d _ H' => E c d H') := takes_of rfl rfl rfl rfl
  have hp := passes_of (X := cxS PP w K mg base ["self", "__class__"] d_Fractions___init__.name d_Fractions___init__.qual d_Fractions___init__.params d_Fractions___init__.body d_Fractions___init__.scope (d_Fractions___init__.ad K) cc cda A outer s H E) rfl
  have hu := hr.rm.units
  have hu1 : _ + 1 < cLine := Nat.lt_of_le_of_lt (Nat.add_le_add_left (by decide : 1 ≤ 64) _) hu
  have SX := sup_x (w := w) (mg := mg) (base := base) (N := ["self", "__class__"]) (A := A) (outer := outer) (s := s) (H := H) (E := E) (me := "self") F rfl rfl rfl rfl rfl rfl (z65 Z) (by kernel_rfl)
  exact (q_super tk SX (.cons (Z.supF 64 (g := fun K => He.ma K (He.ga K "Field") "__init__") rfl (f_Field___init__ Z) (hr.mono (Nat.le_of_ble_eq_true rfl) : Rm 1 _)) .nil) (a_cons e_non a_nil) (q_of s_nil))
theorem f_Fractions___init___at_Fractions (Z : FX K mg) : FnD PP w K mg base 2 (He.ma K (He.ga K "Fractions") "__init__") m_Fractions___init__ := f_Fractions___init__ Z
noncomputable def b_is_witness : DS := seqS (par2S 4 5 (consA (binM subD (vM 1) (cM (.int 1))) (consA (cM (.int 0)) (nilA)))) (seqS (whileS (blM (binM eqD (binM modD (vM 4) (cM (.int 2))) (cM (.int 0)))) (par2S 4 5 (consA (binM divD (vM 4) (cM (.int 2))) (consA (binM addD (vM 5) (cM (.int 1))) (nilA))))) (seqS (setS 2 (callM m_power (consA (vM 0) (consA (vM 4) (consA (vM 1) (nilA)))))) (seqS (ifS (orT (blM (binM eqD (vM 2) (cM (.int 1)))) (blM (binM eqD (vM 2) (binM subD (vM 1) (cM (.int 1)))))) (retS (cM (.bl false))) (skipS)) (seqS (forS (argI rangeD1 (consA (binM subD (vM 5) (cM (.int 1))) (nilA))) (nameG 3) (seqS (setS 2 (binM modD (binM mulD (vM 2) (vM 2)) (vM 1))) (ifS (blM (binM eqD (vM 2) (binM subD (vM 1) (cM (.int 1))))) (retS (cM (.bl false))) (skipS)))) (retS (cM (.bl true)))))))
noncomputable def m_is_witness : DF := bodyM 2 [] 6 b_is_witness
theorem c_is_witness (Z : FX K mg) {f : Addr} : BodyD PP w K mg base ["number", "value", "found", "turn", "odd", "halves"] "is_witness" (defScope s_is_witness) f 1 (defBody s_is_witness) b_is_witness := by
  intro cdv A outer s H E hr
  have nd : (["number", "value", "found", "turn", "odd", "halves"] : List Str).Nodup := by decide +kernel
  have tk : Takes (cxOf (L2.CX PP w) PP w K mg base ["number", "value", "found", "turn", "odd", "halves"] "is_witness" (defScope s_is_witness) f cdv A outer s H E) (fun c d _ H' => E c d H') := takes_of rfl rfl rfl rfl
  have hp := passes_of (X := cxOf (L2.CX PP w) PP w K mg base ["number", "value", "found", "turn", "odd", "halves"] "is_witness" (defScope s_is_witness) f cdv A outer s H E) rfl
  have hu := hr.rm.units
  have hu1 : _ + 1 < cLine := Nat.lt_of_le_of_lt (Nat.add_le_add_left (by decide : 1 ≤ 64) _) hu
  exact (s_cons (s_par2 rfl nd rfl rfl (by decide) rfl rfl (a_cons (e_sub (ev 1) e_int) (a_cons e_int a_nil)))
    (s_cons (s_while hp (t_eq hu (e_mod (ev 4) e_int) e_int) (s_one (s_par2 rfl nd rfl rfl (by decide) rfl rfl (a_cons (e_div (ev 4) e_int) (a_cons (e_add (ev 5) e_int) a_nil)))))
    (s_cons (s_set nd rfl (by first | exact .inl rfl | exact .inr rfl) (e_call tk (f_power Z) (hr.mono (Nat.le_of_ble_eq_true rfl) : Rm 1 _) rfl (z48 Z) (k_power Z) (a_cons (ev 0) (a_cons (ev 4) (a_cons (ev 1) a_nil)))))
    (s_cons (s_if (PW.pt (w_or (t_eq hu (ev 2) e_int) (w_or1 (t_eq hu (ev 2) (e_sub (ev 1) e_int))))) (s_one (s_ret e_bl)) s_nil)
    (s_cons (s_for hp rfl (i_range1 rfl (z21 Z) (a_cons (e_sub (ev 5) e_int) a_nil)) (g_name nd rfl (by first | exact .inl rfl | exact .inr rfl)) (s_cons (s_set nd rfl (by first | exact .inl rfl | exact .inr rfl) (e_mod (e_mul (ev 2) (ev 2)) (ev 1)))
    (s_one (s_if (t_eq hu (ev 2) (e_sub (ev 1) e_int)) (s_one (s_ret e_bl)) s_nil))))
    (s_one (s_ret e_bl)))))))
theorem f_is_witness (Z : FX K mg) : FnD PP w K mg base 2 ((fun K => He.ga K "is_witness") K) m_is_witness := by
  obtain ⟨fd, F0⟩ := Z.df 31 (d := d_is_witness) rfl rfl
  have F : FunD K "is_witness" "is_witness" (defArgs s_is_witness) (defBody s_is_witness) (defScope s_is_witness) [] [] ((fun K => He.ga K "is_witness") K) fd := cast (by kernel_rfl) F0
  exact fn_ok0 (x := "is_witness") (qual := "is_witness") (params := defArgs s_is_witness) (body := defBody s_is_witness) (scope := defScope s_is_witness) (kws := []) (N := ["number", "value", "found", "turn", "odd", "halves"]) (ps := ["number", "value"]) (k := 1) (b := b_is_witness) F ⟨by kernel_rfl, by kernel_rfl, by kernel_rfl, by decide +kernel, by kernel_rfl, by decide +kernel, by decide +kernel⟩ (fun _ _ _ _ _ _ us hl => match us, hl with | [_, _], _ => by kernel_rfl) (c_is_witness Z)
theorem k_is_witness (Z : FX K mg) : PySem.W.keepIn K (.ref ((fun K => He.ga K "is_witness") K)) = true := Z.keep 31 (d := d_is_witness) rfl
noncomputable def b_is_prime : DS := seqS (ifS (notT (truM (callM m_is_between (consA (vM 0) (consA (cM (.int 2)) (consA (cM (.int 1000000000)) (nilA))))))) (retS (cM (.bl false))) (skipS)) (seqS (forS (seqI (cM (.kot [.int 2, .int 3, .int 5, .int 7, .int 11, .int 13, .int 17, .int 19, .int 23, .int 29, .int 31, .int 37]))) (nameG 1) (ifS (blM (binM eqD (binM modD (vM 0) (vM 1)) (cM (.int 0)))) (retS ((binM eqD (vM 0) (vM 1)))) (skipS))) (retS (notV (argM (anyD) (consA (lcM false (seqI (cM (.kot [.int 2, .int 3, .int 5, .int 7]))) (nameG 2) (yesM) (callM m_is_witness (consA (vM 2) (consA (vM 0) (nilA)))) [2]) (nilA))))))
noncomputable def m_is_prime : DF := bodyM 1 [] 3 b_is_prime
theorem c_is_prime (Z : FX K mg) {f : Addr} : BodyD PP w K mg base ["value", "prime", "number"] "is_prime" (defScope s_is_prime) f 2 (defBody s_is_prime) b_is_prime := by
  intro cdv A outer s H E hr
  have nd : (["value", "prime", "number"] : List Str).Nodup := by decide +kernel
  have tk : Takes (cxOf (L2.CX PP w) PP w K mg base ["value", "prime", "number"] "is_prime" (defScope s_is_prime) f cdv A outer s H E) (fun c d _ H' => E c d H') := takes_of rfl rfl rfl rfl
  have hp := passes_of (X := cxOf (L2.CX PP w) PP w K mg base ["value", "prime", "number"] "is_prime" (defScope s_is_prime) f cdv A outer s H E) rfl
  have hu := hr.rm.units
  have hu1 : _ + 1 < cLine := Nat.lt_of_le_of_lt (Nat.add_le_add_left (by decide : 1 ≤ 64) _) hu
  exact (s_cons (s_if (t_not (t_truth (e_call tk (f_is_between Z) (hr.mono (Nat.le_of_ble_eq_true rfl) : Rm 2 _) rfl (z20 Z) (k_is_between Z) (a_cons (ev 0) (a_cons e_int (a_cons (e_gint rfl (z66 Z)) a_nil)))))) (s_one (s_ret e_bl)) s_nil)
    (s_cons (s_for hp rfl (i_seq (e_gtup rfl (z67 Z) (z68 Z) (fun _ => .cons (.int 2) (.cons (.int 3) (.cons (.int 5) (.cons (.int 7) (.cons (.int 11) (.cons (.int 13) (.cons (.int 17) (.cons (.int 19) (.cons (.int 23) (.cons (.int 29) (.cons (.int 31) (.cons (.int 37) (.nil))))))))))))))) (g_name nd rfl (by first | exact .inl rfl | exact .inr rfl)) (s_one (s_if (t_eq hu (e_mod (ev 0) (ev 1)) e_int) (s_one (s_ret (e_eq hu (ev 0) (ev 1)))) s_nil)))
    (s_one (s_ret (e_not (e_callB (cr_any rfl) v_any rfl (z72 Z) (by decide +kernel) (a_cons (e_lc false rfl nd (i_seq (e_gtup rfl (z69 Z) (z70 Z) (fun _ => .cons (.int 2) (.cons (.int 3) (.cons (.int 5) (.cons (.int 7) (.nil))))))) (own := ([("number", 2)] : List (Str × Nat))) (show BlkOk ["value", "prime", "number"] (defScope s_is_prime) _ _ from ⟨rfl, by decide +kernel, by decide +kernel, by decide +kernel, by decide +kernel⟩) (fun _ _ _ _ _ => (gw_name nd rfl (by first | exact .inl rfl | exact .inr rfl) (by decide))) (fun _ _ _ _ _ => ts_nil) (fun _ _ _ _ _ => (e_call takes_blk (f_is_witness Z) (hr.mono (Nat.le_of_ble_eq_true rfl) : Rm 2 _) rfl (z71 Z) (k_is_witness Z) (a_cons (ev 2) (a_cons (ev 0) a_nil))))) a_nil)))))))
theorem f_is_prime (Z : FX K mg) : FnD PP w K mg base 3 ((fun K => He.ga K "is_prime") K) m_is_prime := by
  obtain ⟨fd, F0⟩ := Z.df 32 (d := d_is_prime) rfl rfl
  have F : FunD K "is_prime" "is_prime" (defArgs s_is_prime) (defBody s_is_prime) (defScope s_is_prime) [] [] ((fun K => He.ga K "is_prime") K) fd := cast (by kernel_rfl) F0
  exact fn_ok0 (x := "is_prime") (qual := "is_prime") (params := defArgs s_is_prime) (body := defBody s_is_prime) (scope := defScope s_is_prime) (kws := []) (N := ["value", "prime", "number"]) (ps := ["value"]) (k := 2) (b := b_is_prime) F ⟨by kernel_rfl, by kernel_rfl, by kernel_rfl, by decide +kernel, by kernel_rfl, by decide +kernel, by decide +kernel⟩ (fun _ _ _ _ _ _ us hl => match us, hl with | [_], _ => by kernel_rfl) (c_is_prime Z)
theorem k_is_prime (Z : FX K mg) : PySem.W.keepIn K (.ref ((fun K => He.ga K "is_prime") K)) = true := Z.keep 32 (d := d_is_prime) rfl
noncomputable def b_Modulo___init__ : DS := seqS (ifS (notT (truM (callM m_is_prime (consA (vM 1) (nilA))))) (raiseS "InvalidPrime" "value" (consA (vM 1) (nilA))) (skipS)) (seqS (superS [("Modulo", m_Field___init__)] (consA (vM 1) (nilA))) (skipS))
noncomputable def m_Modulo___init__ : DF := bodyM 2 [] 3 b_Modulo___init__
theorem f_Modulo___init__ (Z : FX K mg) : FnD PP w K mg base 4 ((fun K => He.ma K (He.ga K "Modulo") "__init__") K) m_Modulo___init__ := by
  obtain ⟨cc, cda, F⟩ := Z.dfS (P := PP) 33 (d := d_Modulo___init__) (C := "Modulo") rfl rfl rfl
  refine fn_sup (N := ["self", "prime", "__class__"]) (ps := ["self", "prime"]) (b := b_Modulo___init__) F ⟨rfl, rfl, rfl, by decide +kernel, rfl, by decide +kernel, by decide +kernel, by decide +kernel, by decide +kernel⟩ (fun _ _ _ _ _ us hl => match us, hl with | [_, _], _ => rfl) fun A outer s H E hr => ?_
  have nd : (["self", "prime", "__class__"] : List Str).Nodup := by decide +kernel
  have tk : Takes (cxS PP w K mg base ["self", "prime", "__class__"] d_Modulo___init__.name d_Modulo___init__.qual d_Modulo___init__.params d_Modulo___init__.body d_Modulo___init__.scope (d_Modulo___init__.ad K) cc cda A outer s H E) (fun c d _ H' => E c d H') := takes_of rfl rfl rfl rfl
  have hp := passes_of (X := cxS PP w K mg base ["self", "prime", "__class__"] d_Modulo___init__.name d_Modulo___init__.qual d_Modulo___init__.params d_Modulo___init__.body d_Modulo___init__.scope (d_Modulo___init__.ad K) cc cda A outer s H E) rfl
  have hu := hr.rm.units
  have hu1 : _ + 1 < cLine := Nat.lt_of_le_of_lt (Nat.add_le_add_left (by decide : 1 ≤ 64) _) hu
  have SX := sup_x (w := w) (mg := mg) (base := base) (N := ["self", "prime", "__class__"]) (A := A) (outer := outer) (s := s) (H := H) (E := E) (me := "self") F rfl rfl rfl rfl rfl rfl (z65 Z) (by kernel_rfl)
  exact (q_cons (s_if (t_not (t_truth (e_call tk (f_is_prime Z) (hr.mono (Nat.le_of_ble_eq_true rfl) : Rm 3 _) rfl (z73 Z) (k_is_prime Z) (a_cons (ev 1) a_nil)))) (s_one (raise_row1 (x_InvalidPrime Z) fun fd h => s_raise1 rfl tk ⟨((z3 Z)).1, ((z3 Z)).2.1, ((z3 Z)).2.2⟩ h.1 ((hr.mono (Nat.le_of_ble_eq_true rfl) : Rm 2 _)).rm h.2 rfl (z74 Z) (a_cons (ev 1) a_nil))) s_nil)
    (q_super tk SX (.cons (Z.supF 75 (g := fun K => He.ma K (He.ga K "Field") "__init__") rfl (f_Field___init__ Z) (hr.mono (Nat.le_of_ble_eq_true rfl) : Rm 1 _)) .nil) (a_cons (ev 1) a_nil) (q_of s_nil)))
theorem f_Modulo___init___at_Modulo (Z : FX K mg) : FnD PP w K mg base 4 (He.ma K (He.ga K "Modulo") "__init__") m_Modulo___init__ := f_Modulo___init__ Z
noncomputable def b__law_draw : DS := seqS (ifS (blM (binM gtI (binM idxD (vM 0) (cM (.str "left"))) (cM (.int 0)))) (seqS (setS 6 (binM modD (argM (intD) (consA (binM idxD (vM 0) (cM (.str "left"))) (nilA))) (vM 1))) (seqS (subS (vM 0) (cM (.str "left")) (binM divD (binM idxD (vM 0) (cM (.str "left"))) (vM 1))) (retS (vM 6)))) (skipS)) (seqS (setS 2 (binM idxD (vM 0) (cM (.str "begun")))) (seqS (subS (vM 0) (cM (.str "begun")) (binM addD (vM 2) (cM (.int 1)))) (seqS (setS 3 (binM addD (binM mulD (cM (.int 53)) (vM 2)) (cM (.int 17)))) (seqS (ifS (blM (binM neD (binM idxD (vM 0) (cM (.str "cells"))) (argM (lstD false) (nilA)))) (setS 3 (binM idxD (binM idxD (vM 0) (cM (.str "cells"))) (binM modD (argM (intD) (consA (vM 2) (nilA))) (argM (lenD) (consA (binM idxD (vM 0) (cM (.str "cells"))) (nilA)))))) (skipS)) (seqS (ifS (andT (blM (binM ltI (vM 2) (argM (lenD) (consA (binM idxD (vM 0) (cM (.str "cells"))) (nilA))))) (blM (binM geI (argM (absD) (consA (vM 3) (nilA))) (binM powD (cM (.int 10)) (cM (.int 18)))))) (seqS (subS (vM 0) (cM (.str "left")) (binM divD (binM subD (argM (absD) (consA (vM 3) (nilA))) (binM powD (cM (.int 10)) (cM (.int 18)))) (vM 1))) (retS (binM modD (argM (intD) (consA (binM subD (argM (absD) (consA (vM 3) (nilA))) (binM powD (cM (.int 10)) (cM (.int 18)))) (nilA))) (vM 1)))) (skipS)) (seqS (setS 4 (binM mulD (binM modD (argM (intD) (consA (vM 3) (nilA))) (cM (.int 4294967197))) (cM (.int 48673)))) (seqS (setS 5 (binM modD (argM (intD) (consA (binM addD (binM addD (vM 4) (binM mulD (vM 2) (binM addD (binM mulD (cM (.int 40009)) (vM 2)) (cM (.int 1511))))) (cM (.int 331))) (nilA))) (cM (.int 4294967189)))) (seqS (setS 5 (binM modD (argM (intD) (consA (binM addD (binM addD (binM addD (binM mulD (vM 5) (vM 5)) (binM mulD (cM (.int 75629)) (vM 5))) (binM mulD (cM (.int 19)) (vM 2))) (cM (.int 7))) (nilA))) (cM (.int 4294967161)))) (retS (binM modD (argM (intD) (consA (binM divD (binM modD (argM (intD) (consA (binM mulD (vM 5) (binM addD (vM 5) (cM (.int 52361)))) (nilA))) (cM (.int 4294967143))) (cM (.int 64))) (nilA))) (vM 1)))))))))))
noncomputable def m__law_draw : DF := bodyM 2 [] 7 b__law_draw
theorem c__law_draw (Z : FX K mg) {f : Addr} : BodyD PP w K mg base ["_law_pen_here", "_law_many", "_law_place", "_law_cell", "_law_mixed", "_law_drawn", "_law_digit"] "_law_draw" (defScope s__law_draw) f 0 (defBody s__law_draw) b__law_draw := by
  intro cdv A outer s H E hr
  have nd : (["_law_pen_here", "_law_many", "_law_place", "_law_cell", "_law_mixed", "_law_drawn", "_law_digit"] : List Str).Nodup := by decide +kernel
  have tk : Takes (cxOf (L2.CX PP w) PP w K mg base ["_law_pen_here", "_law_many", "_law_place", "_law_cell", "_law_mixed", "_law_drawn", "_law_digit"] "_law_draw" (defScope s__law_draw) f cdv A outer s H E) (fun c d _ H' => E c d H') := takes_of rfl rfl rfl rfl
  have hp := passes_of (X := cxOf (L2.CX PP w) PP w K mg base ["_law_pen_here", "_law_many", "_law_place", "_law_cell", "_law_mixed", "_law_drawn", "_law_digit"] "_law_draw" (defScope s__law_draw) f cdv A outer s H E) rfl
  have hu := hr.rm.units
  have hu1 : _ + 1 < cLine := Nat.lt_of_le_of_lt (Nat.add_le_add_left (by decide : 1 ≤ 64) _) hu
  exact (s_cons (s_if (t_gt (e_idx hu1 (ev 0) e_str) e_int) (s_cons (s_set nd rfl (by first | exact .inl rfl | exact .inr rfl) (e_mod (e_callTy call_int1 v_int rfl (z12 Z) (by decide +kernel) (a_cons (e_idx hu1 (ev 0) e_str) a_nil)) (ev 1)))
    (s_cons (s_sub hu1 (ev 0) e_str (e_div (e_idx hu1 (ev 0) e_str) (ev 1)))
    (s_one (s_ret (ev 6))))) s_nil)
    (s_cons (s_set nd rfl (by first | exact .inl rfl | exact .inr rfl) (e_idx hu1 (ev 0) e_str))
    (s_cons (s_sub hu1 (ev 0) e_str (e_add (ev 2) e_int))
    (s_cons (s_set nd rfl (by first | exact .inl rfl | exact .inr rfl) (e_add (e_mul e_int (ev 2)) e_int))
    (s_cons (s_if (t_ne hu (e_idx hu1 (ev 0) e_str) (e_lst false a_nil)) (s_one (s_set nd rfl (by first | exact .inl rfl | exact .inr rfl) (e_idx hu1 (e_idx hu1 (ev 0) e_str) (e_mod (e_callTy call_int1 v_int rfl (z12 Z) (by decide +kernel) (a_cons (ev 2) a_nil)) (e_callB call_len v_len rfl (z17 Z) (by decide +kernel) (a_cons (e_idx hu1 (ev 0) e_str) a_nil)))))) s_nil)
    (s_cons (s_if (PW.pt (w_and (t_lt (ev 2) (e_callB call_len v_len rfl (z17 Z) (by decide +kernel) (a_cons (e_idx hu1 (ev 0) e_str) a_nil))) (w_and1 (t_ge (e_callB call_abs v_abs rfl (z11 Z) (by decide +kernel) (a_cons (ev 3) a_nil)) (e_pow e_int e_int))))) (s_cons (s_sub hu1 (ev 0) e_str (e_div (e_sub (e_callB call_abs v_abs rfl (z11 Z) (by decide +kernel) (a_cons (ev 3) a_nil)) (e_pow e_int e_int)) (ev 1)))
    (s_one (s_ret (e_mod (e_callTy call_int1 v_int rfl (z12 Z) (by decide +kernel) (a_cons (e_sub (e_callB call_abs v_abs rfl (z11 Z) (by decide +kernel) (a_cons (ev 3) a_nil)) (e_pow e_int e_int)) a_nil)) (ev 1))))) s_nil)
    (s_cons (s_set nd rfl (by first | exact .inl rfl | exact .inr rfl) (e_mul (e_mod (e_callTy call_int1 v_int rfl (z12 Z) (by decide +kernel) (a_cons (ev 3) a_nil)) e_int) e_int))
    (s_cons (s_set nd rfl (by first | exact .inl rfl | exact .inr rfl) (e_mod (e_callTy call_int1 v_int rfl (z12 Z) (by decide +kernel) (a_cons (e_add (e_add (ev 4) (e_mul (ev 2) (e_add (e_mul e_int (ev 2)) e_int))) e_int) a_nil)) e_int))
    (s_cons (s_set nd rfl (by first | exact .inl rfl | exact .inr rfl) (e_mod (e_callTy call_int1 v_int rfl (z12 Z) (by decide +kernel) (a_cons (e_add (e_add (e_add (e_mul (ev 5) (ev 5)) (e_mul e_int (ev 5))) (e_mul e_int (ev 2))) e_int) a_nil)) e_int))
    (s_one (s_ret (e_mod (e_callTy call_int1 v_int rfl (z12 Z) (by decide +kernel) (a_cons (e_div (e_mod (e_callTy call_int1 v_int rfl (z12 Z) (by decide +kernel) (a_cons (e_mul (ev 5) (e_add (ev 5) e_int)) a_nil)) e_int) e_int) a_nil)) (ev 1)))))))))))))
theorem f__law_draw (Z : FX K mg) : FnD PP w K mg base 1 ((fun K => He.ga K "_law_draw") K) m__law_draw := by
  obtain ⟨fd, F0⟩ := Z.df 34 (d := d__law_draw) rfl rfl
  have F : FunD K "_law_draw" "_law_draw" (defArgs s__law_draw) (defBody s__law_draw) (defScope s__law_draw) [] [] ((fun K => He.ga K "_law_draw") K) fd := cast (by kernel_rfl) F0
  exact fn_ok0 (x := "_law_draw") (qual := "_law_draw") (params := defArgs s__law_draw) (body := defBody s__law_draw) (scope := defScope s__law_draw) (kws := []) (N := ["_law_pen_here", "_law_many", "_law_place", "_law_cell", "_law_mixed", "_law_drawn", "_law_digit"]) (ps := ["_law_pen_here", "_law_many"]) (k := 0) (b := b__law_draw) F ⟨by kernel_rfl, by kernel_rfl, by kernel_rfl, by decide +kernel, by kernel_rfl, by decide +kernel, by decide +kernel⟩ (fun _ _ _ _ _ _ us hl => match us, hl with | [_, _], _ => by kernel_rfl) (c__law_draw Z)
theorem k__law_draw (Z : FX K mg) : PySem.W.keepIn K (.ref ((fun K => He.ga K "_law_draw") K)) = true := Z.keep 34 (d := d__law_draw) rfl
noncomputable def b__law_pick : DS := retS (binM idxD (vM 1) (callM m__law_draw (consA (vM 0) (consA (argM (lenD) (consA (vM 1) (nilA))) (nilA)))))
noncomputable def m__law_pick : DF := bodyM 2 [] 2 b__law_pick
theorem c__law_pick (Z : FX K mg) {f : Addr} : BodyD PP w K mg base ["_law_pen_here", "_law_options"] "_law_pick" (defScope s__law_pick) f 1 (defBody s__law_pick) b__law_pick := by
  intro cdv A outer s H E hr
  have nd : (["_law_pen_here", "_law_options"] : List Str).Nodup := by decide +kernel
  have tk : Takes (cxOf (L2.CX PP w) PP w K mg base ["_law_pen_here", "_law_options"] "_law_pick" (defScope s__law_pick) f cdv A outer s H E) (fun c d _ H' => E c d H') := takes_of rfl rfl rfl rfl
  have hp := passes_of (X := cxOf (L2.CX PP w) PP w K mg base ["_law_pen_here", "_law_options"] "_law_pick" (defScope s__law_pick) f cdv A outer s H E) rfl
  have hu := hr.rm.units
  have hu1 : _ + 1 < cLine := Nat.lt_of_le_of_lt (Nat.add_le_add_left (by decide : 1 ≤ 64) _) hu
  exact (s_one (s_ret (e_idx hu1 (ev 1) (e_call tk (f__law_draw Z) (hr.mono (Nat.le_of_ble_eq_true rfl) : Rm 1 _) rfl (z76 Z) (k__law_draw Z) (a_cons (ev 0) (a_cons (e_callB call_len v_len rfl (z17 Z) (by decide +kernel) (a_cons (ev 1) a_nil)) a_nil))))))
theorem f__law_pick (Z : FX K mg) : FnD PP w K mg base 2 ((fun K => He.ga K "_law_pick") K) m__law_pick := by
  obtain ⟨fd, F0⟩ := Z.df 35 (d := d__law_pick) rfl rfl
  have F : FunD K "_law_pick" "_law_pick" (defArgs s__law_pick) (defBody s__law_pick) (defScope s__law_pick) [] [] ((fun K => He.ga K "_law_pick") K) fd := cast (by kernel_rfl) F0
  exact fn_ok0 (x := "_law_pick") (qual := "_law_pick") (params := defArgs s__law_pick) (body := defBody s__law_pick) (scope := defScope s__law_pick) (kws := []) (N := ["_law_pen_here", "_law_options"]) (ps := ["_law_pen_here", "_law_options"]) (k := 1) (b := b__law_pick) F ⟨by kernel_rfl, by kernel_rfl, by kernel_rfl, by decide +kernel, by kernel_rfl, by decide +kernel, by decide +kernel⟩ (fun _ _ _ _ _ _ us hl => match us, hl with | [_, _], _ => by kernel_rfl) (c__law_pick Z)
theorem k__law_pick (Z : FX K mg) : PySem.W.keepIn K (.ref ((fun K => He.ga K "_law_pick") K)) = true := Z.keep 35 (d := d__law_pick) rfl
noncomputable def b__law_tens : DS := seqS (setS 1 (cM (.int 1))) (seqS (forS (argI rangeD1 (consA (vM 0) (nilA))) (nameG 2) (setS 1 (binM mulD (cM (.int 10)) (vM 1)))) (retS (vM 1)))
noncomputable def m__law_tens : DF := bodyM 1 [] 3 b__law_tens
theorem c__law_tens (Z : FX K mg) {f : Addr} : BodyD PP w K mg base ["_law_many", "_law_found", "_law_k"] "_law_tens" (defScope s__law_tens) f 0 (defBody s__law_tens) b__law_tens := by
  intro cdv A outer s H E hr
  have nd : (["_law_many", "_law_found", "_law_k"] : List Str).Nodup := by decide +kernel
  have tk : Takes (cxOf (L2.CX PP w) PP w K mg base ["_law_many", "_law_found", "_law_k"] "_law_tens" (defScope s__law_tens) f cdv A outer s H E) (fun c d _ H' => E c d H') := takes_of rfl rfl rfl rfl
  have hp := passes_of (X := cxOf (L2.CX PP w) PP w K mg base ["_law_many", "_law_found", "_law_k"] "_law_tens" (defScope s__law_tens) f cdv A outer s H E) rfl
  have hu := hr.rm.units
  have hu1 : _ + 1 < cLine := Nat.lt_of_le_of_lt (Nat.add_le_add_left (by decide : 1 ≤ 64) _) hu
  exact (s_cons (s_set nd rfl (by first | exact .inl rfl | exact .inr rfl) e_int)
    (s_cons (s_for hp rfl (i_range1 rfl (z21 Z) (a_cons (ev 0) a_nil)) (g_name nd rfl (by first | exact .inl rfl | exact .inr rfl)) (s_one (s_set nd rfl (by first | exact .inl rfl | exact .inr rfl) (e_mul e_int (ev 1)))))
    (s_one (s_ret (ev 1)))))
theorem f__law_tens (Z : FX K mg) : FnD PP w K mg base 1 ((fun K => He.ga K "_law_tens") K) m__law_tens := by
  obtain ⟨fd, F0⟩ := Z.df 36 (d := d__law_tens) rfl rfl
  have F : FunD K "_law_tens" "_law_tens" (defArgs s__law_tens) (defBody s__law_tens) (defScope s__law_tens) [] [] ((fun K => He.ga K "_law_tens") K) fd := cast (by kernel_rfl) F0
  exact fn_ok0 (x := "_law_tens") (qual := "_law_tens") (params := defArgs s__law_tens) (body := defBody s__law_tens) (scope := defScope s__law_tens) (kws := []) (N := ["_law_many", "_law_found", "_law_k"]) (ps := ["_law_many"]) (k := 0) (b := b__law_tens) F ⟨by kernel_rfl, by kernel_rfl, by kernel_rfl, by decide +kernel, by kernel_rfl, by decide +kernel, by decide +kernel⟩ (fun _ _ _ _ _ _ us hl => match us, hl with | [_], _ => by kernel_rfl) (c__law_tens Z)
theorem k__law_tens (Z : FX K mg) : PySem.W.keepIn K (.ref ((fun K => He.ga K "_law_tens") K)) = true := Z.keep 36 (d := d__law_tens) rfl
noncomputable def b__law_far : DS := seqS (setS 1 (cM (.int 0))) (seqS (forS (argI rangeD1 (consA (callM m__law_pick (consA (vM 0) (consA (argM (lstD false) (consA (cM (.int 1)) (consA (cM (.int 1)) (consA (cM (.int 3)) (consA (cM (.int 10)) (nilA)))))) (nilA)))) (nilA))) (nameG 2) (setS 1 (binM addD (binM mulD (vM 1) (binM powD (cM (.int 10)) (cM (.int 9)))) (callM m__law_draw (consA (vM 0) (consA (binM powD (cM (.int 10)) (cM (.int 9))) (nilA))))))) (retS (callM m__law_pick (consA (vM 0) (consA (argM (lstD false) (consA (vM 1) (consA (vM 1) (consA (vM 1) (consA (binM subD (binM subD (callM m__law_tens (consA (cM (.int 100)) (nilA))) (cM (.int 1))) (callM m__law_draw (consA (vM 0) (consA (cM (.int 3)) (nilA))))) (nilA)))))) (nilA))))))
noncomputable def m__law_far : DF := bodyM 1 [] 3 b__law_far
theorem c__law_far (Z : FX K mg) {f : Addr} : BodyD PP w K mg base ["_law_pen_here", "_law_found", "_law_k"] "_law_far" (defScope s__law_far) f 2 (defBody s__law_far) b__law_far := by
  intro cdv A outer s H E hr
  have nd : (["_law_pen_here", "_law_found", "_law_k"] : List Str).Nodup := by decide +kernel
  have tk : Takes (cxOf (L2.CX PP w) PP w K mg base ["_law_pen_here", "_law_found", "_law_k"] "_law_far" (defScope s__law_far) f cdv A outer s H E) (fun c d _ H' => E c d H') := takes_of rfl rfl rfl rfl
  have hp := passes_of (X := cxOf (L2.CX PP w) PP w K mg base ["_law_pen_here", "_law_found", "_law_k"] "_law_far" (defScope s__law_far) f cdv A outer s H E) rfl
  have hu := hr.rm.units
  have hu1 : _ + 1 < cLine := Nat.lt_of_le_of_lt (Nat.add_le_add_left (by decide : 1 ≤ 64) _) hu
  exact (s_cons (s_set nd rfl (by first | exact .inl rfl | exact .inr rfl) e_int)
    (s_cons (s_for hp rfl (i_range1 rfl (z21 Z) (a_cons (e_call tk (f__law_pick Z) (hr.mono (Nat.le_of_ble_eq_true rfl) : Rm 2 _) rfl (z77 Z) (k__law_pick Z) (a_cons (ev 0) (a_cons (e_lst false (a_cons e_int (a_cons e_int (a_cons e_int (a_cons e_int a_nil))))) a_nil))) a_nil)) (g_name nd rfl (by first | exact .inl rfl | exact .inr rfl)) (s_one (s_set nd rfl (by first | exact .inl rfl | exact .inr rfl) (e_add (e_mul (ev 1) (e_pow e_int e_int)) (e_call tk (f__law_draw Z) (hr.mono (Nat.le_of_ble_eq_true rfl) : Rm 1 _) rfl (z76 Z) (k__law_draw Z) (a_cons (ev 0) (a_cons (e_pow e_int e_int) a_nil)))))))
    (s_one (s_ret (e_call tk (f__law_pick Z) (hr.mono (Nat.le_of_ble_eq_true rfl) : Rm 2 _) rfl (z77 Z) (k__law_pick Z) (a_cons (ev 0) (a_cons (e_lst false (a_cons (ev 1) (a_cons (ev 1) (a_cons (ev 1) (a_cons (e_sub (e_sub (e_call tk (f__law_tens Z) (hr.mono (Nat.le_of_ble_eq_true rfl) : Rm 1 _) rfl (z78 Z) (k__law_tens Z) (a_cons e_int a_nil)) e_int) (e_call tk (f__law_draw Z) (hr.mono (Nat.le_of_ble_eq_true rfl) : Rm 1 _) rfl (z76 Z) (k__law_draw Z) (a_cons (ev 0) (a_cons e_int a_nil)))) a_nil))))) a_nil)))))))
theorem f__law_far (Z : FX K mg) : FnD PP w K mg base 3 ((fun K => He.ga K "_law_far") K) m__law_far := by
  obtain ⟨fd, F0⟩ := Z.df 37 (d := d__law_far) rfl rfl
  have F : FunD K "_law_far" "_law_far" (defArgs s__law_far) (defBody s__law_far) (defScope s__law_far) [] [] ((fun K => He.ga K "_law_far") K) fd := cast (by kernel_rfl) F0
  exact fn_ok0 (x := "_law_far") (qual := "_law_far") (params := defArgs s__law_far) (body := defBody s__law_far) (scope := defScope s__law_far) (kws := []) (N := ["_law_pen_here", "_law_found", "_law_k"]) (ps := ["_law_pen_here"]) (k := 2) (b := b__law_far) F ⟨by kernel_rfl, by kernel_rfl, by kernel_rfl, by decide +kernel, by kernel_rfl, by decide +kernel, by decide +kernel⟩ (fun _ _ _ _ _ _ us hl => match us, hl with | [_], _ => by kernel_rfl) (c__law_far Z)
theorem k__law_far (Z : FX K mg) : PySem.W.keepIn K (.ref ((fun K => He.ga K "_law_far") K)) = true := Z.keep 37 (d := d__law_far) rfl
noncomputable def b__law_number : DS := retS (callM m__law_pick (consA (vM 0) (consA (argM (lstD false) (consA (cM (.int 0)) (consA (cM (.int 0)) (consA (cM (.int 1)) (consA (binM subD (argM (intD) (consA (vM 1) (nilA))) (cM (.int 1))) (consA (callM m__law_draw (consA (vM 0) (consA (vM 1) (nilA)))) (nilA))))))) (nilA))))
noncomputable def m__law_number : DF := bodyM 2 [] 2 b__law_number
theorem c__law_number (Z : FX K mg) {f : Addr} : BodyD PP w K mg base ["_law_pen_here", "_law_prime_here"] "_law_number" (defScope s__law_number) f 2 (defBody s__law_number) b__law_number := by
  intro cdv A outer s H E hr
  have nd : (["_law_pen_here", "_law_prime_here"] : List Str).Nodup := by decide +kernel
  have tk : Takes (cxOf (L2.CX PP w) PP w K mg base ["_law_pen_here", "_law_prime_here"] "_law_number" (defScope s__law_number) f cdv A outer s H E) (fun c d _ H' => E c d H') := takes_of rfl rfl rfl rfl
  have hp := passes_of (X := cxOf (L2.CX PP w) PP w K mg base ["_law_pen_here", "_law_prime_here"] "_law_number" (defScope s__law_number) f cdv A outer s H E) rfl
  have hu := hr.rm.units
  have hu1 : _ + 1 < cLine := Nat.lt_of_le_of_lt (Nat.add_le_add_left (by decide : 1 ≤ 64) _) hu
  exact (s_one (s_ret (e_call tk (f__law_pick Z) (hr.mono (Nat.le_of_ble_eq_true rfl) : Rm 2 _) rfl (z77 Z) (k__law_pick Z) (a_cons (ev 0) (a_cons (e_lst false (a_cons e_int (a_cons e_int (a_cons e_int (a_cons (e_sub (e_callTy call_int1 v_int rfl (z12 Z) (by decide +kernel) (a_cons (ev 1) a_nil)) e_int) (a_cons (e_call tk (f__law_draw Z) (hr.mono (Nat.le_of_ble_eq_true rfl) : Rm 1 _) rfl (z76 Z) (k__law_draw Z) (a_cons (ev 0) (a_cons (ev 1) a_nil))) a_nil)))))) a_nil)))))
theorem f__law_number (Z : FX K mg) : FnD PP w K mg base 3 ((fun K => He.ga K "_law_number") K) m__law_number := by
  obtain ⟨fd, F0⟩ := Z.df 38 (d := d__law_number) rfl rfl
  have F : FunD K "_law_number" "_law_number" (defArgs s__law_number) (defBody s__law_number) (defScope s__law_number) [] [] ((fun K => He.ga K "_law_number") K) fd := cast (by kernel_rfl) F0
  exact fn_ok0 (x := "_law_number") (qual := "_law_number") (params := defArgs s__law_number) (body := defBody s__law_number) (scope := defScope s__law_number) (kws := []) (N := ["_law_pen_here", "_law_prime_here"]) (ps := ["_law_pen_here", "_law_prime_here"]) (k := 2) (b := b__law_number) F ⟨by kernel_rfl, by kernel_rfl, by kernel_rfl, by decide +kernel, by kernel_rfl, by decide +kernel, by decide +kernel⟩ (fun _ _ _ _ _ _ us hl => match us, hl with | [_, _], _ => by kernel_rfl) (c__law_number Z)
theorem k__law_number (Z : FX K mg) : PySem.W.keepIn K (.ref ((fun K => He.ga K "_law_number") K)) = true := Z.keep 38 (d := d__law_number) rfl
noncomputable def b__law_signed : DS := retS (ifM (blM (binM eqD (callM m__law_draw (consA (vM 0) (consA (cM (.int 2)) (nilA)))) (cM (.int 0)))) (vM 1) (binM subD (cM (.int 0)) (vM 1)))
noncomputable def m__law_signed : DF := bodyM 2 [] 2 b__law_signed
theorem c__law_signed (Z : FX K mg) {f : Addr} : BodyD PP w K mg base ["_law_pen_here", "_law_number_here"] "_law_signed" (defScope s__law_signed) f 1 (defBody s__law_signed) b__law_signed := by
  intro cdv A outer s H E hr
  have nd : (["_law_pen_here", "_law_number_here"] : List Str).Nodup := by decide +kernel
  have tk : Takes (cxOf (L2.CX PP w) PP w K mg base ["_law_pen_here", "_law_number_here"] "_law_signed" (defScope s__law_signed) f cdv A outer s H E) (fun c d _ H' => E c d H') := takes_of rfl rfl rfl rfl
  have hp := passes_of (X := cxOf (L2.CX PP w) PP w K mg base ["_law_pen_here", "_law_number_here"] "_law_signed" (defScope s__law_signed) f cdv A outer s H E) rfl
  have hu := hr.rm.units
  have hu1 : _ + 1 < cLine := Nat.lt_of_le_of_lt (Nat.add_le_add_left (by decide : 1 ≤ 64) _) hu
  exact (s_one (s_ret (e_if (t_eq hu (e_call tk (f__law_draw Z) (hr.mono (Nat.le_of_ble_eq_true rfl) : Rm 1 _) rfl (z76 Z) (k__law_draw Z) (a_cons (ev 0) (a_cons e_int a_nil))) e_int) (ev 1) (e_sub e_int (ev 1)))))
theorem f__law_signed (Z : FX K mg) : FnD PP w K mg base 2 ((fun K => He.ga K "_law_signed") K) m__law_signed := by
  obtain ⟨fd, F0⟩ := Z.df 39 (d := d__law_signed) rfl rfl
  have F : FunD K "_law_signed" "_law_signed" (defArgs s__law_signed) (defBody s__law_signed) (defScope s__law_signed) [] [] ((fun K => He.ga K "_law_signed") K) fd := cast (by kernel_rfl) F0
  exact fn_ok0 (x := "_law_signed") (qual := "_law_signed") (params := defArgs s__law_signed) (body := defBody s__law_signed) (scope := defScope s__law_signed) (kws := []) (N := ["_law_pen_here", "_law_number_here"]) (ps := ["_law_pen_here", "_law_number_here"]) (k := 1) (b := b__law_signed) F ⟨by kernel_rfl, by kernel_rfl, by kernel_rfl, by decide +kernel, by kernel_rfl, by decide +kernel, by decide +kernel⟩ (fun _ _ _ _ _ _ us hl => match us, hl with | [_, _], _ => by kernel_rfl) (c__law_signed Z)
theorem k__law_signed (Z : FX K mg) : PySem.W.keepIn K (.ref ((fun K => He.ga K "_law_signed") K)) = true := Z.keep 39 (d := d__law_signed) rfl
noncomputable def b__law_gcd : DS := seqS (whileS (blM (binM neD (vM 1) (cM (.int 0)))) (par2S 0 1 (consA (vM 1) (consA (binM modD (argM (intD) (consA (vM 0) (nilA))) (vM 1)) (nilA))))) (retS (argM (absD) (consA (vM 0) (nilA))))
noncomputable def m__law_gcd : DF := bodyM 2 [] 2 b__law_gcd
theorem c__law_gcd (Z : FX K mg) {f : Addr} : BodyD PP w K mg base ["_law_front", "_law_back"] "_law_gcd" (defScope s__law_gcd) f 0 (defBody s__law_gcd) b__law_gcd := by
  intro cdv A outer s H E hr
  have nd : (["_law_front", "_law_back"] : List Str).Nodup := by decide +kernel
  have tk : Takes (cxOf (L2.CX PP w) PP w K mg base ["_law_front", "_law_back"] "_law_gcd" (defScope s__law_gcd) f cdv A outer s H E) (fun c d _ H' => E c d H') := takes_of rfl rfl rfl rfl
  have hp := passes_of (X := cxOf (L2.CX PP w) PP w K mg base ["_law_front", "_law_back"] "_law_gcd" (defScope s__law_gcd) f cdv A outer s H E) rfl
  have hu := hr.rm.units
  have hu1 : _ + 1 < cLine := Nat.lt_of_le_of_lt (Nat.add_le_add_left (by decide : 1 ≤ 64) _) hu
  exact (s_cons (s_while hp (t_ne hu (ev 1) e_int) (s_one (s_par2 rfl nd rfl rfl (by decide) rfl rfl (a_cons (ev 1) (a_cons (e_mod (e_callTy call_int1 v_int rfl (z12 Z) (by decide +kernel) (a_cons (ev 0) a_nil)) (ev 1)) a_nil)))))
    (s_one (s_ret (e_callB call_abs v_abs rfl (z11 Z) (by decide +kernel) (a_cons (ev 0) a_nil)))))
theorem f__law_gcd (Z : FX K mg) : FnD PP w K mg base 1 ((fun K => He.ga K "_law_gcd") K) m__law_gcd := by
  obtain ⟨fd, F0⟩ := Z.df 40 (d := d__law_gcd) rfl rfl
  have F : FunD K "_law_gcd" "_law_gcd" (defArgs s__law_gcd) (defBody s__law_gcd) (defScope s__law_gcd) [] [] ((fun K => He.ga K "_law_gcd") K) fd := cast (by kernel_rfl) F0
  exact fn_ok0 (x := "_law_gcd") (qual := "_law_gcd") (params := defArgs s__law_gcd) (body := defBody s__law_gcd) (scope := defScope s__law_gcd) (kws := []) (N := ["_law_front", "_law_back"]) (ps := ["_law_front", "_law_back"]) (k := 0) (b := b__law_gcd) F ⟨by kernel_rfl, by kernel_rfl, by kernel_rfl, by decide +kernel, by kernel_rfl, by decide +kernel, by decide +kernel⟩ (fun _ _ _ _ _ _ us hl => match us, hl with | [_, _], _ => by kernel_rfl) (c__law_gcd Z)
theorem k__law_gcd (Z : FX K mg) : PySem.W.keepIn K (.ref ((fun K => He.ga K "_law_gcd") K)) = true := Z.keep 40 (d := d__law_gcd) rfl
noncomputable def b__law_told : DS := seqS (setS 2 (ifM (blM (binM gtI (vM 1) (cM (.int 0)))) (callM m__law_gcd (consA (vM 0) (consA (vM 1) (nilA)))) (binM subD (cM (.int 0)) (callM m__law_gcd (consA (vM 0) (consA (vM 1) (nilA))))))) (retS (ifM (blM (binM eqD (vM 1) (vM 2))) (binM divD (vM 0) (vM 2)) (argM tupD (consA (binM divD (vM 0) (vM 2)) (consA (binM divD (vM 1) (vM 2)) (nilA))))))
noncomputable def m__law_told : DF := bodyM 2 [] 3 b__law_told
theorem c__law_told (Z : FX K mg) {f : Addr} : BodyD PP w K mg base ["_law_top", "_law_bottom", "_law_shared"] "_law_told" (defScope s__law_told) f 1 (defBody s__law_told) b__law_told := by
  intro cdv A outer s H E hr
  have nd : (["_law_top", "_law_bottom", "_law_shared"] : List Str).Nodup := by decide +kernel
  have tk : Takes (cxOf (L2.CX PP w) PP w K mg base ["_law_top", "_law_bottom", "_law_shared"] "_law_told" (defScope s__law_told) f cdv A outer s H E) (fun c d _ H' => E c d H') := takes_of rfl rfl rfl rfl
  have hp := passes_of (X := cxOf (L2.CX PP w) PP w K mg base ["_law_top", "_law_bottom", "_law_shared"] "_law_told" (defScope s__law_told) f cdv A outer s H E) rfl
  have hu := hr.rm.units
  have hu1 : _ + 1 < cLine := Nat.lt_of_le_of_lt (Nat.add_le_add_left (by decide : 1 ≤ 64) _) hu
  exact (s_cons (s_set nd rfl (by first | exact .inl rfl | exact .inr rfl) (e_if (t_gt (ev 1) e_int) (e_call tk (f__law_gcd Z) (hr.mono (Nat.le_of_ble_eq_true rfl) : Rm 1 _) rfl (z79 Z) (k__law_gcd Z) (a_cons (ev 0) (a_cons (ev 1) a_nil))) (e_sub e_int (e_call tk (f__law_gcd Z) (hr.mono (Nat.le_of_ble_eq_true rfl) : Rm 1 _) rfl (z79 Z) (k__law_gcd Z) (a_cons (ev 0) (a_cons (ev 1) a_nil))))))
    (s_one (s_ret (e_if (t_eq hu (ev 1) (ev 2)) (e_div (ev 0) (ev 2)) (e_tup (a_cons (e_div (ev 0) (ev 2)) (a_cons (e_div (ev 1) (ev 2)) a_nil)))))))
theorem f__law_told (Z : FX K mg) : FnD PP w K mg base 2 ((fun K => He.ga K "_law_told") K) m__law_told := by
  obtain ⟨fd, F0⟩ := Z.df 41 (d := d__law_told) rfl rfl
  have F : FunD K "_law_told" "_law_told" (defArgs s__law_told) (defBody s__law_told) (defScope s__law_told) [] [] ((fun K => He.ga K "_law_told") K) fd := cast (by kernel_rfl) F0
  exact fn_ok0 (x := "_law_told") (qual := "_law_told") (params := defArgs s__law_told) (body := defBody s__law_told) (scope := defScope s__law_told) (kws := []) (N := ["_law_top", "_law_bottom", "_law_shared"]) (ps := ["_law_top", "_law_bottom"]) (k := 1) (b := b__law_told) F ⟨by kernel_rfl, by kernel_rfl, by kernel_rfl, by decide +kernel, by kernel_rfl, by decide +kernel, by decide +kernel⟩ (fun _ _ _ _ _ _ us hl => match us, hl with | [_, _], _ => by kernel_rfl) (c__law_told Z)
theorem k__law_told (Z : FX K mg) : PySem.W.keepIn K (.ref ((fun K => He.ga K "_law_told") K)) = true := Z.keep 41 (d := d__law_told) rfl
noncomputable def b__law_any_number : DS := seqS (ifS (blM (binM gtI (vM 1) (cM (.int 0)))) (retS (callM m__law_number (consA (vM 0) (consA (vM 1) (nilA))))) (skipS)) (seqS (setS 3 (callM m__law_signed (consA (vM 0) (consA (callM m__law_pick (consA (vM 0) (consA (argM (lstD false) (consA (cM (.int 0)) (consA (cM (.int 1)) (consA (callM m__law_draw (consA (vM 0) (consA (cM (.int 12)) (nilA)))) (consA (callM m__law_draw (consA (vM 0) (consA (binM powD (cM (.int 10)) (cM (.int 9))) (nilA)))) (nilA)))))) (nilA)))) (nilA))))) (seqS (setS 4 (callM m__law_pick (consA (vM 0) (consA (argM (lstD false) (consA (cM (.int 1)) (consA (cM (.int 1)) (consA (binM addD (cM (.int 1)) (callM m__law_draw (consA (vM 0) (consA (cM (.int 12)) (nilA))))) (consA (binM addD (cM (.int 1)) (callM m__law_draw (consA (vM 0) (consA (binM powD (cM (.int 10)) (cM (.int 9))) (nilA))))) (nilA)))))) (nilA))))) (seqS (ifS (andT (notT (truM (vM 2))) (blM (binM eqD (callM m__law_draw (consA (vM 0) (consA (cM (.int 3)) (nilA)))) (cM (.int 0))))) (par2S 3 4 (consA (callM m__law_signed (consA (vM 0) (consA (callM m__law_far (consA (vM 0) (nilA))) (nilA)))) (consA (callM m__law_pick (consA (vM 0) (consA (argM (lstD false) (consA (cM (.int 1)) (consA (cM (.int 2)) (consA (argM (max2D) (consA (cM (.int 1)) (consA (callM m__law_far (consA (vM 0) (nilA))) (nilA)))) (nilA))))) (nilA)))) (nilA)))) (skipS)) (retS (callM m__law_told (consA (vM 3) (consA (vM 4) (nilA))))))))
noncomputable def m__law_any_number : DF := bodyM 3 [] 5 b__law_any_number
theorem c__law_any_number (Z : FX K mg) {f : Addr} : BodyD PP w K mg base ["_law_pen_here", "_law_prime_here", "_law_is_small", "_law_top", "_law_bottom"] "_law_any_number" (defScope s__law_any_number) f 3 (defBody s__law_any_number) b__law_any_number := by
  intro cdv A outer s H E hr
  have nd : (["_law_pen_here", "_law_prime_here", "_law_is_small", "_law_top", "_law_bottom"] : List Str).Nodup := by decide +kernel
  have tk : Takes (cxOf (L2.CX PP w) PP w K mg base ["_law_pen_here", "_law_prime_here", "_law_is_small", "_law_top", "_law_bottom"] "_law_any_number" (defScope s__law_any_number) f cdv A outer s H E) (fun c d _ H' => E c d H') := takes_of rfl rfl rfl rfl
  have hp := passes_of (X := cxOf (L2.CX PP w) PP w K mg base ["_law_pen_here", "_law_prime_here", "_law_is_small", "_law_top", "_law_bottom"] "_law_any_number" (defScope s__law_any_number) f cdv A outer s H E) rfl
  have hu := hr.rm.units
  have hu1 : _ + 1 < cLine := Nat.lt_of_le_of_lt (Nat.add_le_add_left (by decide : 1 ≤ 64) _) hu
  exact (s_cons (s_if (t_gt (ev 1) e_int) (s_one (s_ret (e_call tk (f__law_number Z) (hr.mono (Nat.le_of_ble_eq_true rfl) : Rm 3 _) rfl (z80 Z) (k__law_number Z) (a_cons (ev 0) (a_cons (ev 1) a_nil))))) s_nil)
    (s_cons (s_set nd rfl (by first | exact .inl rfl | exact .inr rfl) (e_call tk (f__law_signed Z) (hr.mono (Nat.le_of_ble_eq_true rfl) : Rm 2 _) rfl (z81 Z) (k__law_signed Z) (a_cons (ev 0) (a_cons (e_call tk (f__law_pick Z) (hr.mono (Nat.le_of_ble_eq_true rfl) : Rm 2 _) rfl (z77 Z) (k__law_pick Z) (a_cons (ev 0) (a_cons (e_lst false (a_cons e_int (a_cons e_int (a_cons (e_call tk (f__law_draw Z) (hr.mono (Nat.le_of_ble_eq_true rfl) : Rm 1 _) rfl (z76 Z) (k__law_draw Z) (a_cons (ev 0) (a_cons e_int a_nil))) (a_cons (e_call tk (f__law_draw Z) (hr.mono (Nat.le_of_ble_eq_true rfl) : Rm 1 _) rfl (z76 Z) (k__law_draw Z) (a_cons (ev 0) (a_cons (e_pow e_int e_int) a_nil))) a_nil))))) a_nil))) a_nil))))
    (s_cons (s_set nd rfl (by first | exact .inl rfl | exact .inr rfl) (e_call tk (f__law_pick Z) (hr.mono (Nat.le_of_ble_eq_true rfl) : Rm 2 _) rfl (z77 Z) (k__law_pick Z) (a_cons (ev 0) (a_cons (e_lst false (a_cons e_int (a_cons e_int (a_cons (e_add e_int (e_call tk (f__law_draw Z) (hr.mono (Nat.le_of_ble_eq_true rfl) : Rm 1 _) rfl (z76 Z) (k__law_draw Z) (a_cons (ev 0) (a_cons e_int a_nil)))) (a_cons (e_add e_int (e_call tk (f__law_draw Z) (hr.mono (Nat.le_of_ble_eq_true rfl) : Rm 1 _) rfl (z76 Z) (k__law_draw Z) (a_cons (ev 0) (a_cons (e_pow e_int e_int) a_nil)))) a_nil))))) a_nil))))
    (s_cons (s_if (PW.pt (w_and (t_not (t_truth (ev 2))) (w_and1 (t_eq hu (e_call tk (f__law_draw Z) (hr.mono (Nat.le_of_ble_eq_true rfl) : Rm 1 _) rfl (z76 Z) (k__law_draw Z) (a_cons (ev 0) (a_cons e_int a_nil))) e_int)))) (s_one (s_par2 rfl nd rfl rfl (by decide) rfl rfl (a_cons (e_call tk (f__law_signed Z) (hr.mono (Nat.le_of_ble_eq_true rfl) : Rm 2 _) rfl (z81 Z) (k__law_signed Z) (a_cons (ev 0) (a_cons (e_call tk (f__law_far Z) (hr.mono (Nat.le_of_ble_eq_true rfl) : Rm 3 _) rfl (z82 Z) (k__law_far Z) (a_cons (ev 0) a_nil)) a_nil))) (a_cons (e_call tk (f__law_pick Z) (hr.mono (Nat.le_of_ble_eq_true rfl) : Rm 2 _) rfl (z77 Z) (k__law_pick Z) (a_cons (ev 0) (a_cons (e_lst false (a_cons e_int (a_cons e_int (a_cons (e_callB (call_max2 rfl) v_max2 rfl (z83 Z) (by decide +kernel) (a_cons e_int (a_cons (e_call tk (f__law_far Z) (hr.mono (Nat.le_of_ble_eq_true rfl) : Rm 3 _) rfl (z82 Z) (k__law_far Z) (a_cons (ev 0) a_nil)) a_nil))) a_nil)))) a_nil))) a_nil)))) s_nil)
    (s_one (s_ret (e_call tk (f__law_told Z) (hr.mono (Nat.le_of_ble_eq_true rfl) : Rm 2 _) rfl (z84 Z) (k__law_told Z) (a_cons (ev 3) (a_cons (ev 4) a_nil)))))))))
theorem f__law_any_number (Z : FX K mg) : FnD PP w K mg base 4 ((fun K => He.ga K "_law_any_number") K) m__law_any_number := by
  obtain ⟨fd, F0⟩ := Z.df 42 (d := d__law_any_number) rfl rfl
  have F : FunD K "_law_any_number" "_law_any_number" (defArgs s__law_any_number) (defBody s__law_any_number) (defScope s__law_any_number) [] [] ((fun K => He.ga K "_law_any_number") K) fd := cast (by kernel_rfl) F0
  exact fn_ok0 (x := "_law_any_number") (qual := "_law_any_number") (params := defArgs s__law_any_number) (body := defBody s__law_any_number) (scope := defScope s__law_any_number) (kws := []) (N := ["_law_pen_here", "_law_prime_here", "_law_is_small", "_law_top", "_law_bottom"]) (ps := ["_law_pen_here", "_law_prime_here", "_law_is_small"]) (k := 3) (b := b__law_any_number) F ⟨by kernel_rfl, by kernel_rfl, by kernel_rfl, by decide +kernel, by kernel_rfl, by decide +kernel, by decide +kernel⟩ (fun _ _ _ _ _ _ us hl => match us, hl with | [_, _, _], _ => by kernel_rfl) (c__law_any_number Z)
theorem k__law_any_number (Z : FX K mg) : PySem.W.keepIn K (.ref ((fun K => He.ga K "_law_any_number") K)) = true := Z.keep 42 (d := d__law_any_number) rfl
noncomputable def b__law_prime : DS := retS (callM m__law_pick (consA (vM 0) (consA (argM (lstD false) (consA (cM (.int 2)) (consA (cM (.int 2)) (consA (cM (.int 3)) (consA (cM (.int 3)) (consA (cM (.int 5)) (consA (cM (.int 7)) (consA (cM (.int 101)) (consA (cM (.int 1000003)) (nilA)))))))))) (nilA))))
noncomputable def m__law_prime : DF := bodyM 1 [] 1 b__law_prime
theorem c__law_prime (Z : FX K mg) {f : Addr} : BodyD PP w K mg base ["_law_pen_here"] "_law_prime" (defScope s__law_prime) f 2 (defBody s__law_prime) b__law_prime := by
  intro cdv A outer s H E hr
  have nd : (["_law_pen_here"] : List Str).Nodup := by decide +kernel
  have tk : Takes (cxOf (L2.CX PP w) PP w K mg base ["_law_pen_here"] "_law_prime" (defScope s__law_prime) f cdv A outer s H E) (fun c d _ H' => E c d H') := takes_of rfl rfl rfl rfl
  have hp := passes_of (X := cxOf (L2.CX PP w) PP w K mg base ["_law_pen_here"] "_law_prime" (defScope s__law_prime) f cdv A outer s H E) rfl
  have hu := hr.rm.units
  have hu1 : _ + 1 < cLine := Nat.lt_of_le_of_lt (Nat.add_le_add_left (by decide : 1 ≤ 64) _) hu
  exact (s_one (s_ret (e_call tk (f__law_pick Z) (hr.mono (Nat.le_of_ble_eq_true rfl) : Rm 2 _) rfl (z77 Z) (k__law_pick Z) (a_cons (ev 0) (a_cons (e_lst false (a_cons e_int (a_cons e_int (a_cons e_int (a_cons e_int (a_cons e_int (a_cons e_int (a_cons e_int (a_cons e_int a_nil))))))))) a_nil)))))
theorem f__law_prime (Z : FX K mg) : FnD PP w K mg base 3 ((fun K => He.ga K "_law_prime") K) m__law_prime := by
  obtain ⟨fd, F0⟩ := Z.df 43 (d := d__law_prime) rfl rfl
  have F : FunD K "_law_prime" "_law_prime" (defArgs s__law_prime) (defBody s__law_prime) (defScope s__law_prime) [] [] ((fun K => He.ga K "_law_prime") K) fd := cast (by kernel_rfl) F0
  exact fn_ok0 (x := "_law_prime") (qual := "_law_prime") (params := defArgs s__law_prime) (body := defBody s__law_prime) (scope := defScope s__law_prime) (kws := []) (N := ["_law_pen_here"]) (ps := ["_law_pen_here"]) (k := 2) (b := b__law_prime) F ⟨by kernel_rfl, by kernel_rfl, by kernel_rfl, by decide +kernel, by kernel_rfl, by decide +kernel, by decide +kernel⟩ (fun _ _ _ _ _ _ us hl => match us, hl with | [_], _ => by kernel_rfl) (c__law_prime Z)
theorem k__law_prime (Z : FX K mg) : PySem.W.keepIn K (.ref ((fun K => He.ga K "_law_prime") K)) = true := Z.keep 43 (d := d__law_prime) rfl
noncomputable def b__law_any_prime : DS := retS (callM m__law_pick (consA (vM 0) (consA (argM (lstD false) (consA (cM (.int 0)) (consA (callM m__law_prime (consA (vM 0) (nilA))) (nilA)))) (nilA))))
noncomputable def m__law_any_prime : DF := bodyM 1 [] 1 b__law_any_prime
theorem c__law_any_prime (Z : FX K mg) {f : Addr} : BodyD PP w K mg base ["_law_pen_here"] "_law_any_prime" (defScope s__law_any_prime) f 3 (defBody s__law_any_prime) b__law_any_prime := by
  intro cdv A outer s H E hr
  have nd : (["_law_pen_here"] : List Str).Nodup := by decide +kernel
  have tk : Takes (cxOf (L2.CX PP w) PP w K mg base ["_law_pen_here"] "_law_any_prime" (defScope s__law_any_prime) f cdv A outer s H E) (fun c d _ H' => E c d H') := takes_of rfl rfl rfl rfl
  have hp := passes_of (X := cxOf (L2.CX PP w) PP w K mg base ["_law_pen_here"] "_law_any_prime" (defScope s__law_any_prime) f cdv A outer s H E) rfl
  have hu := hr.rm.units
  have hu1 : _ + 1 < cLine := Nat.lt_of_le_of_lt (Nat.add_le_add_left (by decide : 1 ≤ 64) _) hu
  exact (s_one (s_ret (e_call tk (f__law_pick Z) (hr.mono (Nat.le_of_ble_eq_true rfl) : Rm 2 _) rfl (z77 Z) (k__law_pick Z) (a_cons (ev 0) (a_cons (e_lst false (a_cons e_int (a_cons (e_call tk (f__law_prime Z) (hr.mono (Nat.le_of_ble_eq_true rfl) : Rm 3 _) rfl (z85 Z) (k__law_prime Z) (a_cons (ev 0) a_nil)) a_nil))) a_nil)))))
theorem f__law_any_prime (Z : FX K mg) : FnD PP w K mg base 4 ((fun K => He.ga K "_law_any_prime") K) m__law_any_prime := by
  obtain ⟨fd, F0⟩ := Z.df 44 (d := d__law_any_prime) rfl rfl
  have F : FunD K "_law_any_prime" "_law_any_prime" (defArgs s__law_any_prime) (defBody s__law_any_prime) (defScope s__law_any_prime) [] [] ((fun K => He.ga K "_law_any_prime") K) fd := cast (by kernel_rfl) F0
  exact fn_ok0 (x := "_law_any_prime") (qual := "_law_any_prime") (params := defArgs s__law_any_prime) (body := defBody s__law_any_prime) (scope := defScope s__law_any_prime) (kws := []) (N := ["_law_pen_here"]) (ps := ["_law_pen_here"]) (k := 3) (b := b__law_any_prime) F ⟨by kernel_rfl, by kernel_rfl, by kernel_rfl, by decide +kernel, by kernel_rfl, by decide +kernel, by decide +kernel⟩ (fun _ _ _ _ _ _ us hl => match us, hl with | [_], _ => by kernel_rfl) (c__law_any_prime Z)
theorem k__law_any_prime (Z : FX K mg) : PySem.W.keepIn K (.ref ((fun K => He.ga K "_law_any_prime") K)) = true := Z.keep 44 (d := d__law_any_prime) rfl
noncomputable def b__law_is_whole : DS := retS (andV (argM (isiD it0) (consA (vM 0) (consA (cM (.ty "int")) (nilA)))) (notV (argM (isiD it0) (consA (vM 0) (consA (cM (.ty "bool")) (nilA))))))
noncomputable def m__law_is_whole : DF := bodyM 1 [] 1 b__law_is_whole
theorem c__law_is_whole (Z : FX K mg) {f : Addr} : BodyD PP w K mg base ["_law_thing"] "_law_is_whole" (defScope s__law_is_whole) f 0 (defBody s__law_is_whole) b__law_is_whole := by
  intro cdv A outer s H E hr
  have nd : (["_law_thing"] : List Str).Nodup := by decide +kernel
  have tk : Takes (cxOf (L2.CX PP w) PP w K mg base ["_law_thing"] "_law_is_whole" (defScope s__law_is_whole) f cdv A outer s H E) (fun c d _ H' => E c d H') := takes_of rfl rfl rfl rfl
  have hp := passes_of (X := cxOf (L2.CX PP w) PP w K mg base ["_law_thing"] "_law_is_whole" (defScope s__law_is_whole) f cdv A outer s H E) rfl
  have hu := hr.rm.units
  have hu1 : _ + 1 < cLine := Nat.lt_of_le_of_lt (Nat.add_le_add_left (by decide : 1 ≤ 64) _) hu
  exact (s_one (s_ret (e_and (e_callB call_isi (v_isi (z_isi Z)) rfl (z13 Z) (by decide +kernel) (a_cons (ev 0) (a_cons (e_ty (n := "int") rfl (z12 Z) (by decide +kernel)) a_nil))) (e_one (e_not (e_callB call_isi (v_isi (z_isi Z)) rfl (z13 Z) (by decide +kernel) (a_cons (ev 0) (a_cons (e_ty (n := "bool") rfl (z14 Z) (by decide +kernel)) a_nil))))))))
theorem f__law_is_whole (Z : FX K mg) : FnD PP w K mg base 1 ((fun K => He.ga K "_law_is_whole") K) m__law_is_whole := by
  obtain ⟨fd, F0⟩ := Z.df 45 (d := d__law_is_whole) rfl rfl
  have F : FunD K "_law_is_whole" "_law_is_whole" (defArgs s__law_is_whole) (defBody s__law_is_whole) (defScope s__law_is_whole) [] [] ((fun K => He.ga K "_law_is_whole") K) fd := cast (by kernel_rfl) F0
  exact fn_ok0 (x := "_law_is_whole") (qual := "_law_is_whole") (params := defArgs s__law_is_whole) (body := defBody s__law_is_whole) (scope := defScope s__law_is_whole) (kws := []) (N := ["_law_thing"]) (ps := ["_law_thing"]) (k := 0) (b := b__law_is_whole) F ⟨by kernel_rfl, by kernel_rfl, by kernel_rfl, by decide +kernel, by kernel_rfl, by decide +kernel, by decide +kernel⟩ (fun _ _ _ _ _ _ us hl => match us, hl with | [_], _ => by kernel_rfl) (c__law_is_whole Z)
theorem k__law_is_whole (Z : FX K mg) : PySem.W.keepIn K (.ref ((fun K => He.ga K "_law_is_whole") K)) = true := Z.keep 45 (d := d__law_is_whole) rfl
noncomputable def b__law_is_number : DS := seqS (ifS (blM (binM gtI (vM 0) (cM (.int 0)))) (retS (andV (callM m__law_is_whole (consA (vM 1) (nilA))) ((chainM leI ltI (cM (.int 0)) (vM 1) (vM 0))))) (skipS)) (seqS (ifS (truM (callM m__law_is_whole (consA (vM 1) (nilA)))) (retS ((binM ltI (argM (absD) (consA (vM 1) (nilA))) (callM m__law_tens (consA (cM (.int 100)) (nilA)))))) (skipS)) (seqS (ifS (orT (notT (truM (argM (isiD it0) (consA (vM 1) (consA (cM (.ty "tuple")) (nilA)))))) (orT (blM (binM neD (argM (lenD) (consA (vM 1) (nilA))) (cM (.int 2)))) (orT (notT (truM (callM m__law_is_whole (consA (binM idxD (vM 1) (cM (.int 0))) (nilA))))) (notT (truM (callM m__law_is_whole (consA (binM idxD (vM 1) (cM (.int 1))) (nilA)))))))) (retS (cM (.bl false))) (skipS)) (seqS (ifS (orT (blM (binM ltI (binM idxD (vM 1) (cM (.int 1))) (cM (.int 2)))) (blM (binM neD (callM m__law_gcd (consA (binM idxD (vM 1) (cM (.int 0))) (consA (binM idxD (vM 1) (cM (.int 1))) (nilA)))) (cM (.int 1))))) (retS (cM (.bl false))) (skipS)) (retS (andV ((binM ltI (argM (absD) (consA (binM idxD (vM 1) (cM (.int 0))) (nilA))) (callM m__law_tens (consA (cM (.int 100)) (nilA))))) ((binM ltI (binM idxD (vM 1) (cM (.int 1))) (callM m__law_tens (consA (cM (.int 100)) (nilA))))))))))
noncomputable def m__law_is_number : DF := bodyM 2 [] 2 b__law_is_number
theorem c__law_is_number (Z : FX K mg) {f : Addr} : BodyD PP w K mg base ["_law_prime_here", "_law_thing"] "_law_is_number" (defScope s__law_is_number) f 1 (defBody s__law_is_number) b__law_is_number := by
  intro cdv A outer s H E hr
  have nd : (["_law_prime_here", "_law_thing"] : List Str).Nodup := by decide +kernel
  have tk : Takes (cxOf (L2.CX PP w) PP w K mg base ["_law_prime_here", "_law_thing"] "_law_is_number" (defScope s__law_is_number) f cdv A outer s H E) (fun c d _ H' => E c d H') := takes_of rfl rfl rfl rfl
  have hp := passes_of (X := cxOf (L2.CX PP w) PP w K mg base ["_law_prime_here", "_law_thing"] "_law_is_number" (defScope s__law_is_number) f cdv A outer s H E) rfl
  have hu := hr.rm.units
  have hu1 : _ + 1 < cLine := Nat.lt_of_le_of_lt (Nat.add_le_add_left (by decide : 1 ≤ 64) _) hu
  exact (s_cons (s_if (t_gt (ev 0) e_int) (s_one (s_ret (e_and (e_call tk (f__law_is_whole Z) (hr.mono (Nat.le_of_ble_eq_true rfl) : Rm 1 _) rfl (z86 Z) (k__law_is_whole Z) (a_cons (ev 1) a_nil)) (e_one (e_chain o_le o_lt v_ord v_ord e_int (ev 1) (ev 0)))))) s_nil)
    (s_cons (s_if (t_truth (e_call tk (f__law_is_whole Z) (hr.mono (Nat.le_of_ble_eq_true rfl) : Rm 1 _) rfl (z86 Z) (k__law_is_whole Z) (a_cons (ev 1) a_nil))) (s_one (s_ret (e_lt (e_callB call_abs v_abs rfl (z11 Z) (by decide +kernel) (a_cons (ev 1) a_nil)) (e_call tk (f__law_tens Z) (hr.mono (Nat.le_of_ble_eq_true rfl) : Rm 1 _) rfl (z78 Z) (k__law_tens Z) (a_cons e_int a_nil))))) s_nil)
    (s_cons (s_if (PW.pt (w_or (t_not (t_truth (e_callB call_isi (v_isi (z_isi Z)) rfl (z13 Z) (by decide +kernel) (a_cons (ev 1) (a_cons (e_ty (n := "tuple") rfl (z15 Z) (by decide +kernel)) a_nil))))) (w_or (t_ne hu (e_callB call_len v_len rfl (z17 Z) (by decide +kernel) (a_cons (ev 1) a_nil)) e_int) (w_or (t_not (t_truth (e_call tk (f__law_is_whole Z) (hr.mono (Nat.le_of_ble_eq_true rfl) : Rm 1 _) rfl (z86 Z) (k__law_is_whole Z) (a_cons (e_idx hu1 (ev 1) e_int) a_nil)))) (w_or1 (t_not (t_truth (e_call tk (f__law_is_whole Z) (hr.mono (Nat.le_of_ble_eq_true rfl) : Rm 1 _) rfl (z86 Z) (k__law_is_whole Z) (a_cons (e_idx hu1 (ev 1) e_int) a_nil))))))))) (s_one (s_ret e_bl)) s_nil)
    (s_cons (s_if (PW.pt (w_or (t_lt (e_idx hu1 (ev 1) e_int) e_int) (w_or1 (t_ne hu (e_call tk (f__law_gcd Z) (hr.mono (Nat.le_of_ble_eq_true rfl) : Rm 1 _) rfl (z79 Z) (k__law_gcd Z) (a_cons (e_idx hu1 (ev 1) e_int) (a_cons (e_idx hu1 (ev 1) e_int) a_nil))) e_int)))) (s_one (s_ret e_bl)) s_nil)
    (s_one (s_ret (e_and (e_lt (e_callB call_abs v_abs rfl (z11 Z) (by decide +kernel) (a_cons (e_idx hu1 (ev 1) e_int) a_nil)) (e_call tk (f__law_tens Z) (hr.mono (Nat.le_of_ble_eq_true rfl) : Rm 1 _) rfl (z78 Z) (k__law_tens Z) (a_cons e_int a_nil))) (e_one (e_lt (e_idx hu1 (ev 1) e_int) (e_call tk (f__law_tens Z) (hr.mono (Nat.le_of_ble_eq_true rfl) : Rm 1 _) rfl (z78 Z) (k__law_tens Z) (a_cons e_int a_nil)))))))))))
theorem f__law_is_number (Z : FX K mg) : FnD PP w K mg base 2 ((fun K => He.ga K "_law_is_number") K) m__law_is_number := by
  obtain ⟨fd, F0⟩ := Z.df 46 (d := d__law_is_number) rfl rfl
  have F : FunD K "_law_is_number" "_law_is_number" (defArgs s__law_is_number) (defBody s__law_is_number) (defScope s__law_is_number) [] [] ((fun K => He.ga K "_law_is_number") K) fd := cast (by kernel_rfl) F0
  exact fn_ok0 (x := "_law_is_number") (qual := "_law_is_number") (params := defArgs s__law_is_number) (body := defBody s__law_is_number) (scope := defScope s__law_is_number) (kws := []) (N := ["_law_prime_here", "_law_thing"]) (ps := ["_law_prime_here", "_law_thing"]) (k := 1) (b := b__law_is_number) F ⟨by kernel_rfl, by kernel_rfl, by kernel_rfl, by decide +kernel, by kernel_rfl, by decide +kernel, by decide +kernel⟩ (fun _ _ _ _ _ _ us hl => match us, hl with | [_, _], _ => by kernel_rfl) (c__law_is_number Z)
theorem k__law_is_number (Z : FX K mg) : PySem.W.keepIn K (.ref ((fun K => He.ga K "_law_is_number") K)) = true := Z.keep 46 (d := d__law_is_number) rfl
noncomputable def b__law_first_wrong : DS := seqS (setS 2 (lcM false (seqI (vM 1)) (nameG 3) (notT (truM (callM m__law_is_number (consA (vM 0) (consA (vM 3) (nilA)))))) (vM 3) [3])) (retS (sliM false (lcM false (seqI (vM 2)) (nameG 3) (yesM) (argM tupD (consA (cM (.str "wrong")) (consA (argM (reprX) (consA (vM 3) (nilA))) (consA (cM (.bl true)) (nilA))))) [3]) (pureM none) (optM (cM (.int 1)))))
noncomputable def m__law_first_wrong : DF := bodyM 2 [] 4 b__law_first_wrong
theorem c__law_first_wrong (Z : FX K mg) {f : Addr} : BodyD PP w K mg base ["_law_prime_here", "_law_things", "_law_wrong", "_law_thing"] "_law_first_wrong" (defScope s__law_first_wrong) f 2 (defBody s__law_first_wrong) b__law_first_wrong := by
  intro cdv A outer s H E hr
  have nd : (["_law_prime_here", "_law_things", "_law_wrong", "_law_thing"] : List Str).Nodup := by decide +kernel
  have tk : Takes (cxOf (L2.CX PP w) PP w K mg base ["_law_prime_here", "_law_things", "_law_wrong", "_law_thing"] "_law_first_wrong" (defScope s__law_first_wrong) f cdv A outer s H E) (fun c d _ H' => E c d H') := takes_of rfl rfl rfl rfl
  have hp := passes_of (X := cxOf (L2.CX PP w) PP w K mg base ["_law_prime_here", "_law_things", "_law_wrong", "_law_thing"] "_law_first_wrong" (defScope s__law_first_wrong) f cdv A outer s H E) rfl
  have hu := hr.rm.units
  have hu1 : _ + 1 < cLine := Nat.lt_of_le_of_lt (Nat.add_le_add_left (by decide : 1 ≤ 64) _) hu
  exact (s_cons (s_setLc false rfl nd rfl rfl rfl (i_seq (ev 1)) (own := ([("_law_thing", 3)] : List (Str × Nat))) (show BlkOk ["_law_prime_here", "_law_things", "_law_wrong", "_law_thing"] (defScope s__law_first_wrong) _ _ from ⟨rfl, by decide +kernel, by decide +kernel, by decide +kernel, by decide +kernel⟩) (fun _ _ _ _ _ => (gw_name nd rfl (by first | exact .inl rfl | exact .inr rfl) (by decide))) (fun _ _ _ _ _ => (ts_one (t_not (t_truth (e_call takes_blk (f__law_is_number Z) (hr.mono (Nat.le_of_ble_eq_true rfl) : Rm 2 _) rfl (z87 Z) (k__law_is_number Z) (a_cons (ev 0) (a_cons (ev 3) a_nil))))))) (fun _ _ _ _ _ => (ev 3)))
    (s_one (s_ret (e_sli false (e_lc false rfl nd (i_seq (ev 2)) (own := ([("_law_thing", 3)] : List (Str × Nat))) (show BlkOk ["_law_prime_here", "_law_things", "_law_wrong", "_law_thing"] (defScope s__law_first_wrong) _ _ from ⟨rfl, by decide +kernel, by decide +kernel, by decide +kernel, by decide +kernel⟩) (fun _ _ _ _ _ => (gw_name nd rfl (by first | exact .inl rfl | exact .inr rfl) (by decide))) (fun _ _ _ _ _ => ts_nil) (fun _ _ _ _ _ => (e_tup (a_cons e_str (a_cons (e_callB (call_reprX (z88 Z) hr.gd hu) v_reprX rfl (z89 Z) (by decide +kernel) (a_cons (ev 3) a_nil)) (a_cons e_bl a_nil)))))) o_none (o_some e_int)))))
theorem f__law_first_wrong (Z : FX K mg) : FnD PP w K mg base 3 ((fun K => He.ga K "_law_first_wrong") K) m__law_first_wrong := by
  obtain ⟨fd, F0⟩ := Z.df 47 (d := d__law_first_wrong) rfl rfl
  have F : FunD K "_law_first_wrong" "_law_first_wrong" (defArgs s__law_first_wrong) (defBody s__law_first_wrong) (defScope s__law_first_wrong) [] [] ((fun K => He.ga K "_law_first_wrong") K) fd := cast (by kernel_rfl) F0
  exact fn_ok0 (x := "_law_first_wrong") (qual := "_law_first_wrong") (params := defArgs s__law_first_wrong) (body := defBody s__law_first_wrong) (scope := defScope s__law_first_wrong) (kws := []) (N := ["_law_prime_here", "_law_things", "_law_wrong", "_law_thing"]) (ps := ["_law_prime_here", "_law_things"]) (k := 2) (b := b__law_first_wrong) F ⟨by kernel_rfl, by kernel_rfl, by kernel_rfl, by decide +kernel, by kernel_rfl, by decide +kernel, by decide +kernel⟩ (fun _ _ _ _ _ _ us hl => match us, hl with | [_, _], _ => by kernel_rfl) (c__law_first_wrong Z)
theorem k__law_first_wrong (Z : FX K mg) : PySem.W.keepIn K (.ref ((fun K => He.ga K "_law_first_wrong") K)) = true := Z.keep 47 (d := d__law_first_wrong) rfl
noncomputable def b__law_made_field : DS := retS (ifM (blM (binM eqD (vM 0) (cM (.int 0)))) (makeM false "Fractions" m_Fractions___init__ (nilA)) (makeM false "Modulo" m_Modulo___init__ (consA (vM 0) (nilA))))
noncomputable def m__law_made_field : DF := bodyM 1 [] 1 b__law_made_field
theorem c__law_made_field (Z : FX K mg) {f : Addr} : BodyD PP w K mg base ["_law_prime_here"] "_law_made_field" (defScope s__law_made_field) f 5 (defBody s__law_made_field) b__law_made_field := by
  intro cdv A outer s H E hr
  have nd : (["_law_prime_here"] : List Str).Nodup := by decide +kernel
  have tk : Takes (cxOf (L2.CX PP w) PP w K mg base ["_law_prime_here"] "_law_made_field" (defScope s__law_made_field) f cdv A outer s H E) (fun c d _ H' => E c d H') := takes_of rfl rfl rfl rfl
  have hp := passes_of (X := cxOf (L2.CX PP w) PP w K mg base ["_law_prime_here"] "_law_made_field" (defScope s__law_made_field) f cdv A outer s H E) rfl
  have hu := hr.rm.units
  have hu1 : _ + 1 < cLine := Nat.lt_of_le_of_lt (Nat.add_le_add_left (by decide : 1 ≤ 64) _) hu
  exact (s_one (s_ret (e_if (t_eq hu (ev 0) e_int) (e_make0 false tk (z90 Z) (f_Fractions___init___at_Fractions Z) (hr.mono (Nat.le_of_ble_eq_true rfl) : Rm 3 _) rfl (z91 Z)) (e_make false tk (z92 Z) (f_Modulo___init___at_Modulo Z) (hr.mono (Nat.le_of_ble_eq_true rfl) : Rm 5 _) rfl (z93 Z) (a_cons (ev 0) a_nil)))))
theorem f__law_made_field (Z : FX K mg) : FnD PP w K mg base 6 ((fun K => He.ga K "_law_made_field") K) m__law_made_field := by
  obtain ⟨fd, F0⟩ := Z.df 48 (d := d__law_made_field) rfl rfl
  have F : FunD K "_law_made_field" "_law_made_field" (defArgs s__law_made_field) (defBody s__law_made_field) (defScope s__law_made_field) [] [] ((fun K => He.ga K "_law_made_field") K) fd := cast (by kernel_rfl) F0
  exact fn_ok0 (x := "_law_made_field") (qual := "_law_made_field") (params := defArgs s__law_made_field) (body := defBody s__law_made_field) (scope := defScope s__law_made_field) (kws := []) (N := ["_law_prime_here"]) (ps := ["_law_prime_here"]) (k := 5) (b := b__law_made_field) F ⟨by kernel_rfl, by kernel_rfl, by kernel_rfl, by decide +kernel, by kernel_rfl, by decide +kernel, by decide +kernel⟩ (fun _ _ _ _ _ _ us hl => match us, hl with | [_], _ => by kernel_rfl) (c__law_made_field Z)
theorem k__law_made_field (Z : FX K mg) : PySem.W.keepIn K (.ref ((fun K => He.ga K "_law_made_field") K)) = true := Z.keep 48 (d := d__law_made_field) rfl
noncomputable def b__law_odd : DS := seqS (setS 1 (argM (lstD false) (consA (cM .non) (consA (cM (.bl true)) (consA (cM (.bl false)) (consA (cM (.int 0)) (consA (cM (.int 1)) (consA (unM negD (cM (.int 1))) (consA (cM (.int 2)) (consA (cM (.int 7)) (consA (cM (.int 160)) (consA (cM (.int 161)) (consA (binM powD (cM (.int 10)) (cM (.int 30))) (consA (cM (.str "")) (consA (cM (.str "a")) (consA (cM (.str "b")) (consA (cM (.str "ab")) (consA (cM (.str "ba")) (nilA))))))))))))))))))) (seqS (setS 1 (binM addD (vM 1) (argM (lstD false) (consA (binM mulD (binM mulD (binM powD (cM (.int 10)) (cM (.int 50))) (binM powD (cM (.int 10)) (cM (.int 50)))) (binM powD (cM (.int 10)) (cM (.int 9)))) (consA (binM subD (cM (.int 0)) (binM mulD (binM mulD (binM powD (cM (.int 10)) (cM (.int 50))) (binM powD (cM (.int 10)) (cM (.int 50)))) (binM powD (cM (.int 10)) (cM (.int 9))))) (nilA)))))) (seqS (setS 1 (binM addD (vM 1) (argM (lstD false) (consA (cM (.str "A")) (consA (cM (.str "0")) (consA (cM (.str "1")) (consA (cM (.str "1/2")) (consA (cM (.str "fractions")) (consA (cM (.str "modulo 7")) (consA (cM (.str "a b")) (consA (cM (.str " ")) (consA (cM (.str "aa")) (consA (cM (.str "abcde")) (consA (argM tupD (nilA)) (consA (argM (lstD false) (nilA)) (consA (disp0M) (consA (argM tupD (consA (cM (.str "a")) (nilA))) (consA (argM (lstD false) (consA (cM (.str "a")) (nilA))) (nilA))))))))))))))))))) (seqS (setS 1 (binM addD (vM 1) (argM (lstD false) (consA (argM (lstD false) (consA (cM (.int 1)) (nilA))) (consA (argM tupD (consA (cM (.int 1)) (consA (cM (.int 2)) (nilA)))) (consA (argM tupD (consA (cM (.int 2)) (consA (cM (.int 4)) (nilA)))) (consA (argM tupD (consA (cM (.int 0)) (consA (cM (.int 2)) (nilA)))) (consA (argM tupD (consA (cM (.int 1)) (consA (cM (.int 1)) (nilA)))) (consA (argM tupD (consA (cM (.int 1)) (consA (cM (.int 0)) (nilA)))) (consA (argM tupD (consA (cM (.int 1)) (consA (unM negD (cM (.int 2))) (nilA)))) (consA (argM tupD (consA (cM (.bl true)) (consA (cM (.int 2)) (nilA)))) (consA (argM (lstD false) (consA (cM (.int 1)) (consA (cM (.int 2)) (nilA)))) (consA (argM tupD (consA (cM (.int 1)) (consA (cM (.int 2)) (consA (cM (.int 3)) (nilA))))) (consA (dispM [(cM (.str "a"), cM (.int 1))]) (nilA))))))))))))))) (retS (callM m__law_pick (consA (vM 0) (consA (vM 1) (nilA))))))))
noncomputable def m__law_odd : DF := bodyM 1 [] 2 b__law_odd
theorem c__law_odd (Z : FX K mg) {f : Addr} : BodyD PP w K mg base ["_law_pen_here", "_law_some"] "_law_odd" (defScope s__law_odd) f 2 (defBody s__law_odd) b__law_odd := by
  intro cdv A outer s H E hr
  have nd : (["_law_pen_here", "_law_some"] : List Str).Nodup := by decide +kernel
  have tk : Takes (cxOf (L2.CX PP w) PP w K mg base ["_law_pen_here", "_law_some"] "_law_odd" (defScope s__law_odd) f cdv A outer s H E) (fun c d _ H' => E c d H') := takes_of rfl rfl rfl rfl
  have hp := passes_of (X := cxOf (L2.CX PP w) PP w K mg base ["_law_pen_here", "_law_some"] "_law_odd" (defScope s__law_odd) f cdv A outer s H E) rfl
  have hu := hr.rm.units
  have hu1 : _ + 1 < cLine := Nat.lt_of_le_of_lt (Nat.add_le_add_left (by decide : 1 ≤ 64) _) hu
  exact (s_cons (s_set nd rfl (by first | exact .inl rfl | exact .inr rfl) (e_lst false (a_cons e_non (a_cons e_bl (a_cons e_bl (a_cons e_int (a_cons e_int (a_cons (e_neg e_int) (a_cons e_int (a_cons e_int (a_cons e_int (a_cons e_int (a_cons (e_pow e_int e_int) (a_cons e_str (a_cons e_str (a_cons e_str (a_cons e_str (a_cons e_str a_nil))))))))))))))))))
    (s_cons (s_set nd rfl (by first | exact .inl rfl | exact .inr rfl) (e_add (ev 1) (e_lst false (a_cons (e_mul (e_mul (e_pow e_int e_int) (e_pow e_int e_int)) (e_pow e_int e_int)) (a_cons (e_sub e_int (e_mul (e_mul (e_pow e_int e_int) (e_pow e_int e_int)) (e_pow e_int e_int))) a_nil)))))
    (s_cons (s_set nd rfl (by first | exact .inl rfl | exact .inr rfl) (e_add (ev 1) (e_lst false (a_cons e_str (a_cons e_str (a_cons e_str (a_cons e_str (a_cons e_str (a_cons e_str (a_cons e_str (a_cons e_str (a_cons e_str (a_cons e_str (a_cons (e_tup a_nil) (a_cons (e_lst false a_nil) (a_cons e_disp0 (a_cons (e_tup (a_cons e_str a_nil)) (a_cons (e_lst false (a_cons e_str a_nil)) a_nil))))))))))))))))))
    (s_cons (s_set nd rfl (by first | exact .inl rfl | exact .inr rfl) (e_add (ev 1) (e_lst false (a_cons (e_lst false (a_cons e_int a_nil)) (a_cons (e_tup (a_cons e_int (a_cons e_int a_nil))) (a_cons (e_tup (a_cons e_int (a_cons e_int a_nil))) (a_cons (e_tup (a_cons e_int (a_cons e_int a_nil))) (a_cons (e_tup (a_cons e_int (a_cons e_int a_nil))) (a_cons (e_tup (a_cons e_int (a_cons e_int a_nil))) (a_cons (e_tup (a_cons e_int (a_cons (e_neg e_int) a_nil))) (a_cons (e_tup (a_cons e_bl (a_cons e_int a_nil))) (a_cons (e_lst false (a_cons e_int (a_cons e_int a_nil))) (a_cons (e_tup (a_cons e_int (a_cons e_int (a_cons e_int a_nil)))) (a_cons (e_disp (pp_cons e_str e_int pp_nil)) a_nil))))))))))))))
    (s_one (s_ret (e_call tk (f__law_pick Z) (hr.mono (Nat.le_of_ble_eq_true rfl) : Rm 2 _) rfl (z77 Z) (k__law_pick Z) (a_cons (ev 0) (a_cons (ev 1) a_nil)))))))))
theorem f__law_odd (Z : FX K mg) : FnD PP w K mg base 3 ((fun K => He.ga K "_law_odd") K) m__law_odd := by
  obtain ⟨fd, F0⟩ := Z.df 49 (d := d__law_odd) rfl rfl
  have F : FunD K "_law_odd" "_law_odd" (defArgs s__law_odd) (defBody s__law_odd) (defScope s__law_odd) [] [] ((fun K => He.ga K "_law_odd") K) fd := cast (by kernel_rfl) F0
  exact fn_ok0 (x := "_law_odd") (qual := "_law_odd") (params := defArgs s__law_odd) (body := defBody s__law_odd) (scope := defScope s__law_odd) (kws := []) (N := ["_law_pen_here", "_law_some"]) (ps := ["_law_pen_here"]) (k := 2) (b := b__law_odd) F ⟨by kernel_rfl, by kernel_rfl, by kernel_rfl, by decide +kernel, by kernel_rfl, by decide +kernel, by decide +kernel⟩ (fun _ _ _ _ _ _ us hl => match us, hl with | [_], _ => by kernel_rfl) (c__law_odd Z)
theorem k__law_odd (Z : FX K mg) : PySem.W.keepIn K (.ref ((fun K => He.ga K "_law_odd") K)) = true := Z.keep 49 (d := d__law_odd) rfl
noncomputable def b__law_pen : DS := retS (dispM [(cM (.str "cells"), argM (listD false) (consA (sliM false (vM 0) (pureM none) (optM (cM (.int 63)))) (nilA))), (cM (.str "begun"), cM (.int 0)), (cM (.str "left"), cM (.int 0))])
noncomputable def m__law_pen : DF := bodyM 1 [] 1 b__law_pen
theorem c__law_pen (Z : FX K mg) {f : Addr} : BodyD PP w K mg base ["_law_script"] "_law_pen" (defScope s__law_pen) f 0 (defBody s__law_pen) b__law_pen := by
  intro cdv A outer s H E hr
  have nd : (["_law_script"] : List Str).Nodup := by decide +kernel
  have tk : Takes (cxOf (L2.CX PP w) PP w K mg base ["_law_script"] "_law_pen" (defScope s__law_pen) f cdv A outer s H E) (fun c d _ H' => E c d H') := takes_of rfl rfl rfl rfl
  have hp := passes_of (X := cxOf (L2.CX PP w) PP w K mg base ["_law_script"] "_law_pen" (defScope s__law_pen) f cdv A outer s H E) rfl
  have hu := hr.rm.units
  have hu1 : _ + 1 < cLine := Nat.lt_of_le_of_lt (Nat.add_le_add_left (by decide : 1 ≤ 64) _) hu
  exact (s_one (s_ret (e_disp (pp_cons e_str (e_callTy call_list_of v_list rfl (z94 Z) (by decide +kernel) (a_cons (e_sli false (ev 0) o_none (o_some e_int)) a_nil)) (pp_cons e_str e_int (pp_cons e_str e_int pp_nil))))))
theorem f__law_pen (Z : FX K mg) : FnD PP w K mg base 1 ((fun K => He.ga K "_law_pen") K) m__law_pen := by
  obtain ⟨fd, F0⟩ := Z.df 50 (d := d__law_pen) rfl rfl
  have F : FunD K "_law_pen" "_law_pen" (defArgs s__law_pen) (defBody s__law_pen) (defScope s__law_pen) [] [] ((fun K => He.ga K "_law_pen") K) fd := cast (by kernel_rfl) F0
  exact fn_ok0 (x := "_law_pen") (qual := "_law_pen") (params := defArgs s__law_pen) (body := defBody s__law_pen) (scope := defScope s__law_pen) (kws := []) (N := ["_law_script"]) (ps := ["_law_script"]) (k := 0) (b := b__law_pen) F ⟨by kernel_rfl, by kernel_rfl, by kernel_rfl, by decide +kernel, by kernel_rfl, by decide +kernel, by decide +kernel⟩ (fun _ _ _ _ _ _ us hl => match us, hl with | [_], _ => by kernel_rfl) (c__law_pen Z)
theorem k__law_pen (Z : FX K mg) : PySem.W.keepIn K (.ref ((fun K => He.ga K "_law_pen") K)) = true := Z.keep 50 (d := d__law_pen) rfl
noncomputable def b__law_told_of (th : DE) : DS := tryNS (retS (argM tupD (consA (cM (.str "told")) (consA (th) (nilA))))) [.as 1 "InvalidNumber" [("InvalidNumber", true), ("InvalidPrime", false), ("NoQuotient", false)] (fun a d fs => retS (argM tupD (consA (cM (.str "wrong")) (consA (argM (reprX) (consA (exnM a d "value" (vM 1)) (nilA))) (consA (argM (isxD a d [("ValueError", true), ("LookupError", false), ("ArithmeticError", false), ("OverflowError", false), ("RuntimeError", false)]) (consA (vM 1) (consA (cM (.ty "ValueError")) (nilA)))) (nilA)))))), .pl [("InvalidNumber", false), ("InvalidPrime", false), ("NoQuotient", true)] (retS (argM tupD (consA (cM (.str "none")) (nilA))))]
theorem df__law_told_of (Z : FX K mg) : ∃ fd, FunD K "_law_told_of" "_law_told_of" (defArgs s__law_told_of) (defBody s__law_told_of) (defScope s__law_told_of) [] [] ((fun K => He.ga K "_law_told_of") K) fd ∧ Binds K fd ["_law_call"] [] := by
  obtain ⟨fd, F⟩ := Z.df 51 (d := d__law_told_of) rfl rfl
  exact ⟨fd, F, F.bindsN (ps := ["_law_call"]) fun _ _ _ _ _ _ us hl => match us, hl with | [_], _ => rfl⟩
theorem l__law_told_of (Z : FX K mg) : LamD PP w K mg base ["_law_call", "e"] "_law_told_of" (defScope s__law_told_of) ((fun K => He.ga K "_law_told_of") K) 0 (defBody s__law_told_of) "_law_call" b__law_told_of := by
  intro cdv A outer s H th hr act
  have nd : (["_law_call", "e"] : List Str).Nodup := by decide +kernel
  have tk : Takes (cxOf C8.CX0 PP w K mg base ["_law_call", "e"] "_law_told_of" (defScope s__law_told_of) ((fun K => He.ga K "_law_told_of") K) cdv A outer s H C8.E0).nox W0 := LamX.takes0
  have hu := hr.rm.units
  have hu1 : _ + 1 < cLine := Nat.lt_of_le_of_lt (Nat.add_le_add_left (by decide : 1 ≤ 64) _) hu
  exact (s_one (s_tryN rfl rfl nd tk (fun W' pn xe tk' hp => (s_one (s_ret (e_tup (a_cons e_str (a_cons (act _ _ _ _ _ tk') a_nil)))))) (.as rfl rfl ⟨rfl, by decide, .inl (z32 Z)⟩ (z95 Z) (fun a oe d pn fs hz hf => (s_one (s_ret (e_tup (a_cons e_str (a_cons (e_callB (call_reprX (z88 Z) hr.gd hu) v_reprX rfl (z89 Z) (by decide +kernel) (a_cons (e_exn (xf_of (z96 Z)) (z2 Z) hz hf (ev 1)) a_nil)) (a_cons (e_callB (call_isX (z96 Z) hz hf) (v_isx (z97 Z)) rfl (z13 Z) (by decide +kernel) (a_cons (ev 1) (a_cons (e_ty (n := "ValueError") rfl (z0 Z) (by decide +kernel)) a_nil))) a_nil))))))) (.cons ⟨rfl, by decide, .inl (z49 Z)⟩ (z98 Z) (fun a oe cls d pn _ _ => (s_one (s_ret (e_tup (a_cons e_str a_nil))))) .nil))))
abbrev cl_law (a : Nat) : List (Str × Addr) := cellsFrom (a + 1) (defScope s_law).names []
def T_law_0 : LamT := (lamsB (lamQ "law") (defBody s_law)).getD 0 noLamT
def T_law_1 : LamT := (lamsB (lamQ "law") (defBody s_law)).getD 1 noLamT
def T_law_2 : LamT := (lamsB (lamQ "law") (defBody s_law)).getD 2 noLamT
noncomputable def tab_law : List (LamT × DE) := [(T_law_0, methM [("Fractions", m_Field_plus), ("Modulo", m_Field_plus)] "plus" (vM 9) (pmN 2 [1, 0] (consA (vM 14) (consA (vM 13) (nilA))))), (T_law_1, methM [("Fractions", m_Field_minus), ("Modulo", m_Field_minus)] "minus" (vM 9) (consA (vM 13) (consA (vM 14) (nilA)))), (T_law_2, methM [("Fractions", m_Field_times), ("Modulo", m_Field_times)] "times" (vM 9) (pmN 2 [1, 0] (consA (vM 14) (consA (vM 13) (nilA)))))]
noncomputable def b_law (a : Nat) : DS := seqS (setS 1 (callM m__law_pen (consA (vM 0) (nilA)))) (seqS (forS (argI rangeD1 (consA (cM (.int 14)) (nilA))) (nameG 2) (seqS (setS 3 (callM m__law_any_prime (consA (vM 1) (nilA)))) (seqS (asgS (argM tupD (consA (callM m__law_made_field (consA (vM 3) (nilA))) (consA (argM (lstD true) (nilA)) (consA (callM m__law_tens (consA (cM (.int 100)) (nilA))) (nilA))))) (tupG 3 (consG (nameG 9) (consG (nameG 10) (consG (nameG 11) (nilG)))))) (seqS (ifS (notT (truM (argM (isiD it0) (consA (vM 9) (consA (cM (.glo "Field")) (nilA)))))) (retS (cM (.bl false))) (skipS)) (seqS (forS (argI rangeD1 (consA (cM (.int 3)) (nilA))) (nameG 4) (seqS (setS 12 (callM m__law_any_number (consA (vM 1) (consA (vM 3) (consA (cM (.bl false)) (nilA)))))) (exprS (bmD isLstD appD (vM 10) (consA (callM m__law_pick (consA (vM 1) (consA (argM (lstD false) (consA (vM 12) (consA (vM 12) (consA (vM 12) (consA (cM (.int 0)) (consA (callM m__law_odd (consA (vM 1) (nilA))) (consA (vM 11) (consA (argM tupD (consA (cM (.int 7)) (consA (vM 11) (nilA)))) (consA (vM 3) (nilA)))))))))) (nilA)))) (nilA)))))) (seqS (asgS (vM 10) (tupG 3 (consG (nameG 13) (consG (nameG 14) (consG (nameG 15) (nilG)))))) (seqS (setS 5 (argM (lstD true) (consA (lamV 0 "law" 0 T_law_0 (cl_law a)) (nilA)))) (seqS (exprS (bmD isLstD appD (vM 5) (consA (lamV 0 "law" 1 T_law_1 (cl_law a)) (nilA)))) (seqS (exprS (bmD isLstD appD (vM 5) (consA (lamV 0 "law" 2 T_law_2 (cl_law a)) (nilA)))) (seqS (setS 6 (callM m__law_first_wrong (consA (vM 3) (consA (sliM false (vM 10) (pureM none) (optM (cM (.int 2)))) (nilA))))) (seqS (forS (seqI (vM 5)) (nameG 7) (seqS (setS 8 (lamCM 1 b__law_told_of tab_law (cl_law a) (vM 7))) (ifS (ifT (blM (binM (eqL0 false) (vM 6) (argM (lstD false) (nilA)))) (blM (binM neD (binM idxD (vM 8) (cM (.int 0))) (cM (.str "told")))) (blM (binM neD (vM 8) (binM idxD (vM 6) (cM (.int 0)))))) (retS (cM (.bl false))) (skipS)))) (seqS (setS 8 (lamM 0 "law" 1 b__law_told_of (methM [("Fractions", m_Field_over), ("Modulo", m_Field_over)] "over" (vM 9) (pmN 2 [1, 0] (consA (vM 14) (consA (vM 13) (nilA))))))) (seqS (setS 6 (binM addD (vM 6) (binM mulD (argM (lstD false) (consA (argM tupD (consA (cM (.str "none")) (nilA))) (nilA))) (argM (intD) (consA (andV ((binM (eqL0 false) (vM 6) (argM (lstD false) (nilA)))) ((binM eqD (vM 14) (cM (.int 0))))) (nilA)))))) (seqS (ifS (ifT (blM (binM (eqL0 false) (vM 6) (argM (lstD false) (nilA)))) (blM (binM neD (binM idxD (vM 8) (cM (.int 0))) (cM (.str "told")))) (blM (binM neD (vM 8) (binM idxD (vM 6) (cM (.int 0)))))) (retS (cM (.bl false))) (skipS)) (seqS (par2S 8 6 (consA (lamM 0 "law" 1 b__law_told_of (methM [("Fractions", m_Field_total), ("Modulo", m_Field_total)] "total" (vM 9) (consA (vM 13) (consA (vM 14) (consA (vM 15) (nilA)))))) (consA (callM m__law_first_wrong (consA (vM 3) (consA (vM 10) (nilA)))) (nilA)))) (ifS (ifT (blM (binM (eqL0 false) (vM 6) (argM (lstD false) (nilA)))) (blM (binM neD (binM idxD (vM 8) (cM (.int 0))) (cM (.str "told")))) (blM (binM neD (vM 8) (binM idxD (vM 6) (cM (.int 0)))))) (retS (cM (.bl false))) (skipS))))))))))))))))) (retS (cM (.bl true))))
noncomputable def m_law : DF := bodyL 1 16 b_law
theorem c_law (Z : FX K mg) (TB : Tbs K mg base tl0) : BodyL PP w K mg base ["_law_script", "_law_pen_here", "_law_turn", "_law_prime_here", "_law_k", "_law_calls", "_law_due", "_law_call", "_law_told_here", "_law_field", "_law_things", "_law_most", "_law_good", "_law_left", "_law_right", "_law_last"] "law" (defScope s_law) (He.ga K "law") 8 (defBody s_law) b_law (codeV K "law") := by
  intro A outer s H E hr
  have nd : (["_law_script", "_law_pen_here", "_law_turn", "_law_prime_here", "_law_k", "_law_calls", "_law_due", "_law_call", "_law_told_here", "_law_field", "_law_things", "_law_most", "_law_good", "_law_left", "_law_right", "_law_last"] : List Str).Nodup := by decide +kernel
  have tk : Takes (cxOf (L2.CX PP w) PP w K mg base ["_law_script", "_law_pen_here", "_law_turn", "_law_prime_here", "_law_k", "_law_calls", "_law_due", "_law_call", "_law_told_here", "_law_field", "_law_things", "_law_most", "_law_good", "_law_left", "_law_right", "_law_last"] "law" (defScope s_law) (He.ga K "law") (codeV K "law") A outer s H E) (fun c d _ H' => E c d H') := takes_of rfl rfl rfl rfl
  have hp := passes_of (X := cxOf (L2.CX PP w) PP w K mg base ["_law_script", "_law_pen_here", "_law_turn", "_law_prime_here", "_law_k", "_law_calls", "_law_due", "_law_call", "_law_told_here", "_law_field", "_law_things", "_law_most", "_law_good", "_law_left", "_law_right", "_law_last"] "law" (defScope s_law) (He.ga K "law") (codeV K "law") A outer s H E) rfl
  have hu := hr.rm.units
  have hu1 : _ + 1 < cLine := Nat.lt_of_le_of_lt (Nat.add_le_add_left (by decide : 1 ≤ 64) _) hu
  exact (s_cons (s_set nd rfl (by first | exact .inl rfl | exact .inr rfl) (e_call tk (f__law_pen Z) (hr.mono (Nat.le_of_ble_eq_true rfl) : Rm 1 _) rfl (z99 Z) (k__law_pen Z) (a_cons (ev 0) a_nil)))
    (s_cons (s_for hp rfl (i_range1 rfl (z21 Z) (a_cons e_int a_nil)) (g_name nd rfl (by first | exact .inl rfl | exact .inr rfl)) (s_cons (s_set nd rfl (by first | exact .inl rfl | exact .inr rfl) (e_call tk (f__law_any_prime Z) (hr.mono (Nat.le_of_ble_eq_true rfl) : Rm 4 _) rfl (z100 Z) (k__law_any_prime Z) (a_cons (ev 1) a_nil)))
    (s_cons (s_asg (e_tup (a_cons (e_call tk (f__law_made_field Z) (hr.mono (Nat.le_of_ble_eq_true rfl) : Rm 6 _) rfl (z101 Z) (k__law_made_field Z) (a_cons (ev 3) a_nil)) (a_cons (e_lst true a_nil) (a_cons (e_call tk (f__law_tens Z) (hr.mono (Nat.le_of_ble_eq_true rfl) : Rm 1 _) rfl (z78 Z) (k__law_tens Z) (a_cons e_int a_nil)) a_nil)))) (g_tup rfl (gs_cons (g_name nd rfl (by first | exact .inl rfl | exact .inr rfl)) (gs_cons (g_name nd rfl (by first | exact .inl rfl | exact .inr rfl)) (gs_cons (g_name nd rfl (by first | exact .inl rfl | exact .inr rfl)) gs_nil)))))
    (s_cons (s_if (t_not (t_truth (e_callB call_isi (v_isi (z_isi Z)) rfl (z13 Z) (by decide +kernel) (a_cons (ev 9) (a_cons (e_glo rfl (z102 Z)) a_nil))))) (s_one (s_ret e_bl)) s_nil)
    (s_cons (s_for hp rfl (i_range1 rfl (z21 Z) (a_cons e_int a_nil)) (g_name nd rfl (by first | exact .inl rfl | exact .inr rfl)) (s_cons (s_set nd rfl (by first | exact .inl rfl | exact .inr rfl) (e_call tk (f__law_any_number Z) (hr.mono (Nat.le_of_ble_eq_true rfl) : Rm 4 _) rfl (z103 Z) (k__law_any_number Z) (a_cons (ev 1) (a_cons (ev 3) (a_cons e_bl a_nil)))))
    (s_one (s_expr (e_bm PySem.F.plainAttrs_list PySem.F.slot_list_append PySem.F.type_list_append mt_append ty_lst v_app (ev 10) (a_cons (e_call tk (f__law_pick Z) (hr.mono (Nat.le_of_ble_eq_true rfl) : Rm 2 _) rfl (z77 Z) (k__law_pick Z) (a_cons (ev 1) (a_cons (e_lst false (a_cons (ev 12) (a_cons (ev 12) (a_cons (ev 12) (a_cons e_int (a_cons (e_call tk (f__law_odd Z) (hr.mono (Nat.le_of_ble_eq_true rfl) : Rm 3 _) rfl (z104 Z) (k__law_odd Z) (a_cons (ev 1) a_nil)) (a_cons (ev 11) (a_cons (e_tup (a_cons e_int (a_cons (ev 11) a_nil))) (a_cons (ev 3) a_nil))))))))) a_nil))) a_nil))))))
    (s_cons (s_asg (ev 10) (g_tup rfl (gs_cons (g_name nd rfl (by first | exact .inl rfl | exact .inr rfl)) (gs_cons (g_name nd rfl (by first | exact .inl rfl | exact .inr rfl)) (gs_cons (g_name nd rfl (by first | exact .inl rfl | exact .inr rfl)) gs_nil)))))
    (s_cons (s_set nd rfl (by first | exact .inl rfl | exact .inr rfl) (e_lst true (a_cons (e_lamV (i := 0) (k := 0) (y := "law") (TB "law" (by decide)).1 (TB "law" (by decide)).2 rfl (LamX.lamS_by (show LamX.lamSB (defScope s_law) _ = true by decide +kernel)) rfl rfl) a_nil)))
    (s_cons (s_expr (e_bm PySem.F.plainAttrs_list PySem.F.slot_list_append PySem.F.type_list_append mt_append ty_lst v_app (ev 5) (a_cons (e_lamV (i := 0) (k := 1) (y := "law") (TB "law" (by decide)).1 (TB "law" (by decide)).2 rfl (LamX.lamS_by (show LamX.lamSB (defScope s_law) _ = true by decide +kernel)) rfl rfl) a_nil)))
    (s_cons (s_expr (e_bm PySem.F.plainAttrs_list PySem.F.slot_list_append PySem.F.type_list_append mt_append ty_lst v_app (ev 5) (a_cons (e_lamV (i := 0) (k := 2) (y := "law") (TB "law" (by decide)).1 (TB "law" (by decide)).2 rfl (LamX.lamS_by (show LamX.lamSB (defScope s_law) _ = true by decide +kernel)) rfl rfl) a_nil)))
    (s_cons (s_set nd rfl (by first | exact .inl rfl | exact .inr rfl) (e_call tk (f__law_first_wrong Z) (hr.mono (Nat.le_of_ble_eq_true rfl) : Rm 3 _) rfl (z105 Z) (k__law_first_wrong Z) (a_cons (ev 3) (a_cons (e_sli false (ev 10) o_none (o_some e_int)) a_nil))))
    (s_cons (s_for hp rfl (i_seq (ev 5)) (g_name nd rfl (by first | exact .inl rfl | exact .inr rfl)) (s_cons (s_set nd rfl (by first | exact .inl rfl | exact .inr rfl) (raise_row1 (df__law_told_of Z) fun fd h => e_lamC (k := 6) (a := "_law_call") (Ng := ["e"]) (ev 7) h.1 h.2 ⟨rfl, rfl, rfl, by decide +kernel, rfl, by decide +kernel, by decide +kernel⟩ (by first | exact Or.inl rfl | exact Or.inr (Or.inl rfl) | exact Or.inr (Or.inr rfl)) ((l__law_told_of Z).mono (Nat.le_of_ble_eq_true rfl)) rfl (z112 Z) (hr.mono (Nat.le_of_ble_eq_true rfl)) rfl (TabOk.get (.cons ⟨rfl, LamX.lamS_by (show LamX.lamSB (defScope s_law) _ = true by decide +kernel), fun _ _ _ _ _ => rfl, fun f c A outer s H E hr => have hu := hr.rm.units; have hu1 := Nat.lt_of_le_of_lt (Nat.add_le_add_left (by decide : 1 ≤ 64) _) hu; (e_methP (ks := ["other", "one"]) (π := [1, 0]) (n := 2) (takes_of rfl rfl rfl rfl) rfl (.cons ⟨(z9 Z), _, 6, (z107 Z), p_Field_plus_at_Fractions_other_one Z, (hr.mono (Nat.le_of_ble_eq_true rfl) : Rm 6 _)⟩ (.cons ⟨(z7 Z), _, 6, (z106 Z), p_Field_plus_at_Modulo_other_one Z, (hr.mono (Nat.le_of_ble_eq_true rfl) : Rm 6 _)⟩ .nil)) (ev 9) (ka_cons (ev 14) (ka_cons (ev 13) ka_nil)))⟩ (.cons ⟨rfl, LamX.lamS_by (show LamX.lamSB (defScope s_law) _ = true by decide +kernel), fun _ _ _ _ _ => rfl, fun f c A outer s H E hr => have hu := hr.rm.units; have hu1 := Nat.lt_of_le_of_lt (Nat.add_le_add_left (by decide : 1 ≤ 64) _) hu; (e_meth (takes_of rfl rfl rfl rfl) (.cons ⟨(z9 Z), _, 6, (z109 Z), f_Field_minus_at_Fractions Z, (hr.mono (Nat.le_of_ble_eq_true rfl) : Rm 6 _)⟩ (.cons ⟨(z7 Z), _, 6, (z108 Z), f_Field_minus_at_Modulo Z, (hr.mono (Nat.le_of_ble_eq_true rfl) : Rm 6 _)⟩ .nil)) (ev 9) (a_cons (ev 13) (a_cons (ev 14) a_nil)))⟩ (.cons ⟨rfl, LamX.lamS_by (show LamX.lamSB (defScope s_law) _ = true by decide +kernel), fun _ _ _ _ _ => rfl, fun f c A outer s H E hr => have hu := hr.rm.units; have hu1 := Nat.lt_of_le_of_lt (Nat.add_le_add_left (by decide : 1 ≤ 64) _) hu; (e_methP (ks := ["other", "one"]) (π := [1, 0]) (n := 2) (takes_of rfl rfl rfl rfl) rfl (.cons ⟨(z9 Z), _, 6, (z111 Z), p_Field_times_at_Fractions_other_one Z, (hr.mono (Nat.le_of_ble_eq_true rfl) : Rm 6 _)⟩ (.cons ⟨(z7 Z), _, 6, (z110 Z), p_Field_times_at_Modulo_other_one Z, (hr.mono (Nat.le_of_ble_eq_true rfl) : Rm 6 _)⟩ .nil)) (ev 9) (ka_cons (ev 14) (ka_cons (ev 13) ka_nil)))⟩ .nil))))))
    (s_one (s_if (t_ifT (t_eqL0 hu (ev 6) (e_lst false a_nil)) (t_ne hu (e_idx hu1 (ev 8) e_int) e_str) (t_ne hu (ev 8) (e_idx hu1 (ev 6) e_int))) (s_one (s_ret e_bl)) s_nil))))
    (s_cons (s_set nd rfl (by first | exact .inl rfl | exact .inr rfl) (raise_row1 (df__law_told_of Z) fun fd h => e_lam (k := 6) (i := 0) (y := "law") (a := "_law_call") (Ng := ["e"]) h.1 h.2 ⟨rfl, rfl, rfl, by decide +kernel, rfl, by decide +kernel, by decide +kernel⟩ (by first | exact Or.inl rfl | exact Or.inr (Or.inl rfl) | exact Or.inr (Or.inr rfl)) ((l__law_told_of Z).mono (Nat.le_of_ble_eq_true rfl)) rfl (z112 Z) (TB "law" (by decide)).1 (TB "law" (by decide)).2 rfl (hr.mono (Nat.le_of_ble_eq_true rfl)) (LamX.lamS_by (show LamX.lamSB (defScope s_law) _ = true by decide +kernel)) rfl (fun _ _ _ _ _ => rfl) (fun f c A outer s H E hr => have hu := hr.rm.units; have hu1 := Nat.lt_of_le_of_lt (Nat.add_le_add_left (by decide : 1 ≤ 64) _) hu; (e_methP (ks := ["other", "one"]) (π := [1, 0]) (n := 2) (takes_of rfl rfl rfl rfl) rfl (.cons ⟨(z9 Z), _, 6, (z114 Z), p_Field_over_at_Fractions_other_one Z, (hr.mono (Nat.le_of_ble_eq_true rfl) : Rm 6 _)⟩ (.cons ⟨(z7 Z), _, 6, (z113 Z), p_Field_over_at_Modulo_other_one Z, (hr.mono (Nat.le_of_ble_eq_true rfl) : Rm 6 _)⟩ .nil)) (ev 9) (ka_cons (ev 14) (ka_cons (ev 13) ka_nil))))))
    (s_cons (s_set nd rfl (by first | exact .inl rfl | exact .inr rfl) (e_add (ev 6) (e_mul (e_lst false (a_cons (e_tup (a_cons e_str a_nil)) a_nil)) (e_callTy call_int1 v_int rfl (z12 Z) (by decide +kernel) (a_cons (e_and (e_eqL0 hu (ev 6) (e_lst false a_nil)) (e_one (e_eq hu (ev 14) e_int))) a_nil)))))
    (s_cons (s_if (t_ifT (t_eqL0 hu (ev 6) (e_lst false a_nil)) (t_ne hu (e_idx hu1 (ev 8) e_int) e_str) (t_ne hu (ev 8) (e_idx hu1 (ev 6) e_int))) (s_one (s_ret e_bl)) s_nil)
    (s_cons (s_par2 rfl nd rfl rfl (by decide) rfl rfl (a_cons (raise_row1 (df__law_told_of Z) fun fd h => e_lam (k := 6) (i := 0) (y := "law") (a := "_law_call") (Ng := ["e"]) h.1 h.2 ⟨rfl, rfl, rfl, by decide +kernel, rfl, by decide +kernel, by decide +kernel⟩ (by first | exact Or.inl rfl | exact Or.inr (Or.inl rfl) | exact Or.inr (Or.inr rfl)) ((l__law_told_of Z).mono (Nat.le_of_ble_eq_true rfl)) rfl (z112 Z) (TB "law" (by decide)).1 (TB "law" (by decide)).2 rfl (hr.mono (Nat.le_of_ble_eq_true rfl)) (LamX.lamS_by (show LamX.lamSB (defScope s_law) _ = true by decide +kernel)) rfl (fun _ _ _ _ _ => rfl) (fun f c A outer s H E hr => have hu := hr.rm.units; have hu1 := Nat.lt_of_le_of_lt (Nat.add_le_add_left (by decide : 1 ≤ 64) _) hu; (e_meth (takes_of rfl rfl rfl rfl) (.cons ⟨(z9 Z), _, 6, (z116 Z), f_Field_total_at_Fractions Z, (hr.mono (Nat.le_of_ble_eq_true rfl) : Rm 6 _)⟩ (.cons ⟨(z7 Z), _, 6, (z115 Z), f_Field_total_at_Modulo Z, (hr.mono (Nat.le_of_ble_eq_true rfl) : Rm 6 _)⟩ .nil)) (ev 9) (a_cons (ev 13) (a_cons (ev 14) (a_cons (ev 15) a_nil)))))) (a_cons (e_call tk (f__law_first_wrong Z) (hr.mono (Nat.le_of_ble_eq_true rfl) : Rm 3 _) rfl (z105 Z) (k__law_first_wrong Z) (a_cons (ev 3) (a_cons (ev 10) a_nil))) a_nil)))
    (s_one (s_if (t_ifT (t_eqL0 hu (ev 6) (e_lst false a_nil)) (t_ne hu (e_idx hu1 (ev 8) e_int) e_str) (t_ne hu (ev 8) (e_idx hu1 (ev 6) e_int))) (s_one (s_ret e_bl)) s_nil)))))))))))))))))
    (s_one (s_ret e_bl))))
theorem f_law (Z : FX K mg) (TB : Tbs K mg base tl0) : FnD PP w K mg base 9 ((fun K => He.ga K "law") K) m_law := by
  obtain ⟨fd, F⟩ := Z.df 52 (d := d_law) rfl rfl
  exact fn_okL (y := "law") (ps := ["_law_script"]) F ⟨rfl, rfl, rfl, by decide +kernel, rfl, by decide +kernel, by decide +kernel⟩ (fun _ _ _ _ _ _ us hl => match us, hl with | [_], _ => rfl) (c_law Z TB)
end
end G
set_option Elab.async false
set_option linter.all false
set_option maxRecDepth 100000
set_option maxHeartbeats 4000000
namespace G
open Mp Pl
open PySem (Str sizeLine)
local macro_rules | `(tactic| wtm_at "e") => `(tactic| first
  | with_reducible refine w_set ?_
  | with_reducible refine w_bin ?_
  | ((with_reducible refine w_v (d := ?dv) ?hv ?_); (case hv => exact rfl))
  | with_reducible refine w_c ?_
  | with_reducible refine w_cons ?_
  | with_reducible refine w_nil ?_
  | with_reducible refine w_arg ?_
  | with_reducible refine w_call ?_
  | with_reducible refine w_if ?_
  | with_reducible refine w_ret ?_
  | with_reducible refine w_skip ?_
  | with_reducible refine w_bl ?_
  | with_reducible refine w_tru ?_
  | with_reducible refine w_attr ?_
  | with_reducible refine w_meth ?_
  | with_reducible refine w_chain ?_
  | with_reducible refine w_and ?_
  | with_reducible refine w_or ?_
  | with_reducible refine w_not ?_
  | with_reducible refine w_notT ?_
  | with_reducible refine w_andT ?_
  | with_reducible refine w_orT ?_
  | with_reducible refine w_ifM ?_
  | with_reducible refine w_expr ?_
  | with_reducible refine w_un ?_
  | with_reducible refine w_par2 ?_
  | with_reducible refine w_par3 ?_
  | with_reducible refine w_asg ?_
  | with_reducible refine w_aug ?_
  | with_reducible refine w_sub ?_
  | with_reducible refine w_fld ?_
  | with_reducible refine w_raise ?_
  | with_reducible refine w_raise0 ?_
  | with_reducible refine w_try ?_
  | with_reducible refine w_make ?_
  | with_reducible refine w_tryAs ?_
  | with_reducible refine w_exn ?_
  | ((with_reducible refine o_isx (b := ?bv) ?h1 ?_); (case h1 => exact rfl))
  | with_reducible refine w_superS ?_
  | with_reducible refine w_super ?_
  | with_reducible refine w_star ?_
  | with_reducible refine w_for0 ?_
  | with_reducible refine w_lc0 ?_
  | with_reducible refine w_lc20 ?_
  | with_reducible refine w_seqJ ?_
  | with_reducible refine w_starC ?_
  | with_reducible refine w_spr ?_
  | with_reducible refine w_tryN ?_
  | ((with_reducible refine o_own0 ?hv ?_); (case hv => exact rfl))
  | ((with_reducible refine o_eqO0 ?hv ?_); (case hv => exact rfl))
  | with_reducible refine w_seqI ?_
  | with_reducible refine w_argI ?_
  | with_reducible refine w_opt ?_
  | with_reducible refine w_sli ?_
  | with_reducible refine w_pure ?_
  | with_reducible refine w_disp ?_
  | with_reducible refine w_pairs1 ?_
  | with_reducible refine w_pairs0 ?_
  | with_reducible refine w_retN ?_
  | with_reducible refine w_cnt ?_
  | with_reducible refine w_brk ?_
  | with_reducible refine o_addI ?_
  | with_reducible refine o_addI' ?_
  | with_reducible refine o_sub ?_
  | with_reducible refine o_lt ?_
  | with_reducible refine o_le ?_
  | with_reducible refine o_gt ?_
  | with_reducible refine o_ge ?_
  | with_reducible refine o_eqI ?_
  | with_reducible refine o_neI ?_
  | with_reducible refine o_eqS ?_
  | with_reducible refine o_neS ?_
  | with_reducible refine o_int ?_
  | with_reducible refine o_intB ?_
  | with_reducible refine o_neg ?_
  | with_reducible refine o_abs ?_
  | with_reducible refine o_newL ?_
  | with_reducible refine o_max2 ?_
  | with_reducible refine o_min2 ?_
  | with_reducible refine o_lenL ?_
  | with_reducible refine o_lenT ?_
  | ((with_reducible refine o_tup ?hv ?_); (case hv => first | exact Nat.le_of_ble_eq_true rfl | assumption))
  | ((with_reducible refine o_lst ?hv ?_); (case hv => first | exact Nat.le_of_ble_eq_true rfl | assumption))
  | ((with_reducible refine o_isi (t := ?tv) (b := ?bv) ?h1 ?h2 ?_); (case h1 => exact rfl); (case h2 => exact rfl))
  | ((with_reducible refine o_fld (C := ?cv) (fs := ?fv) (d := ?dv) ?h1 ?h2 ?h3 ?_); (case h1 => exact rfl); (case h2 => exact rfl); (case h3 => exact rfl))
  | ((with_reducible refine Exists.intro ?kv (And.intro ?ha ?_)); (case ha => exact rfl)))
local macro_rules | `(tactic| wtm_at "body") => `(tactic| (refine w_body rfl rfl ?_; dsimp only [List.length_cons, List.length_nil, List.drop, List.append_nil, List.map_cons, List.map_nil, List.map, List.cons_append, List.nil_append, Nat.reduceAdd, Nat.reduceSub, List.replicate]))
local macro_rules | `(tactic| wtm_at "meth") => `(tactic| refine ⟨_, _, _, rfl, rfl, rfl, ?_⟩)
local macro_rules | `(tactic| wtm_at "w") => `(tactic| first | with_reducible refine w_seq ?_ | wtm_at "e")
local macro_rules | `(tactic| wtm_at "s") => `(tactic| ((repeat wtm_at "e"); (with_reducible refine w_seq ?_)))
local macro_rules | `(tactic| wtm_at "f") => `(tactic| ((repeat wtm_at "e"); (with_reducible show FP _ _)))
/-! checks -/
theorem q_is_integer_int {i : Int} {s : Sto} {Q : D → Sto → Prop} {E : XT} (h : Q (.bl true) s) : RP Q E (m_is_integer [.int i] s) := h
/-! digits -/
theorem tenb {n : Nat} (h : n ≤ 20) : ((10 : Int) ^ (50 * n)).natAbs < 2 ^ 4000 := by
  rw [Int.natAbs_pow]
  refine Nat.lt_of_le_of_lt (Nat.pow_le_pow_right (by decide) (show 50 * n ≤ 1000 by omega)) ?_
  decide +kernel
theorem q_ten_to {n : Nat} {z : Int} {s : Sto} {Q : D → Sto → Prop} {E : XT} (hz : z = 50 * n) (hn : n ≤ 20) (h : Q (.int (10 ^ (50 * n))) s) : RP Q E (m_ten_to [.int z] s) := by
  wtm_at "body"
  unfold b_ten_to
  repeat wtm_at "w"
  refine o_div64 (by omega) (by omega) ?_
  repeat wtm_at "w"
  have e : (z / 50).toNat = n := by omega
  refine w_range1 (by omega) (by omega) ?_
  rw [e]
  refine w_for (fun i r s' => s' = s ∧ ∃ x, r = [some (.int z), some (.int (10 ^ (50 * i))), x]) rfl ⟨rfl, _, rfl⟩ ?_ ?_
  · rintro i d r s' hd ⟨rfl, x, rfl⟩
    obtain ⟨hi, rfl⟩ := intL_get hd
    refine ⟨_, rfl, ?_⟩
    repeat wtm_at "w"
    refine o_pow (by decide) (by decide) (by decide) ?_
    refine o_mulI (mulC_of (a := 4000) (b := 4000) (tenb (by omega)) (tenb (n := 1) (by decide)) (by decide) (by decide) (by decide)) ?_
    refine ⟨rfl, some (.int (0 + i)), ?_⟩
    rw [show (10 : Int) ^ (50 * (i + 1)) = 10 ^ (50 * i) * 10 ^ 50 from by rw [Nat.mul_succ, Int.pow_add]]
    rfl
  · rintro r s' ⟨rfl, x, rfl⟩
    rw [intL_len]
    repeat wtm_at "w"
    exact h
abbrev absI (i : Int) : Int := if i < 0 then -i else i
theorem q_short_parts {x : D} {t b z : Int} {n : Nat} {s : Sto} {Q : D → Sto → Prop} {E : XT} (hz : z = 50 * n) (hn : n ≤ 20) (hp : ∀ s, m_parts_of [x] s = .ok (.tup [.int t, .int b]) s) (h : Q (.bl (decide (absI t < 10 ^ (50 * n)) && decide (absI b < 10 ^ (50 * n)))) s) : RP Q E (m_is_short [x, .int z] s) := by
  wtm_at "body"
  unfold b_is_short
  repeat wtm_at "w"
  refine q_ten_to hz hn ?_
  repeat wtm_at "w"
  refine RP.of (hp _) ?_
  repeat wtm_at "w"
  refine w_lcP (fun d => match d with
    | .int i => .bl (decide (absI i < 10 ^ (50 * n)))
    | d => d) rfl (by show 2 ≤ sizeLine; decide) (fun d hd => ?_) ?_
  · have hd : d = .int t ∨ d = .int b := by simpa using hd
    rcases hd with rfl | rfl
    · exact ⟨_, rfl, rfl⟩
    · exact ⟨_, rfl, rfl⟩
  · repeat wtm_at "w"
    refine o_all (l := [_, _]) rfl ?_
    have e : ([decide (absI t < 10 ^ (50 * n)), decide (absI b < 10 ^ (50 * n))].all id) = (decide (absI t < 10 ^ (50 * n)) && decide (absI b < 10 ^ (50 * n))) := by
      simp
    exact e ▸ h
theorem q_short_int {v z : Int} {n : Nat} {s : Sto} {Q : D → Sto → Prop} {E : XT} (hz : z = 50 * n) (hn : n ≤ 20) (h : Q (.bl (decide (absI v < 10 ^ (50 * n)) && decide (absI 1 < 10 ^ (50 * n)))) s) : RP Q E (m_is_short [.int v, .int z] s) := q_short_parts hz hn (fun _ => rfl) h
theorem q_is_between_int {v a b : Int} {s : Sto} {Q : D → Sto → Prop} {E : XT} (h : Q (.bl (decide (a ≤ v) && decide (v ≤ b))) s) : RP Q E (m_is_between [.int v, .int a, .int b] s) := by
  wtm_at "body"
  unfold b_is_between
  repeat wtm_at "w"
  refine q_is_integer_int ?_
  repeat wtm_at "w"
  refine ⟨fun _ => ?_, fun hk => by cases hk⟩
  repeat wtm_at "w"
  refine ⟨fun hk => ?_, fun hk => ?_⟩
  · repeat wtm_at "w"
    rw [hk] at h
    exact h
  · rw [hk] at h
    exact h
/-! Modulo -/
abbrev fM (p : Int) : D := .ins "Modulo" [("own_prime", .int p)]
section
variable {p v w : Int} {s : Sto} {Q : D → Sto → Prop} {E : XT}
theorem q_is_any (h : Q (.bl (decide (0 ≤ v) && decide (v ≤ p - 1))) s) : RP Q E (m_Modulo_is_any [fM p, .int v] s) := by
  wtm_at "body"
  unfold b_Modulo_is_any
  repeat wtm_at "w"
  exact q_is_between_int h
theorem q_is_numberM (hp : p ≤ 1000000000) (h : Q (.bl (decide (0 ≤ v) && decide (v ≤ p - 1))) s) : RP Q E (m_Field_is_number [fM p, .int v] s) := by
  wtm_at "body"
  unfold b_Field_is_number
  repeat wtm_at "w"
  wtm_at "meth"
  repeat wtm_at "w"
  refine q_is_any ?_
  repeat wtm_at "w"
  refine ⟨fun hk => ?_, fun hk => ?_⟩
  · repeat wtm_at "w"
    refine q_short_int (n := 2) rfl (by decide) ?_
    have hk' := hk
    simp only [Bool.and_eq_true, decide_eq_true_eq] at hk'
    have e : (decide (absI v < 10 ^ (50 * 2)) && decide (absI 1 < 10 ^ (50 * 2))) = true := by
      rw [Bool.and_eq_true]
      refine ⟨decide_eq_true ?_, by decide⟩
      have : (1000000000 : Int) < 10 ^ (50 * 2) := by decide
      show (if v < 0 then -v else v) < _
      rw [if_neg (by omega)]
      omega
    rw [e]
    rw [hk] at h
    exact h
  · rw [hk] at h ⊢
    exact h
theorem q_needM {vs : List Int} (hp : p ≤ 1000000000) (hv : ∀ v ∈ vs, 0 ≤ v ∧ v < p) (hl : vs.length ≤ 900) (h : Q .non s) : RP Q E (m_Field_need_numbers (fM p :: vs.map .int) s) := by
  refine w_bodyV (by simp) (by simp; omega) rfl ?_
  show FP _ (b_Field_need_numbers [some (fM p), some (.tup (vs.map .int)), none] s)
  unfold b_Field_need_numbers
  repeat wtm_at "w"
  refine w_for (c := ⟨vs.map .int, none⟩) (fun i r s' => s' = s ∧ ∃ x, r = [some (fM p), some (.tup (vs.map .int)), x]) rfl ⟨rfl, _, rfl⟩ ?_ ?_
  · rintro i d r s' hd ⟨rfl, x, rfl⟩
    obtain ⟨v, hm, rfl⟩ := List.mem_map.mp (List.mem_of_getElem? hd)
    refine ⟨_, rfl, ?_⟩
    repeat wtm_at "w"
    wtm_at "meth"
    repeat wtm_at "w"
    refine q_is_numberM hp ?_
    have := hv v hm
    rw [decide_eq_true this.1, decide_eq_true (show v ≤ p - 1 by omega)]
    repeat wtm_at "w"
    refine ⟨fun hk => by simp at hk, fun _ => ?_⟩
    repeat wtm_at "w"
    exact ⟨rfl, _, rfl⟩
  · rintro r s' ⟨rfl, x, rfl⟩
    exact h
theorem q_needM2 (hp : p ≤ 1000000000) (h1 : 0 ≤ v) (h2 : v < p) (h3 : 0 ≤ w) (h4 : w < p) (h : Q .non s) : RP Q E (m_Field_need_numbers [fM p, .int v, .int w] s) := q_needM (vs := [v, w]) hp (by simp; omega) (by simp) h
theorem q_addM (hp : 0 < p) (h : Q (.int ((v + w) % p)) s) : RP Q E (m_Modulo_add [fM p, .int v, .int w] s) := by
  wtm_at "body"
  unfold b_Modulo_add
  repeat wtm_at "w"
  exact o_mod hp h
theorem q_negM (hp : 0 < p) (h : Q (.int ((-v) % p)) s) : RP Q E (m_Modulo_negative [fM p, .int v] s) := by
  wtm_at "body"
  unfold b_Modulo_negative
  repeat wtm_at "w"
  exact o_mod hp h
theorem q_subM (hp : 0 < p) (h : Q (.int ((v + (-w) % p) % p)) s) : RP Q E (m_Field_subtract [fM p, .int v, .int w] s) := by
  wtm_at "body"
  unfold b_Field_subtract
  repeat wtm_at "w"
  wtm_at "meth"
  repeat wtm_at "w"
  wtm_at "meth"
  repeat wtm_at "w"
  refine q_negM hp ?_
  exact q_addM hp h
theorem q_mulM (hp : 0 < p) (hv : v.natAbs < 18446744073709551616) (hw : w.natAbs < 18446744073709551616) (h : Q (.int ((v * w) % p)) s) : RP Q E (m_Modulo_multiply [fM p, .int v, .int w] s) := by
  wtm_at "body"
  unfold b_Modulo_multiply
  repeat wtm_at "w"
  refine o_mul64 hv hw ?_
  repeat wtm_at "w"
  exact o_mod hp h
theorem q_power {m t : Int} (hm : 2 ≤ m) (hm2 : m ≤ 1000000000) (hv : 0 ≤ v) (hv2 : v < 18446744073709551616) (ht : 0 ≤ t) (h : Q (.int (v ^ t.toNat % m)) s) : RP Q E (m_power [.int v, .int t, .int m] s) := by
  wtm_at "body"
  unfold b_power
  repeat wtm_at "w"
  refine w_while (fun n r s' => s' = s ∧ ∃ x u f, r = [some (.int x), some (.int u), some (.int m), some (.int f)] ∧ u.toNat = n ∧ 0 ≤ u ∧ 0 ≤ x ∧ x < 18446744073709551616 ∧ 0 ≤ f ∧ f < m ∧ (f * x ^ u.toNat) % m = v ^ t.toNat % m) ?_ t.toNat _ _ ⟨rfl, v, t, 1, rfl, rfl, ht, hv, hv2, by decide, by omega, by rw [Int.one_mul]⟩
  rintro n r s' ⟨rfl, x, u, f, rfl, hn, hu, hx, hx2, hf, hfm, he⟩
  repeat wtm_at "w"
  refine ⟨fun hk => ?_, fun hk => ?_⟩
  · have hk := of_decide_eq_true hk
    have b1 : ∀ a b : Int, 0 ≤ a * b % m ∧ a * b % m < m := fun a b => ⟨Int.emod_nonneg _ (by omega), Int.emod_lt_of_pos _ (by omega)⟩
    repeat wtm_at "w"
    refine o_mod (by decide) ?_
    repeat wtm_at "w"
    refine ⟨fun ho => ?_, fun ho => ?_⟩
    · have ho := of_decide_eq_true ho
      repeat wtm_at "w"
      refine o_mul64 (by omega) (by omega) ?_
      repeat wtm_at "w"
      refine o_mod (by omega) ?_
      repeat wtm_at "w"
      refine o_mul64 (by omega) (by omega) ?_
      repeat wtm_at "w"
      refine o_mod (by omega) ?_
      repeat wtm_at "w"
      refine o_div64 (by decide) (by decide) ?_
      have h1 := b1 f x
      have h2 := b1 x x
      refine ⟨(u / 2).toNat, by omega, rfl, _, _, _, rfl, rfl, by omega, h2.1, by omega, h1.1, h1.2, ?_⟩
      rw [show (u / 2).toNat = u.toNat / 2 by omega, pw_odd (by omega)]
      exact he
    · have ho := of_decide_eq_false ho
      repeat wtm_at "w"
      refine o_mul64 (by omega) (by omega) ?_
      repeat wtm_at "w"
      refine o_mod (by omega) ?_
      repeat wtm_at "w"
      refine o_div64 (by decide) (by decide) ?_
      have h2 := b1 x x
      refine ⟨(u / 2).toNat, by omega, rfl, _, _, _, rfl, rfl, by omega, h2.1, by omega, hf, hfm, ?_⟩
      rw [show (u / 2).toNat = u.toNat / 2 by omega, pw_even (by omega)]
      exact he
  · have hk := of_decide_eq_false hk
    repeat wtm_at "w"
    have e : u.toNat = 0 := by omega
    rw [e, Int.pow_zero, Int.mul_one, Int.emod_eq_of_lt hf hfm] at he
    rw [he]
    exact h
theorem q_divM (hp : 2 ≤ p) (hp2 : p ≤ 1000000000) (h1 : 0 ≤ v) (h2 : v < p) (h3 : 0 ≤ w) (h4 : w < p) (h : Q (.int ((v * (w ^ (p - 2).toNat % p)) % p)) s) : RP Q E (m_Modulo_divide [fM p, .int v, .int w] s) := by
  wtm_at "body"
  unfold b_Modulo_divide
  repeat wtm_at "w"
  refine q_power hp hp2 h3 (by omega) (by omega) ?_
  have b1 : 0 ≤ w ^ (p - 2).toNat % p ∧ w ^ (p - 2).toNat % p < p := ⟨Int.emod_nonneg _ (by omega), Int.emod_lt_of_pos _ (by omega)⟩
  refine o_mul64 (by omega) (by omega) ?_
  repeat wtm_at "w"
  exact o_mod (by omega) h
theorem q_plusM (hp : 2 ≤ p) (hp2 : p ≤ 1000000000) (h1 : 0 ≤ v) (h2 : v < p) (h3 : 0 ≤ w) (h4 : w < p) (h : Q (.int ((v + w) % p)) s) : RP Q E (m_Field_plus [fM p, .int v, .int w] s) := by
  wtm_at "body"
  unfold b_Field_plus
  repeat wtm_at "w"
  wtm_at "meth"
  repeat wtm_at "w"
  refine q_needM2 hp2 h1 h2 h3 h4 ?_
  repeat wtm_at "w"
  wtm_at "meth"
  repeat wtm_at "w"
  exact q_addM (by omega) h
theorem q_minusM (hp : 2 ≤ p) (hp2 : p ≤ 1000000000) (h1 : 0 ≤ v) (h2 : v < p) (h3 : 0 ≤ w) (h4 : w < p) (h : Q (.int ((v - w) % p)) s) : RP Q E (m_Field_minus [fM p, .int v, .int w] s) := by
  wtm_at "body"
  unfold b_Field_minus
  repeat wtm_at "w"
  wtm_at "meth"
  repeat wtm_at "w"
  refine q_needM2 hp2 h1 h2 h3 h4 ?_
  repeat wtm_at "w"
  wtm_at "meth"
  repeat wtm_at "w"
  refine q_subM (by omega) ?_
  have e : (v + (-w) % p) % p = (v - w) % p := by rw [Int.add_emod_emod, Int.sub_eq_add_neg]
  rw [e]
  exact h
theorem q_timesM (hp : 2 ≤ p) (hp2 : p ≤ 1000000000) (h1 : 0 ≤ v) (h2 : v < p) (h3 : 0 ≤ w) (h4 : w < p) (h : Q (.int ((v * w) % p)) s) : RP Q E (m_Field_times [fM p, .int v, .int w] s) := by
  wtm_at "body"
  unfold b_Field_times
  repeat wtm_at "w"
  wtm_at "meth"
  repeat wtm_at "w"
  refine q_needM2 hp2 h1 h2 h3 h4 ?_
  repeat wtm_at "w"
  wtm_at "meth"
  repeat wtm_at "w"
  exact q_mulM (by omega) (by omega) (by omega) h
theorem q_overM (hp : 2 ≤ p) (hp2 : p ≤ 1000000000) (h1 : 0 ≤ v) (h2 : v < p) (h3 : 0 < w) (h4 : w < p) (h : Q (.int ((v * (w ^ (p - 2).toNat % p)) % p)) s) : RP Q E (m_Field_over [fM p, .int v, .int w] s) := by
  wtm_at "body"
  unfold b_Field_over
  repeat wtm_at "w"
  wtm_at "meth"
  repeat wtm_at "w"
  refine q_needM2 hp2 h1 h2 (by omega) h4 ?_
  repeat wtm_at "w"
  refine ⟨fun hk => absurd (of_decide_eq_true hk) (by omega), fun _ => ?_⟩
  repeat wtm_at "w"
  wtm_at "meth"
  repeat wtm_at "w"
  exact q_divM hp hp2 h1 h2 (by omega) h4 h
theorem q_overM0 (hp : 2 ≤ p) (hp2 : p ≤ 1000000000) (h1 : 0 ≤ v) (h2 : v < p) (h : E "NoQuotient" [] s) : RP Q E (m_Field_over [fM p, .int v, .int 0] s) := by
  wtm_at "body"
  unfold b_Field_over
  repeat wtm_at "w"
  wtm_at "meth"
  repeat wtm_at "w"
  refine q_needM2 hp2 h1 h2 (by omega) (by omega) ?_
  repeat wtm_at "w"
  refine ⟨fun _ => ?_, fun hk => absurd rfl (of_decide_eq_false hk)⟩
  repeat wtm_at "w"
  exact h
theorem q_totalM {vs : List Int} (hp : 2 ≤ p) (hp2 : p ≤ 1000000000) (hv : ∀ v ∈ vs, 0 ≤ v ∧ v < p) (hl : vs.length ≤ 900) (h : Q (.int (vs.sum % p)) s) : RP Q E (m_Field_total (fM p :: vs.map .int) s) := by
  refine w_bodyV (by simp) (by simp; omega) rfl ?_
  show FP _ (b_Field_total [some (fM p), some (.tup (vs.map .int)), none, none] s)
  unfold b_Field_total
  repeat wtm_at "w"
  wtm_at "meth"
  repeat wtm_at "w"
  refine q_needM hp2 hv hl ?_
  repeat wtm_at "w"
  refine w_for (c := ⟨vs.map .int, none⟩) (fun i r s' => s' = s ∧ ∃ x, r = [some (fM p), some (.tup (vs.map .int)), some (.int ((vs.take i).sum % p)), x]) rfl ⟨rfl, none, by simp⟩ ?_ ?_
  · rintro i d r s' hd ⟨rfl, x, rfl⟩
    rw [List.getElem?_map] at hd
    cases hg : vs[i]? with
    | none => rw [hg] at hd; cases hd
    | some v =>
      rw [hg] at hd
      cases hd
      refine ⟨_, rfl, ?_⟩
      repeat wtm_at "w"
      wtm_at "meth"
      repeat wtm_at "w"
      refine q_addM (by omega) ?_
      refine ⟨rfl, some (.int v), ?_⟩
      rw [List.take_add_one, hg]
      have e : (((vs.take i).sum % p) + v) % p = ((vs.take i ++ (some v).toList).sum) % p := by
        rw [Int.emod_add_emod, List.sum_append]
        simp
      rw [← e]
      rfl
  · rintro r s' ⟨rfl, x, rfl⟩
    repeat wtm_at "w"
    rw [List.length_map, List.take_length]
    exact h
end
/-! Fractions -/
def qD (q : Rat) : D := if q.den = 1 then .int q.num else .tup [.int q.num, .int (q.den : Nat)]
theorem qD_int {q : Rat} (h : q.den = 1) : qD q = .int q.num := if_pos h
theorem qD_tup {q : Rat} (h : q.den ≠ 1) : qD q = .tup [.int q.num, .int (q.den : Nat)] := if_neg h
def Sz (n : Nat) (q : Rat) : Prop := q.num.natAbs < 2 ^ n ∧ q.den < 2 ^ n
theorem Sz.mono {n m : Nat} {q : Rat} (h : Sz n q) (hm : n ≤ m) : Sz m q := ⟨Nat.lt_of_lt_of_le h.1 (Nat.pow_le_pow_right (by decide) hm), Nat.lt_of_lt_of_le h.2 (Nat.pow_le_pow_right (by decide) hm)⟩
theorem divInt_sz {t b : Int} (h : b ≠ 0) : (Rat.divInt t b).num.natAbs ≤ t.natAbs ∧ (Rat.divInt t b).den ≤ b.natAbs := by
  obtain ⟨h1, h2⟩ := rat_nf (t := t) h
  constructor
  · rw [h1]
    exact Int.natAbs_ediv_le_natAbs _ _
  · have h3 := Int.natAbs_ediv_le_natAbs b (dv t b)
    rw [← h2] at h3
    exact h3
theorem pow_mul_lt {a b x y : Nat} (hx : x < 2 ^ a) (hy : y < 2 ^ b) : x * y < 2 ^ (a + b) := by
  rw [Nat.pow_add]
  exact Nat.mul_lt_mul'' hx hy
theorem den_ne (q : Rat) : ((q.den : Nat) : Int) ≠ 0 := by
  have := q.den_nz
  omega
theorem add_dv (p q : Rat) : p + q = Rat.divInt (p.num * q.den + q.num * p.den) (p.den * q.den) := by
  rw [← Rat.divInt_add_divInt _ _ (den_ne p) (den_ne q), Rat.num_divInt_den, Rat.num_divInt_den]
theorem mul_dv (p q : Rat) : p * q = Rat.divInt (p.num * q.num) (p.den * q.den) := by
  rw [← Rat.divInt_mul_divInt, Rat.num_divInt_den, Rat.num_divInt_den]
theorem div_dv (p q : Rat) : p / q = Rat.divInt (p.num * q.den) (p.den * q.num) := by
  rw [← Rat.divInt_mul_divInt, Rat.num_divInt_den, ← Rat.inv_divInt, Rat.num_divInt_den, Rat.div_def]
theorem Sz.add {n : Nat} {p q : Rat} (hp : Sz n p) (hq : Sz n q) : Sz (2 * n + 1) (p + q) := by
  have hd : ((p.den : Nat) : Int) * (q.den : Nat) ≠ 0 := Int.mul_ne_zero (den_ne p) (den_ne q)
  have h := divInt_sz (t := p.num * q.den + q.num * p.den) hd
  rw [← add_dv] at h
  have h1 : (p.num * q.den).natAbs < 2 ^ (n + n) := by
    rw [Int.natAbs_mul]
    exact pow_mul_lt hp.1 hq.2
  have h2 : (q.num * p.den).natAbs < 2 ^ (n + n) := by
    rw [Int.natAbs_mul]
    exact pow_mul_lt hq.1 hp.2
  have h3 : (((p.den : Nat) : Int) * (q.den : Nat)).natAbs < 2 ^ (n + n) := by
    rw [Int.natAbs_mul]
    exact pow_mul_lt hp.2 hq.2
  have e : 2 ^ (2 * n + 1) = 2 ^ (n + n) + 2 ^ (n + n) := by rw [Nat.pow_succ, show 2 * n = n + n by omega]; omega
  constructor
  · rw [e]
    omega
  · rw [e]
    omega
theorem num_ne {q : Rat} (h : q ≠ 0) : q.num ≠ 0 := fun z => h (Rat.num_eq_zero.mp z)
theorem neg_num (q : Rat) : (-q).num = -q.num := rfl
theorem neg_den (q : Rat) : (-q).den = q.den := rfl
theorem Sz.neg {n : Nat} {p : Rat} (hp : Sz n p) : Sz n (-p) := by
  unfold Sz at *
  rw [neg_num, neg_den, Int.natAbs_neg]
  exact hp
abbrev fF : D := .ins "Fractions" [("own_prime", .non)]
section
variable {p q : Rat} {n : Nat} {s : Sto} {Q : D → Sto → Prop} {E : XT}
theorem o_divE {i j : Int} (hd : j ∣ i) (hj : j ≠ 0) (hl : j.natAbs.log2 < 9000) (h : Q (.int (i / j)) s) : RP Q E (divD (.int i) (.int j) s) := by
  by_cases h0 : 0 < j
  · exact o_div h0 hl h
  · exact o_divN (by omega) hl (by rw [Int.fdiv_eq_ediv_of_dvd hd]; exact h)
theorem isi_qD : isiD it0 [qD q, .ty "tuple"] s = .ok (.bl (!decide (q.den = 1))) s := by
  by_cases h : q.den = 1
  · rw [qD_int h, decide_eq_true h]
    rfl
  · rw [qD_tup h, decide_eq_false h]
    rfl
theorem parts_qD (q : Rat) (s : Sto) : m_parts_of [qD q] s = .ok (.tup [.int q.num, .int (q.den : Nat)]) s := by
  by_cases h : q.den = 1
  · rw [qD_int h, h]
    rfl
  · rw [qD_tup h]
    rfl
theorem gcd_end {x a b : Int} (h : Int.gcd x 0 = Int.gcd a b) : (if x < 0 then -x else x) = ((Int.gcd a b : Nat) : Int) := by
  rw [← h, Int.gcd_zero_right]
  split <;> omega
theorem q_common {a b : Int} (h : Q (.int (Int.gcd a b : Nat)) s) : RP Q E (m_common_divisor [.int a, .int b] s) := by
  wtm_at "body"
  unfold b_common_divisor
  wtm_at "s"
  refine w_while (fun n r s' => s' = s ∧ ∃ x y, r = [some (.int x), some (.int y)] ∧ y.natAbs = n ∧ Int.gcd x y = Int.gcd a b) ?_ b.natAbs _ _ ⟨rfl, a, b, rfl, rfl, rfl⟩
  rintro n r s' ⟨rfl, x, y, rfl, hn, he⟩
  repeat wtm_at "e"
  refine ⟨fun hk => ?_, fun hk => ?_⟩
  · have hk : y ≠ 0 := by simpa using hk
    repeat wtm_at "e"
    by_cases h0 : 0 < y
    · refine o_mod h0 ?_
      repeat wtm_at "e"
      refine ⟨_, _, rfl, ?_⟩
      have h1 := Int.emod_nonneg x hk
      have h2 := Int.emod_lt_of_pos x h0
      exact ⟨_, by omega, rfl, y, x % y, rfl, rfl, by rw [gcd_emod]; exact he⟩
    · refine o_modN (by omega) ?_
      repeat wtm_at "e"
      refine ⟨_, _, rfl, ?_⟩
      have h2 := fmod_lt (a := x) (b := y) (by omega)
      exact ⟨_, by omega, rfl, y, x.fmod y, rfl, rfl, by rw [gcd_fmod]; exact he⟩
  · have hk : y = 0 := by simpa using hk
    subst hk
    repeat wtm_at "e"
    rw [gcd_end he]
    exact h
theorem frac_end {t b : Int} (hb : b ≠ 0) : qD (Rat.divInt t b) = if b = dv t b then .int (t / dv t b) else .tup [.int (t / dv t b), .int (b / dv t b)] := by
  obtain ⟨h1, h2⟩ := rat_nf (t := t) hb
  have hd := dv_ne (t := t) hb
  have key : (Rat.divInt t b).den = 1 ↔ b = dv t b := by
    rw [rat_one, h2]
    constructor
    · intro z
      have := Int.ediv_mul_cancel (dv_b (t := t) (b := b))
      rw [z, Int.one_mul] at this
      exact this.symm
    · intro z
      conv => lhs; lhs; rw [z]
      exact Int.ediv_self hd
  unfold qD
  by_cases h : b = dv t b
  · rw [if_pos (key.mpr h), if_pos h, h1]
  · rw [if_neg (fun z => h (key.mp z)), if_neg h, h1, h2]
theorem dv_log {t b : Int} (hb : b ≠ 0) (hl : b.natAbs < 2 ^ 8000) : (dv t b).natAbs.log2 < 9000 := by
  rw [dv_abs]
  have h1 : Int.gcd t b ≤ b.natAbs := Nat.le_of_dvd (by omega) (Int.ofNat_dvd_right.mp (Int.gcd_dvd_right ..))
  exact Nat.lt_of_lt_of_le (log_of (b := 8000) (by omega) (by decide)) (by decide)
theorem q_fraction {t b : Int} (hb : b ≠ 0) (hl : b.natAbs < 2 ^ 8000) (h : Q (qD (Rat.divInt t b)) s) : RP Q E (m_fraction [.int t, .int b] s) := by
  have hd := dv_ne (t := t) hb
  have hlog := dv_log (t := t) hb hl
  rw [frac_end hb] at h
  wtm_at "body"
  unfold b_fraction
  wtm_at "s"
  repeat wtm_at "e"
  refine ⟨fun hk => ?_, fun hk => ?_⟩
  · have hk := of_decide_eq_true hk
    subst hk
    have e : dv t 1 = 1 := by
      unfold dv
      rw [if_pos (by decide), Int.gcd_one_right]
      rfl
    rw [e, if_pos rfl, Int.ediv_one] at h
    repeat wtm_at "e"
    exact h
  · wtm_at "f"
    with_reducible refine w_mid (fun r s' => s' = s ∧ r = [some (.int t), some (.int b), some (.int (dv t b))]) ?_ ?_
    · repeat wtm_at "e"
      refine ⟨fun h0 => ?_, fun h0 => ?_⟩
      · repeat wtm_at "e"
        refine q_common ?_
        have e : dv t b = (Int.gcd t b : Nat) := if_pos (of_decide_eq_true h0)
        rw [e]
        exact ⟨rfl, rfl⟩
      · repeat wtm_at "e"
        refine q_common ?_
        repeat wtm_at "e"
        have e : dv t b = -((Int.gcd t b : Nat) : Int) := if_neg (of_decide_eq_false h0)
        rw [e]
        exact ⟨rfl, rfl⟩
    · rintro r s' ⟨rfl, rfl⟩
      repeat wtm_at "e"
      refine ⟨fun h1 => ?_, fun h1 => ?_⟩
      · rw [if_pos (of_decide_eq_true h1)] at h
        repeat wtm_at "e"
        exact o_divE dv_t hd hlog h
      · rw [if_neg (of_decide_eq_false h1)] at h
        repeat wtm_at "e"
        refine o_divE dv_t hd hlog ?_
        repeat wtm_at "e"
        refine o_divE dv_b hd hlog ?_
        repeat wtm_at "e"
        exact h
theorem mulC_sz {a b : Nat} {x y : Int} (hx : x.natAbs < 2 ^ a) (hy : y.natAbs < 2 ^ b) (ha : a ≤ 400000) (hb : b ≤ 400000) : mulC x y = true := mulC_of (a := a + 1) (b := b + 1) (Nat.lt_of_lt_of_le hx (Nat.pow_le_pow_right (by decide) (by omega))) (Nat.lt_of_lt_of_le hy (Nat.pow_le_pow_right (by decide) (by omega))) (by omega) (by omega) (by omega)
theorem den_lt (h : Sz n q) : ((q.den : Nat) : Int).natAbs < 2 ^ n := h.2
theorem prod_lt {x y : Int} (hx : x.natAbs < 2 ^ n) (hy : y.natAbs < 2 ^ n) (hn : n ≤ 4000) : (x * y).natAbs < 2 ^ 8000 := by
  rw [Int.natAbs_mul]
  exact Nat.lt_of_lt_of_le (pow_mul_lt hx hy) (Nat.pow_le_pow_right (by decide) (by omega))
theorem qD_whole (i : Int) : qD (Rat.divInt i 1) = .int i := by
  have e : dv i 1 = 1 := by
    unfold dv
    rw [if_pos (by decide), Int.gcd_one_right]
    rfl
  rw [frac_end (by decide), e, if_pos rfl, Int.ediv_one]
theorem q_addF (hp : Sz n p) (hq : Sz n q) (hn : n ≤ 4000) (h : Q (qD (p + q)) s) : RP Q E (m_Fractions_add [fF, qD p, qD q] s) := by
  wtm_at "body"
  unfold b_Fractions_add
  wtm_at "f"
  with_reducible refine w_mid (fun r s' => s' = s ∧ r = [some fF, some (qD p), some (qD q), none, none, none, none]) ?_ ?_
  · repeat wtm_at "e"
    refine RP.of isi_qD ?_
    repeat wtm_at "e"
    refine ⟨fun h1 => ?_, fun h1 => ?_⟩
    · repeat wtm_at "e"
      refine RP.of isi_qD ?_
      repeat wtm_at "e"
      refine ⟨fun h2 => ?_, fun h2 => ?_⟩
      · have h1 : p.den = 1 := by simpa using h1
        have h2 : q.den = 1 := by simpa using h2
        repeat wtm_at "e"
        rw [qD_int h1, qD_int h2]
        repeat wtm_at "e"
        rw [add_dv, h1, h2] at h
        have e : p.num * ((1 : Nat) : Int) + q.num * ((1 : Nat) : Int) = p.num + q.num := by simp
        rw [e] at h
        have h : Q (qD (Rat.divInt (p.num + q.num) 1)) s := h
        rw [qD_whole] at h
        exact h
      · repeat wtm_at "e"
        exact ⟨rfl, rfl⟩
    · refine ⟨fun z => (by cases z), fun _ => ?_⟩
      repeat wtm_at "e"
      exact ⟨rfl, rfl⟩
  · rintro r s' ⟨rfl, rfl⟩
    wtm_at "s"
    repeat wtm_at "e"
    refine RP.of (parts_qD p _) ?_
    repeat wtm_at "e"
    refine RP.of (parts_qD q _) ?_
    repeat wtm_at "e"
    refine o_mul (mulC_sz hp.1 (den_lt hq) (by omega) (by omega)) ?_
    repeat wtm_at "e"
    refine o_mul (mulC_sz hq.1 (den_lt hp) (by omega) (by omega)) ?_
    repeat wtm_at "e"
    refine o_mul (mulC_sz (den_lt hp) (den_lt hq) (by omega) (by omega)) ?_
    repeat wtm_at "e"
    refine q_fraction (Int.mul_ne_zero (den_ne p) (den_ne q)) (prod_lt (den_lt hp) (den_lt hq) hn) ?_
    rw [← add_dv]
    exact h
theorem q_mulF (hp : Sz n p) (hq : Sz n q) (hn : n ≤ 4000) (h : Q (qD (p * q)) s) : RP Q E (m_Fractions_multiply [fF, qD p, qD q] s) := by
  wtm_at "body"
  unfold b_Fractions_multiply
  wtm_at "f"
  with_reducible refine w_mid (fun r s' => s' = s ∧ r = [some fF, some (qD p), some (qD q), none, none, none, none]) ?_ ?_
  · repeat wtm_at "e"
    refine RP.of isi_qD ?_
    repeat wtm_at "e"
    refine ⟨fun h1 => ?_, fun h1 => ?_⟩
    · repeat wtm_at "e"
      refine RP.of isi_qD ?_
      repeat wtm_at "e"
      refine ⟨fun h2 => ?_, fun h2 => ?_⟩
      · have h1 : p.den = 1 := by simpa using h1
        have h2 : q.den = 1 := by simpa using h2
        repeat wtm_at "e"
        rw [qD_int h1, qD_int h2]
        refine o_mul (mulC_sz hp.1 hq.1 (by omega) (by omega)) ?_
        rw [mul_dv, h1, h2] at h
        have h : Q (qD (Rat.divInt (p.num * q.num) 1)) s := h
        rw [qD_whole] at h
        exact h
      · repeat wtm_at "e"
        exact ⟨rfl, rfl⟩
    · refine ⟨fun z => (by cases z), fun _ => ?_⟩
      repeat wtm_at "e"
      exact ⟨rfl, rfl⟩
  · rintro r s' ⟨rfl, rfl⟩
    wtm_at "s"
    repeat wtm_at "e"
    refine RP.of (parts_qD p _) ?_
    repeat wtm_at "e"
    refine RP.of (parts_qD q _) ?_
    repeat wtm_at "e"
    refine o_mul (mulC_sz hp.1 hq.1 (by omega) (by omega)) ?_
    repeat wtm_at "e"
    refine o_mul (mulC_sz (den_lt hp) (den_lt hq) (by omega) (by omega)) ?_
    repeat wtm_at "e"
    refine q_fraction (Int.mul_ne_zero (den_ne p) (den_ne q)) (prod_lt (den_lt hp) (den_lt hq) hn) ?_
    rw [← mul_dv]
    exact h
theorem q_divF (hp : Sz n p) (hq : Sz n q) (h0 : q ≠ 0) (hn : n ≤ 4000) (h : Q (qD (p / q)) s) : RP Q E (m_Fractions_divide [fF, qD p, qD q] s) := by
  wtm_at "body"
  unfold b_Fractions_divide
  wtm_at "s"
  repeat wtm_at "e"
  refine RP.of (parts_qD p _) ?_
  repeat wtm_at "e"
  refine RP.of (parts_qD q _) ?_
  repeat wtm_at "e"
  refine o_mul (mulC_sz hp.1 (den_lt hq) (by omega) (by omega)) ?_
  repeat wtm_at "e"
  refine o_mul (mulC_sz (den_lt hp) hq.1 (by omega) (by omega)) ?_
  repeat wtm_at "e"
  refine q_fraction (Int.mul_ne_zero (den_ne p) (num_ne h0)) (prod_lt (den_lt hp) hq.1 hn) ?_
  rw [← div_dv]
  exact h
theorem q_negF (h : Q (qD (-q)) s) : RP Q E (m_Fractions_negative [fF, qD q] s) := by
  wtm_at "body"
  unfold b_Fractions_negative
  repeat wtm_at "e"
  refine RP.of isi_qD ?_
  repeat wtm_at "e"
  refine ⟨fun h1 => ?_, fun h1 => ?_⟩
  · have h1 : q.den ≠ 1 := by simpa using h1
    have h2 : (-q).den ≠ 1 := by rw [neg_den]; exact h1
    rw [qD_tup h2, neg_den, neg_num] at h
    repeat wtm_at "e"
    rw [qD_tup h1]
    refine o_idxT (k := 0) rfl rfl ?_
    repeat wtm_at "e"
    refine o_idxT (k := 1) rfl rfl ?_
    repeat wtm_at "e"
    exact h
  · have h1 : q.den = 1 := by simpa using h1
    have h2 : (-q).den = 1 := by rw [neg_den]; exact h1
    rw [qD_int h2, neg_num] at h
    repeat wtm_at "e"
    rw [qD_int h1]
    repeat wtm_at "e"
    exact h
theorem q_subF (hp : Sz n p) (hq : Sz n q) (hn : n ≤ 4000) (h : Q (qD (p - q)) s) : RP Q E (m_Field_subtract [fF, qD p, qD q] s) := by
  wtm_at "body"
  unfold b_Field_subtract
  repeat wtm_at "e"
  wtm_at "meth"
  repeat wtm_at "e"
  wtm_at "meth"
  repeat wtm_at "e"
  refine q_negF ?_
  repeat wtm_at "e"
  refine q_addF hp hq.neg hn ?_
  rw [← Rat.sub_eq_add_neg]
  exact h
theorem q_is_anyF (h : Q (.bl true) s) : RP Q E (m_Fractions_is_any [fF, qD q] s) := by
  wtm_at "body"
  unfold b_Fractions_is_any
  wtm_at "s"
  repeat wtm_at "e"
  refine RP.of isi_qD ?_
  repeat wtm_at "e"
  refine ⟨fun h1 => ?_, fun h1 => ?_⟩
  · have h1 : q.den = 1 := by simpa using h1
    repeat wtm_at "e"
    rw [qD_int h1]
    exact q_is_integer_int h
  · have h1 : q.den ≠ 1 := by simpa using h1
    have h0 := q.den_nz
    rw [qD_tup h1]
    wtm_at "s"
    repeat wtm_at "e"
    refine ⟨fun _ => ?_, fun z => (by cases z)⟩
    repeat wtm_at "e"
    refine w_lcP (c := ⟨[.int q.num, .int (q.den : Nat)], none⟩) (fun d => .bl true) rfl (by show 2 ≤ sizeLine; decide) (fun d hd => ?_) ?_
    · have hd : d = .int q.num ∨ d = .int (q.den : Nat) := by simpa using hd
      rcases hd with rfl | rfl
      · exact ⟨_, rfl, rfl⟩
      · exact ⟨_, rfl, rfl⟩
    · repeat wtm_at "e"
      refine o_all (l := [true, true]) rfl ?_
      repeat wtm_at "e"
      refine ⟨fun _ => ?_, fun z => (by cases z)⟩
      repeat wtm_at "e"
      refine o_idxT (k := 1) rfl rfl ?_
      repeat wtm_at "e"
      refine ⟨fun z => absurd (of_decide_eq_true z) (by omega), fun _ => ?_⟩
      repeat wtm_at "e"
      refine o_idxT (k := 0) rfl rfl ?_
      repeat wtm_at "e"
      refine o_idxT (k := 1) rfl rfl ?_
      repeat wtm_at "e"
      refine q_common ?_
      repeat wtm_at "e"
      have e : Int.gcd q.num ((q.den : Nat) : Int) = 1 := q.reduced
      rw [e]
      exact h
/-- at most a hundred digits above and below -/
def Short (q : Rat) : Prop := q.num.natAbs < 10 ^ 100 ∧ q.den < 10 ^ 100
theorem Short.sz (h : Short q) : Sz 400 q := by
  have e : 10 ^ 100 < 2 ^ 400 := by decide +kernel
  exact ⟨Nat.lt_trans h.1 e, Nat.lt_trans h.2 e⟩
theorem abs_lt {i : Int} {n : Nat} (h : i.natAbs < 10 ^ n) : absI i < 10 ^ n := by
  have e : absI i = (i.natAbs : Int) := by
    show (if i < 0 then -i else i) = _
    split <;> omega
  rw [e]
  exact_mod_cast h
theorem q_is_numberF (hs : Short q) (h : Q (.bl true) s) : RP Q E (m_Field_is_number [fF, qD q] s) := by
  wtm_at "body"
  unfold b_Field_is_number
  repeat wtm_at "e"
  wtm_at "meth"
  repeat wtm_at "e"
  refine q_is_anyF ?_
  repeat wtm_at "e"
  refine ⟨fun _ => ?_, fun z => (by cases z)⟩
  repeat wtm_at "e"
  refine q_short_parts (n := 2) rfl (by decide) (parts_qD q) ?_
  rw [decide_eq_true (abs_lt (n := 50 * 2) hs.1), decide_eq_true (abs_lt (i := ((q.den : Nat) : Int)) (n := 50 * 2) hs.2)]
  exact h
theorem q_needF {qs : List Rat} (hv : ∀ q ∈ qs, Short q) (hl : qs.length ≤ 900) (h : Q .non s) : RP Q E (m_Field_need_numbers (fF :: qs.map qD) s) := by
  refine w_bodyV (by simp) (by simp; omega) rfl ?_
  show FP _ (b_Field_need_numbers [some fF, some (.tup (qs.map qD)), none] s)
  unfold b_Field_need_numbers
  repeat wtm_at "w"
  refine w_for (c := ⟨qs.map qD, none⟩) (fun i r s' => s' = s ∧ ∃ x, r = [some fF, some (.tup (qs.map qD)), x]) rfl ⟨rfl, _, rfl⟩ ?_ ?_
  · rintro i d r s' hd ⟨rfl, x, rfl⟩
    obtain ⟨v, hm, rfl⟩ := List.mem_map.mp (List.mem_of_getElem? hd)
    refine ⟨_, rfl, ?_⟩
    repeat wtm_at "w"
    wtm_at "meth"
    repeat wtm_at "w"
    refine q_is_numberF (hv v hm) ?_
    repeat wtm_at "w"
    refine ⟨fun hk => (by simp at hk), fun _ => ?_⟩
    repeat wtm_at "w"
    exact ⟨rfl, _, rfl⟩
  · rintro r s' ⟨rfl, x, rfl⟩
    exact h
theorem q_needF2 (hp : Short p) (hq : Short q) (h : Q .non s) : RP Q E (m_Field_need_numbers [fF, qD p, qD q] s) := q_needF (qs := [p, q]) (by simp; exact ⟨hp, hq⟩) (by simp) h
theorem q_plusF (hp : Short p) (hq : Short q) (h : Q (qD (p + q)) s) : RP Q E (m_Field_plus [fF, qD p, qD q] s) := by
  wtm_at "body"
  unfold b_Field_plus
  repeat wtm_at "w"
  wtm_at "meth"
  repeat wtm_at "w"
  refine q_needF2 hp hq ?_
  repeat wtm_at "w"
  wtm_at "meth"
  repeat wtm_at "w"
  exact q_addF hp.sz hq.sz (by decide) h
theorem q_minusF (hp : Short p) (hq : Short q) (h : Q (qD (p - q)) s) : RP Q E (m_Field_minus [fF, qD p, qD q] s) := by
  wtm_at "body"
  unfold b_Field_minus
  repeat wtm_at "w"
  wtm_at "meth"
  repeat wtm_at "w"
  refine q_needF2 hp hq ?_
  repeat wtm_at "w"
  wtm_at "meth"
  repeat wtm_at "w"
  exact q_subF hp.sz hq.sz (by decide) h
theorem q_timesF (hp : Short p) (hq : Short q) (h : Q (qD (p * q)) s) : RP Q E (m_Field_times [fF, qD p, qD q] s) := by
  wtm_at "body"
  unfold b_Field_times
  repeat wtm_at "w"
  wtm_at "meth"
  repeat wtm_at "w"
  refine q_needF2 hp hq ?_
  repeat wtm_at "w"
  wtm_at "meth"
  repeat wtm_at "w"
  exact q_mulF hp.sz hq.sz (by decide) h
theorem eq_qD : eqD (qD p) (qD q) s = .ok (.bl (decide (p = q))) s := by
  have hx : p = q ↔ p.num = q.num ∧ p.den = q.den := ⟨fun e => by rw [e]; exact ⟨rfl, rfl⟩, fun e => Rat.ext e.1 e.2⟩
  by_cases h1 : p.den = 1
  · by_cases h2 : q.den = 1
    · rw [qD_int h1, qD_int h2]
      show Res.ok (D.bl (decide (p.num = q.num))) s = _
      rw [decide_eq_decide.mpr (show p.num = q.num ↔ p = q by rw [hx, h1, h2]; simp)]
    · rw [qD_int h1, qD_tup h2, decide_eq_false (show ¬ p = q from fun e => h2 (by rw [← e]; exact h1))]
      rfl
  · by_cases h2 : q.den = 1
    · rw [qD_tup h1, qD_int h2, decide_eq_false (show ¬ p = q from fun e => h1 (by rw [e]; exact h2))]
      rfl
    · rw [qD_tup h1, qD_tup h2]
      show Res.ok (D.bl ((p.num == q.num) && (((p.den : Nat) : Int) == ((q.den : Nat) : Int) && true))) s = _
      congr 2
      rw [Bool.and_true, Bool.eq_iff_iff]
      simp only [Bool.and_eq_true, beq_iff_eq, decide_eq_true_eq]
      rw [hx]
      omega
theorem qD_zero : qD 0 = .int 0 := rfl
theorem q_overF (hp : Short p) (hq : Short q) (h0 : q ≠ 0) (h : Q (qD (p / q)) s) : RP Q E (m_Field_over [fF, qD p, qD q] s) := by
  wtm_at "body"
  unfold b_Field_over
  repeat wtm_at "w"
  wtm_at "meth"
  repeat wtm_at "w"
  refine q_needF2 hp hq ?_
  repeat wtm_at "w"
  refine RP.of (eq_qD (q := 0)) ?_
  repeat wtm_at "w"
  refine ⟨fun z => absurd (of_decide_eq_true z) h0, fun _ => ?_⟩
  repeat wtm_at "w"
  wtm_at "meth"
  repeat wtm_at "w"
  exact q_divF hp.sz hq.sz h0 (by decide) h
theorem q_overF0 (hp : Short p) (h : E "NoQuotient" [] s) : RP Q E (m_Field_over [fF, qD p, qD 0] s) := by
  wtm_at "body"
  unfold b_Field_over
  repeat wtm_at "w"
  wtm_at "meth"
  repeat wtm_at "w"
  refine q_needF2 hp (q := 0) ⟨by decide +kernel, by decide +kernel⟩ ?_
  repeat wtm_at "w"
  refine RP.of (eq_qD (q := 0)) ?_
  repeat wtm_at "w"
  refine ⟨fun _ => ?_, fun z => absurd rfl (of_decide_eq_false z)⟩
  repeat wtm_at "w"
  exact h
def ratSum : List Rat → Rat
  | [] => 0
  | q :: l => q + ratSum l
theorem ratSum_app (q : Rat) : ∀ l : List Rat, ratSum (l ++ [q]) = ratSum l + q
  | [] => by
    show q + 0 = 0 + q
    grind
  | x :: l => by
    show x + ratSum (l ++ [q]) = x + ratSum l + q
    rw [ratSum_app q l]
    grind
theorem q_totalF {qs : List Rat} (hv : ∀ q ∈ qs, Short q) (hl : qs.length ≤ 4) (h : Q (qD (ratSum qs)) s) : RP Q E (m_Field_total (fF :: qs.map qD) s) := by
  refine w_bodyV (by simp) (by simp; omega) rfl ?_
  show FP _ (b_Field_total [some fF, some (.tup (qs.map qD)), none, none] s)
  unfold b_Field_total
  repeat wtm_at "w"
  wtm_at "meth"
  repeat wtm_at "w"
  refine q_needF hv (by omega) ?_
  repeat wtm_at "w"
  refine w_for (c := ⟨qs.map qD, none⟩) (fun i r s' => s' = s ∧ (∃ x, r = [some fF, some (.tup (qs.map qD)), some (qD (ratSum (qs.take i))), x]) ∧ Sz (401 * 2 ^ i - 1) (ratSum (qs.take i))) rfl ⟨rfl, ⟨none, by rw [List.take_zero]; rfl⟩, ?_⟩ ?_ ?_
  · rw [List.take_zero]
    exact ⟨by decide +kernel, by decide +kernel⟩
  · rintro i d r s' hd ⟨rfl, ⟨x, rfl⟩, hz⟩
    rw [List.getElem?_map] at hd
    cases hg : qs[i]? with
    | none => rw [hg] at hd; cases hd
    | some v =>
      rw [hg] at hd
      cases hd
      have hi := (List.getElem?_eq_some_iff.mp hg).1
      have h3 : i ≤ 3 := by omega
      have hpw : 2 ^ i ≤ 2 ^ 3 := Nat.pow_le_pow_right (by decide) h3
      have hp1 : 1 ≤ 2 ^ i := Nat.one_le_two_pow
      have hv' : Sz (401 * 2 ^ i - 1) v := (hv v (List.mem_of_getElem? hg)).sz.mono (by omega)
      have e : ratSum (qs.take (i + 1)) = ratSum (qs.take i) + v := by
        rw [List.take_add_one, hg]
        exact ratSum_app v _
      refine ⟨_, rfl, ?_⟩
      repeat wtm_at "w"
      wtm_at "meth"
      repeat wtm_at "w"
      refine q_addF hz hv' (by omega) ?_
      refine ⟨rfl, ⟨some (qD v), ?_⟩, ?_⟩
      · rw [e]
        rfl
      · rw [e]
        refine (hz.add hv').mono ?_
        rw [Nat.pow_succ]
        omega
  · rintro r s' ⟨rfl, ⟨x, rfl⟩, hz⟩
    repeat wtm_at "w"
    rw [List.length_map, List.take_length]
    exact h
end
end G
set_option Elab.async false
set_option linter.all false
set_option maxRecDepth 100000
set_option maxHeartbeats 4000000
namespace G
open Mp Pl
open PySem (Str sizeLine)
local macro_rules | `(tactic| wtm_at "e") => `(tactic| first
  | with_reducible refine w_set ?_
  | with_reducible refine w_bin ?_
  | ((with_reducible refine w_v (d := ?dv) ?hv ?_); (case hv => exact rfl))
  | with_reducible refine w_c ?_
  | with_reducible refine w_cons ?_
  | with_reducible refine w_nil ?_
  | with_reducible refine w_arg ?_
  | with_reducible refine w_call ?_
  | with_reducible refine w_if ?_
  | with_reducible refine w_ret ?_
  | with_reducible refine w_skip ?_
  | with_reducible refine w_bl ?_
  | with_reducible refine w_tru ?_
  | with_reducible refine w_attr ?_
  | with_reducible refine w_meth ?_
  | with_reducible refine w_chain ?_
  | with_reducible refine w_and ?_
  | with_reducible refine w_or ?_
  | with_reducible refine w_not ?_
  | with_reducible refine w_notT ?_
  | with_reducible refine w_andT ?_
  | with_reducible refine w_orT ?_
  | with_reducible refine w_ifM ?_
  | with_reducible refine w_expr ?_
  | with_reducible refine w_un ?_
  | with_reducible refine w_par2 ?_
  | with_reducible refine w_par3 ?_
  | with_reducible refine w_asg ?_
  | with_reducible refine w_aug ?_
  | with_reducible refine w_sub ?_
  | with_reducible refine w_fld ?_
  | with_reducible refine w_raise ?_
  | with_reducible refine w_raise0 ?_
  | with_reducible refine w_try ?_
  | with_reducible refine w_make ?_
  | with_reducible refine w_tryAs ?_
  | with_reducible refine w_exn ?_
  | ((with_reducible refine o_isx (b := ?bv) ?h1 ?_); (case h1 => exact rfl))
  | with_reducible refine w_superS ?_
  | with_reducible refine w_super ?_
  | with_reducible refine w_star ?_
  | with_reducible refine w_for0 ?_
  | with_reducible refine w_lc0 ?_
  | with_reducible refine w_lc20 ?_
  | with_reducible refine w_seqJ ?_
  | with_reducible refine w_starC ?_
  | with_reducible refine w_spr ?_
  | with_reducible refine w_tryN ?_
  | ((with_reducible refine o_own0 ?hv ?_); (case hv => exact rfl))
  | ((with_reducible refine o_eqO0 ?hv ?_); (case hv => exact rfl))
  | with_reducible refine w_seqI ?_
  | with_reducible refine w_argI ?_
  | with_reducible refine w_opt ?_
  | with_reducible refine w_sli ?_
  | with_reducible refine w_pure ?_
  | with_reducible refine w_disp ?_
  | with_reducible refine w_pairs1 ?_
  | with_reducible refine w_pairs0 ?_
  | with_reducible refine w_retN ?_
  | with_reducible refine w_cnt ?_
  | with_reducible refine w_brk ?_
  | with_reducible refine o_addI ?_
  | with_reducible refine o_addI' ?_
  | with_reducible refine o_sub ?_
  | with_reducible refine o_lt ?_
  | with_reducible refine o_le ?_
  | with_reducible refine o_gt ?_
  | with_reducible refine o_ge ?_
  | with_reducible refine o_eqI ?_
  | with_reducible refine o_neI ?_
  | with_reducible refine o_eqS ?_
  | with_reducible refine o_neS ?_
  | with_reducible refine o_int ?_
  | with_reducible refine o_intB ?_
  | with_reducible refine o_neg ?_
  | with_reducible refine o_abs ?_
  | with_reducible refine o_newL ?_
  | with_reducible refine o_max2 ?_
  | with_reducible refine o_min2 ?_
  | with_reducible refine o_lenL ?_
  | with_reducible refine o_lenT ?_
  | ((with_reducible refine o_tup ?hv ?_); (case hv => first | exact Nat.le_of_ble_eq_true rfl | assumption))
  | ((with_reducible refine o_lst ?hv ?_); (case hv => first | exact Nat.le_of_ble_eq_true rfl | assumption))
  | ((with_reducible refine o_isi (t := ?tv) (b := ?bv) ?h1 ?h2 ?_); (case h1 => exact rfl); (case h2 => exact rfl))
  | ((with_reducible refine o_fld (C := ?cv) (fs := ?fv) (d := ?dv) ?h1 ?h2 ?h3 ?_); (case h1 => exact rfl); (case h2 => exact rfl); (case h3 => exact rfl))
  | ((with_reducible refine Exists.intro ?kv (And.intro ?ha ?_)); (case ha => exact rfl)))
local macro_rules | `(tactic| wtm_at "body") => `(tactic| (refine w_body rfl rfl ?_; dsimp only [List.length_cons, List.length_nil, List.drop, List.append_nil, List.map_cons, List.map_nil, List.map, List.cons_append, List.nil_append, Nat.reduceAdd, Nat.reduceSub, List.replicate]))
local macro_rules | `(tactic| wtm_at "meth") => `(tactic| refine ⟨_, _, _, rfl, rfl, rfl, ?_⟩)
local macro_rules | `(tactic| wtm_at "w") => `(tactic| first | with_reducible refine w_seq ?_ | wtm_at "e")
local macro_rules | `(tactic| wtm_at "s") => `(tactic| ((repeat wtm_at "e"); (with_reducible refine w_seq ?_)))
local macro_rules | `(tactic| wtm_at "f") => `(tactic| ((repeat wtm_at "e"); (with_reducible show FP _ _)))
/-! primes -/
def hit (v : Int) : Int → Nat → Bool
  | _, 0 => false
  | f, n + 1 => decide (f * f % v = v - 1) || hit v (f * f % v) n
def witF (v : Int) (o h : Nat) (a : Int) : Bool := if a ^ o % v = 1 ∨ a ^ o % v = v - 1 then false else !hit v (a ^ o % v) (h - 1)
def smalls : List Int := [2, 3, 5, 7, 11, 13, 17, 19, 23, 29, 31, 37]
def primeF (v : Int) (o h : Nat) : Bool := match smalls.find? fun p => decide (v % p = 0) with
  | some p => decide (v = p)
  | none => !([2, 3, 5, 7].map (witF v o h)).any id
section
variable {v a : Int} {o h : Nat} {s : Sto} {Q : D → Sto → Prop} {E : XT}
theorem q_is_witness (ha : 0 ≤ a) (ha2 : a < 18446744073709551616) (hv : 3 ≤ v) (hv2 : v ≤ 1000000000) (ho : v - 1 = o * 2 ^ h) (hod : o % 2 = 1) (hh : h ≤ 60) (hq : Q (.bl (witF v o h a)) s) : RP Q E (m_is_witness [.int a, .int v] s) := by
  wtm_at "body"
  unfold b_is_witness
  repeat wtm_at "w"
  refine ⟨_, _, rfl, ?_⟩
  repeat wtm_at "w"
  refine w_while (fun n r s' => s' = s ∧ ∃ k, k ≤ h ∧ r = [some (.int a), some (.int v), none, none, some (.int ((o * 2 ^ (h - k) : Nat) : Int)), some (.int (k : Nat))] ∧ h - k = n) ?_ h _ _ ⟨rfl, 0, Nat.zero_le _, by rw [ho]; simp, rfl⟩
  rintro n r s' ⟨rfl, k, hk, rfl, hn⟩
  repeat wtm_at "w"
  refine o_mod (by decide) ?_
  repeat wtm_at "w"
  refine ⟨fun hz => ?_, fun hz => ?_⟩
  · have hz := of_decide_eq_true hz
    have hlt : k < h := by
      refine Nat.lt_of_le_of_ne hk fun e => ?_
      subst e
      rw [Nat.sub_self, Nat.pow_zero, Nat.mul_one] at hz
      omega
    repeat wtm_at "w"
    refine o_div64 (by decide) (by decide) ?_
    repeat wtm_at "w"
    refine ⟨_, _, rfl, ?_⟩
    refine ⟨h - (k + 1), by omega, rfl, k + 1, hlt, ?_, rfl⟩
    have e : ((o * 2 ^ (h - k) : Nat) : Int) / 2 = ((o * 2 ^ (h - (k + 1)) : Nat) : Int) := by
      rw [show h - k = h - (k + 1) + 1 by omega, Nat.pow_succ, ← Nat.mul_assoc]
      omega
    show [some (D.int a), some (.int v), none, none, some (.int (((o * 2 ^ (h - k) : Nat) : Int) / 2)), some (.int ((k : Int) + 1))] = _
    rw [e]
    rfl
  · have hz := of_decide_eq_false hz
    have hkh : h - k = 0 := by
      refine Nat.eq_zero_of_not_pos fun hp => hz ?_
      rw [show h - k = h - k - 1 + 1 by omega, Nat.pow_succ, ← Nat.mul_assoc]
      omega
    obtain rfl : k = h := by omega
    repeat wtm_at "w"
    rw [Nat.sub_self, Nat.pow_zero, Nat.mul_one]
    refine q_power (by omega) hv2 ha ha2 (by omega) ?_
    repeat wtm_at "w"
    have e : ((o : Nat) : Int).toNat = o := by omega
    rw [e]
    unfold witF at hq
    refine ⟨fun h1 => ?_, fun h1 => ?_⟩
    · have h1 := of_decide_eq_false h1
      repeat wtm_at "w"
      refine ⟨fun h2 => ?_, fun h2 => ?_⟩
      · rw [if_pos (.inr (of_decide_eq_true h2))] at hq
        repeat wtm_at "w"
        exact hq
      · have h2 := of_decide_eq_false h2
        rw [if_neg (by rintro (z | z); exact h1 z; exact h2 z)] at hq
        repeat wtm_at "w"
        refine w_range1 (by omega) (by omega) ?_
        have hb : ∀ f : Int, 0 ≤ f * f % v ∧ f * f % v < v := fun f => ⟨Int.emod_nonneg _ (by omega), Int.emod_lt_of_pos _ (by omega)⟩
        rw [show ((k : Nat) : Int) - 1 = ((k : Nat) : Int) - 1 from rfl, show (((k : Nat) : Int) - 1).toNat = k - 1 by omega]
        refine w_for (c := ⟨intL 0 (k - 1), none⟩) (fun i r s2 => s2 = s' ∧ i ≤ k - 1 ∧ ∃ f x, r = [some (.int a), some (.int v), some (.int f), x, some (.int (o : Nat)), some (.int (k : Nat))] ∧ 0 ≤ f ∧ f < v ∧ hit v (a ^ o % v) (k - 1) = hit v f (k - 1 - i)) rfl ⟨rfl, Nat.zero_le _, _, _, rfl, Int.emod_nonneg _ (by omega), Int.emod_lt_of_pos _ (by omega), rfl⟩ ?_ ?_
        · rintro i d r s' hd ⟨rfl, hi, f, x, rfl, hf0, hf1, hf⟩
          obtain ⟨hi, rfl⟩ := intL_get hd
          refine ⟨_, rfl, ?_⟩
          repeat wtm_at "w"
          refine o_mul64 (by omega) (by omega) ?_
          repeat wtm_at "w"
          refine o_mod (by omega) ?_
          repeat wtm_at "w"
          have hu : hit v f (k - 1 - i) = (decide (f * f % v = v - 1) || hit v (f * f % v) (k - 1 - (i + 1))) := by
            rw [show k - 1 - i = k - 1 - (i + 1) + 1 by omega]
            rfl
          refine ⟨fun h3 => ?_, fun h3 => ?_⟩
          · repeat wtm_at "w"
            rw [hf, hu, h3, Bool.true_or] at hq
            exact hq
          · repeat wtm_at "w"
            have hff := hb f
            refine ⟨rfl, hi, f * f % v, some (.int (0 + i)), rfl, hff.1, hff.2, ?_⟩
            rw [hf, hu, h3, Bool.false_or]
        · rintro r s' ⟨rfl, hi, f, x, rfl, hf0, hf1, hf⟩
          repeat wtm_at "w"
          rw [intL_len, Nat.sub_self] at hf
          rw [hf] at hq
          exact hq
    · rw [if_pos (.inl (of_decide_eq_true h1))] at hq
      refine ⟨fun _ => ?_, fun hk => by cases hk⟩
      repeat wtm_at "w"
      exact hq
theorem q_is_prime (hv : 2 ≤ v) (hv2 : v ≤ 1000000000) (ho : v - 1 = o * 2 ^ h) (hod : o % 2 = 1) (hh : h ≤ 60) (hq : Q (.bl (primeF v o h)) s) : RP Q E (m_is_prime [.int v] s) := by
  wtm_at "body"
  unfold b_is_prime
  repeat wtm_at "w"
  refine q_is_between_int ?_
  rw [decide_eq_true hv, decide_eq_true hv2]
  repeat wtm_at "w"
  refine ⟨fun hk => (by simp at hk), fun _ => ?_⟩
  repeat wtm_at "w"
  refine w_for (c := ⟨smalls.map .int, none⟩) (fun i r s' => s' = s ∧ (∃ x, r = [some (.int v), x, none]) ∧ (smalls.find? fun p => decide (v % p = 0)) = ((smalls.drop i).find? fun p => decide (v % p = 0)) ) rfl ⟨rfl, ⟨_, rfl⟩, rfl⟩ ?_ ?_
  · rintro i d r s' hd ⟨rfl, ⟨x, rfl⟩, hf⟩
    rw [List.getElem?_map] at hd
    cases hg : smalls[i]? with
    | none => rw [hg] at hd; cases hd
    | some p =>
      rw [hg] at hd
      cases hd
      have hp : 0 < p := by
        have : ∀ q ∈ smalls, (0 : Int) < q := by decide
        exact this p (List.mem_of_getElem? hg)
      have hdr : smalls.drop i = p :: smalls.drop (i + 1) := by
        rw [List.drop_eq_getElem_cons (List.getElem?_eq_some_iff.mp hg).1, (List.getElem?_eq_some_iff.mp hg).2]
      rw [hdr] at hf
      refine ⟨_, rfl, ?_⟩
      repeat wtm_at "w"
      refine o_mod hp ?_
      repeat wtm_at "w"
      refine ⟨fun hz => ?_, fun hz => ?_⟩
      · repeat wtm_at "w"
        unfold primeF at hq
        rw [hf, List.find?_cons_of_pos (p := fun p => decide (v % p = 0)) hz] at hq
        exact hq
      · repeat wtm_at "w"
        refine ⟨rfl, ⟨_, rfl⟩, ?_⟩
        rw [hf, List.find?_cons_of_neg (p := fun p => decide (v % p = 0)) (by rw [hz]; decide)]
  · rintro r s' ⟨rfl, ⟨x, rfl⟩, hf⟩
    have hf : (smalls.find? fun p => decide (v % p = 0)) = none := hf
    have h3 : 3 ≤ v := by
      have := List.find?_eq_none.mp hf 2 (by decide)
      simp only [decide_eq_true_eq] at this
      omega
    repeat wtm_at "w"
    refine w_lcP (c := ⟨[.int 2, .int 3, .int 5, .int 7], none⟩) (fun d => match d with
      | .int i => .bl (witF v o h i)
      | d => d) rfl (by show 4 ≤ sizeLine; decide) (fun d hd => ?_) ?_
    · have key : ∀ b : Int, 0 ≤ b → b < 100 → ∃ p, nameG 2 (.int b) (wipeE [some (.int v), x, none] [2]) s' = some (p, s') ∧ callM m_is_witness (consA (vM 2) (consA (vM 0) nilA)) p s' = .ok (.bl (witF v o h b)) s' := fun b hb hb2 => by
        refine ⟨[some (.int v), x, some (.int b)], rfl, ?_⟩
        have := (q_is_witness (s := s') (Q := fun d s2 => d = .bl (witF v o h b) ∧ s2 = s') hb (by omega) h3 hv2 ho hod hh ⟨rfl, rfl⟩).ex
        obtain ⟨d, s2, e, rfl, rfl⟩ := this
        exact e
      have hd : d = .int 2 ∨ d = .int 3 ∨ d = .int 5 ∨ d = .int 7 := by simpa using hd
      rcases hd with rfl | rfl | rfl | rfl
      · exact key 2 (by decide) (by decide)
      · exact key 3 (by decide) (by decide)
      · exact key 5 (by decide) (by decide)
      · exact key 7 (by decide) (by decide)
    · repeat wtm_at "w"
      refine o_any (l := [_, _, _, _]) rfl ?_
      repeat wtm_at "w"
      unfold primeF at hq
      rw [hf] at hq
      exact hq
def PrimeOk (v : Int) : Prop := 2 ≤ v ∧ v ≤ 1000000000 ∧ ∃ o h, v - 1 = (o : Nat) * 2 ^ (h : Nat) ∧ o % 2 = 1 ∧ h ≤ 60 ∧ primeF v o h = true
theorem pk2 : PrimeOk 2 := ⟨by decide, by decide, 1, 0, by decide, by decide, by decide, by decide +kernel⟩
theorem pk3 : PrimeOk 3 := ⟨by decide, by decide, 1, 1, by decide, by decide, by decide, by decide +kernel⟩
theorem pk5 : PrimeOk 5 := ⟨by decide, by decide, 1, 2, by decide, by decide, by decide, by decide +kernel⟩
theorem pk7 : PrimeOk 7 := ⟨by decide, by decide, 3, 1, by decide, by decide, by decide, by decide +kernel⟩
theorem pk101 : PrimeOk 101 := ⟨by decide, by decide, 25, 2, by decide, by decide, by decide, by decide +kernel⟩
theorem pkBig : PrimeOk 1000003 := ⟨by decide, by decide, 500001, 1, by decide, by decide, by decide, by decide +kernel⟩
end
theorem q_newM {p : Int} {s : Sto} {Q : D → Sto → Prop} {E : XT} (hp : PrimeOk p) (h : Q (fM p) (s ++ [none])) : RP (fun v s2 => v = .non ∧ RP Q E (freezeI false s.length s2)) E (m_Modulo___init__ [.cel s.length, .int p] (s ++ [some (.ins "Modulo" [])])) := by
  obtain ⟨h1, h2, o, hh, h3, h4, h5, h6⟩ := hp
  have hs : (s ++ [some (Ct.ins "Modulo" [])])[s.length]? = some (some (.ins "Modulo" [])) := by simp
  have hi : insOf (s ++ [some (Ct.ins "Modulo" [])]) (.cel s.length) = some (("Modulo" : Str), []) := by
    unfold insOf
    dsimp only
    rw [hs]
  wtm_at "body"
  unfold b_Modulo___init__
  repeat wtm_at "w"
  refine q_is_prime h1 h2 h3 h4 h5 ?_
  rw [h6]
  repeat wtm_at "w"
  refine ⟨fun hk => (by cases hk), fun _ => ?_⟩
  repeat wtm_at "w"
  refine ⟨_, _, _, hi, rfl, ?_⟩
  repeat wtm_at "w"
  refine w_body rfl rfl ?_
  unfold b_Field___init__
  repeat wtm_at "w"
  refine ⟨_, _, _, rfl, hs, by decide, by decide, ?_⟩
  repeat wtm_at "w"
  refine ⟨rfl, w_freeze (C := "Modulo") (fs := [("own_prime", .int p)]) ?_ ?_⟩
  · rw [List.getElem?_set_self (by simp)]
    rfl
  · rw [List.set_set]
    have e : (s ++ [some (Ct.ins "Modulo" [])]).set s.length none = s ++ [none] := by simp
    rw [e]
    exact h
end G
set_option Elab.async false
set_option linter.all false
set_option maxRecDepth 100000
set_option maxHeartbeats 4000000
namespace G
open Mp Pl
open PySem (Str sizeLine)
local macro_rules | `(tactic| wtm_at "e") => `(tactic| first
  | with_reducible refine w_set ?_
  | with_reducible refine w_bin ?_
  | ((with_reducible refine w_v (d := ?dv) ?hv ?_); (case hv => exact rfl))
  | with_reducible refine w_c ?_
  | with_reducible refine w_cons ?_
  | with_reducible refine w_nil ?_
  | with_reducible refine w_arg ?_
  | with_reducible refine w_call ?_
  | with_reducible refine w_if ?_
  | with_reducible refine w_ret ?_
  | with_reducible refine w_skip ?_
  | with_reducible refine w_bl ?_
  | with_reducible refine w_tru ?_
  | with_reducible refine w_attr ?_
  | with_reducible refine w_meth ?_
  | with_reducible refine w_chain ?_
  | with_reducible refine w_and ?_
  | with_reducible refine w_or ?_
  | with_reducible refine w_not ?_
  | with_reducible refine w_notT ?_
  | with_reducible refine w_andT ?_
  | with_reducible refine w_orT ?_
  | with_reducible refine w_ifM ?_
  | with_reducible refine w_expr ?_
  | with_reducible refine w_un ?_
  | with_reducible refine w_par2 ?_
  | with_reducible refine w_par3 ?_
  | with_reducible refine w_asg ?_
  | with_reducible refine w_aug ?_
  | with_reducible refine w_sub ?_
  | with_reducible refine w_fld ?_
  | with_reducible refine w_raise ?_
  | with_reducible refine w_raise0 ?_
  | with_reducible refine w_try ?_
  | with_reducible refine w_make ?_
  | with_reducible refine w_tryAs ?_
  | with_reducible refine w_exn ?_
  | ((with_reducible refine o_isx (b := ?bv) ?h1 ?_); (case h1 => exact rfl))
  | with_reducible refine w_superS ?_
  | with_reducible refine w_super ?_
  | with_reducible refine w_star ?_
  | with_reducible refine w_for0 ?_
  | with_reducible refine w_lc0 ?_
  | with_reducible refine w_lc20 ?_
  | with_reducible refine w_seqJ ?_
  | with_reducible refine w_starC ?_
  | with_reducible refine w_spr ?_
  | with_reducible refine w_tryN ?_
  | ((with_reducible refine o_own0 ?hv ?_); (case hv => exact rfl))
  | ((with_reducible refine o_eqO0 ?hv ?_); (case hv => exact rfl))
  | with_reducible refine w_seqI ?_
  | with_reducible refine w_argI ?_
  | with_reducible refine w_opt ?_
  | with_reducible refine w_sli ?_
  | with_reducible refine w_pure ?_
  | with_reducible refine w_disp ?_
  | with_reducible refine w_pairs1 ?_
  | with_reducible refine w_pairs0 ?_
  | with_reducible refine w_retN ?_
  | with_reducible refine w_cnt ?_
  | with_reducible refine w_brk ?_
  | with_reducible refine o_addI ?_
  | with_reducible refine o_addI' ?_
  | with_reducible refine o_sub ?_
  | with_reducible refine o_lt ?_
  | with_reducible refine o_le ?_
  | with_reducible refine o_gt ?_
  | with_reducible refine o_ge ?_
  | with_reducible refine o_eqI ?_
  | with_reducible refine o_neI ?_
  | with_reducible refine o_eqS ?_
  | with_reducible refine o_neS ?_
  | with_reducible refine o_int ?_
  | with_reducible refine o_intB ?_
  | with_reducible refine o_neg ?_
  | with_reducible refine o_abs ?_
  | with_reducible refine o_newL ?_
  | with_reducible refine o_max2 ?_
  | with_reducible refine o_min2 ?_
  | with_reducible refine o_lenL ?_
  | with_reducible refine o_lenT ?_
  | ((with_reducible refine o_tup ?hv ?_); (case hv => first | exact Nat.le_of_ble_eq_true rfl | assumption))
  | ((with_reducible refine o_lst ?hv ?_); (case hv => first | exact Nat.le_of_ble_eq_true rfl | assumption))
  | ((with_reducible refine o_isi (t := ?tv) (b := ?bv) ?h1 ?h2 ?_); (case h1 => exact rfl); (case h2 => exact rfl))
  | ((with_reducible refine o_fld (C := ?cv) (fs := ?fv) (d := ?dv) ?h1 ?h2 ?h3 ?_); (case h1 => exact rfl); (case h2 => exact rfl); (case h3 => exact rfl))
  | ((with_reducible refine Exists.intro ?kv (And.intro ?ha ?_)); (case ha => exact rfl)))
local macro_rules | `(tactic| wtm_at "body") => `(tactic| (refine w_body rfl rfl ?_; dsimp only [List.length_cons, List.length_nil, List.drop, List.append_nil, List.map_cons, List.map_nil, List.map, List.cons_append, List.nil_append, Nat.reduceAdd, Nat.reduceSub, List.replicate]))
local macro_rules | `(tactic| wtm_at "meth") => `(tactic| refine ⟨_, _, _, rfl, rfl, rfl, ?_⟩)
local macro_rules | `(tactic| wtm_at "w") => `(tactic| first | with_reducible refine w_seq ?_ | wtm_at "e")
local macro_rules | `(tactic| wtm_at "s") => `(tactic| ((repeat wtm_at "e"); (with_reducible refine w_seq ?_)))
local macro_rules | `(tactic| wtm_at "f") => `(tactic| ((repeat wtm_at "e"); (with_reducible show FP _ _)))
/-! the pen -/
theorem q_draw {n : Nat} {many b : Int} {s : Sto} {Q : D → Sto → Prop} {E : XT} (p : Pen s n b) (hb : b ≤ 1000000000) (h0 : 0 < many) (h1 : many < 18446744073709551616) (h : ∀ k s', 0 ≤ k → k < many → Pen s' n (b + 1) → Fr n s s' → s'.length = s.length → Q (.int k) s') : RP Q E (m__law_draw [.cel n, .int many] s) := by
  obtain ⟨cells, g, l, hs, hc, hg, hgb, hl⟩ := p
  have hm : ∀ x : Int, 0 ≤ x % many ∧ x % many < many := fun x => ⟨Int.emod_nonneg _ (by omega), Int.emod_lt_of_pos _ (by omega)⟩
  wtm_at "body"
  unfold b__law_draw
  repeat wtm_at "w"
  refine pen_left hs ?_
  repeat wtm_at "w"
  refine ⟨fun hk => ?_, fun hk => ?_⟩
  · have hk := of_decide_eq_true hk
    repeat wtm_at "w"
    refine pen_left hs ?_
    repeat wtm_at "w"
    refine o_mod h0 ?_
    repeat wtm_at "w"
    refine pen_left hs ?_
    repeat wtm_at "w"
    refine o_div64 h0 h1 ?_
    repeat wtm_at "w"
    refine ⟨_, pen_putL hs, ?_⟩
    repeat wtm_at "w"
    exact h _ _ (hm l).1 (hm l).2 ⟨cells, g, _, pen_at hs, hc, hg, by omega, Int.ediv_nonneg hl (by omega)⟩ Fr.set (List.length_set ..)
  · have hk := of_decide_eq_false hk
    wtm_at "s"
    repeat wtm_at "e"
    refine pen_begun hs ?_
    wtm_at "s"
    repeat wtm_at "e"
    refine ⟨_, pen_putB hs, ?_⟩
    have hs1 : (s.set n (some (penC cells (g + 1) l)))[n]? = some (some (penC cells (g + 1) l)) := pen_at hs
    have fr1 : Fr n s (s.set n (some (penC cells (g + 1) l))) := Fr.set
    have ln1 : (s.set n (some (penC cells (g + 1) l))).length = s.length := List.length_set ..
    generalize s.set n (some (penC cells (g + 1) l)) = s1 at hs1 fr1 ln1 ⊢
    wtm_at "s"
    repeat wtm_at "e"
    refine o_mul64 (by omega) (by omega) ?_
    repeat wtm_at "e"
    wtm_at "f"
    with_reducible refine w_mid (fun r' s' => s' = s1 ∧ ∃ cell : Int, r' = [some (.cel n), some (.int many), some (.int g), some (.int cell), none, none, none]) ?_ ?_
    · repeat wtm_at "e"
      refine pen_cells hs1 ?_
      repeat wtm_at "e"
      refine o_neNil ?_
      repeat wtm_at "e"
      refine ⟨fun hk => ?_, fun hk => ?_⟩
      · have hc0 : 0 < cells.length := by
          cases cells with
          | nil => cases hk
          | cons a c => simp
        repeat wtm_at "e"
        refine pen_cells hs1 ?_
        repeat wtm_at "e"
        refine pen_cells hs1 ?_
        repeat wtm_at "e"
        rw [List.length_map]
        refine o_mod (by omega) ?_
        have hk0 : 0 ≤ g % (cells.length : Int) := Int.emod_nonneg _ (by omega)
        have hk1 : g % (cells.length : Int) < cells.length := Int.emod_lt_of_pos _ (by omega)
        have hlt : (g % (cells.length : Int)).toNat < cells.length := by omega
        refine o_idxL (k := (g % (cells.length : Int)).toNat) (d := .int (cells[(g % (cells.length : Int)).toNat])) (by omega) (by rw [List.getElem?_map, List.getElem?_eq_getElem hlt]; rfl) ?_
        exact ⟨rfl, _, rfl⟩
      · repeat wtm_at "e"
        exact ⟨rfl, _, rfl⟩
    · rintro r' s' ⟨rfl, cell, rfl⟩
      have pen1 : Pen s' n (b + 1) := ⟨cells, g + 1, l, hs1, hc, by omega, by omega, hl⟩
      wtm_at "f"
      with_reducible refine w_mid (fun r2 s2 => s2 = s' ∧ r2 = [some (.cel n), some (.int many), some (.int g), some (.int cell), none, none, none]) ?_ ?_
      · repeat wtm_at "e"
        refine pen_cells hs1 ?_
        repeat wtm_at "e"
        refine ⟨fun hk => ?_, fun hk => ?_⟩
        · repeat wtm_at "e"
          refine o_pow (by decide) (by decide) (by decide) ?_
          repeat wtm_at "e"
          refine ⟨fun hk2 => ?_, fun hk2 => ?_⟩
          · have hk2 := of_decide_eq_true hk2
            repeat wtm_at "w"
            refine o_pow (by decide) (by decide) (by decide) ?_
            repeat wtm_at "w"
            refine o_div64 h0 h1 ?_
            repeat wtm_at "w"
            refine ⟨_, pen_putL hs1, ?_⟩
            repeat wtm_at "w"
            refine o_pow (by decide) (by decide) (by decide) ?_
            repeat wtm_at "w"
            refine o_mod h0 ?_
            refine h _ _ (hm _).1 (hm _).2 ⟨cells, g + 1, _, pen_at hs1, hc, by omega, by omega, Int.ediv_nonneg ?_ (by omega)⟩ (fr1.trans Fr.set) (by rw [List.length_set]; exact ln1)
            exact Int.sub_nonneg_of_le hk2
          · repeat wtm_at "e"
            exact ⟨rfl, rfl⟩
        · repeat wtm_at "e"
          refine ⟨fun z => (by cases z), fun _ => ?_⟩
          repeat wtm_at "e"
          exact ⟨rfl, rfl⟩
      · rintro r2 s2 ⟨rfl, rfl⟩
        have b1 : 0 ≤ cell % 4294967197 ∧ cell % 4294967197 < 4294967197 := ⟨Int.emod_nonneg _ (by decide), Int.emod_lt_of_pos _ (by decide)⟩
        repeat wtm_at "w"
        refine o_mod (by decide) ?_
        repeat wtm_at "w"
        refine o_mul64 (by omega) (by decide) ?_
        repeat wtm_at "w"
        refine o_mul64 (by decide) (by omega) ?_
        repeat wtm_at "w"
        refine o_mul64 (by omega) (by omega) ?_
        repeat wtm_at "w"
        refine o_mod (by decide) ?_
        generalize hx : (cell % 4294967197 * 48673 + g * (40009 * g + 1511) + 331) % 4294967189 = x
        have b2 : 0 ≤ x ∧ x < 4294967189 := by
          subst hx
          exact ⟨Int.emod_nonneg _ (by decide), Int.emod_lt_of_pos _ (by decide)⟩
        repeat wtm_at "w"
        refine o_mul64 (by omega) (by omega) ?_
        repeat wtm_at "w"
        refine o_mul64 (by decide) (by omega) ?_
        repeat wtm_at "w"
        refine o_mul64 (by decide) (by omega) ?_
        repeat wtm_at "w"
        refine o_mod (by decide) ?_
        generalize hy : (x * x + 75629 * x + 19 * g + 7) % 4294967161 = y
        have b3 : 0 ≤ y ∧ y < 4294967161 := by
          subst hy
          exact ⟨Int.emod_nonneg _ (by decide), Int.emod_lt_of_pos _ (by decide)⟩
        repeat wtm_at "w"
        refine o_mul64 (by omega) (by omega) ?_
        repeat wtm_at "w"
        refine o_mod (by decide) ?_
        repeat wtm_at "w"
        refine o_div64 (by decide) (by decide) ?_
        repeat wtm_at "w"
        refine o_mod h0 ?_
        exact h _ _ (hm _).1 (hm _).2 pen1 fr1 ln1
/-- a pick of a written list -/
theorem q_pick {n : Nat} {b : Int} {l : List D} {s : Sto} {Q : D → Sto → Prop} {E : XT} (p : Pen s n b) (hb : b ≤ 1000000000) (h0 : 0 < l.length) (h1 : l.length < 1000000) (h : ∀ d s', d ∈ l → Pen s' n (b + 1) → Fr n s s' → s'.length = s.length → Q d s') : RP Q E (m__law_pick [.cel n, .lst l] s) := by
  wtm_at "body"
  unfold b__law_pick
  repeat wtm_at "w"
  refine q_draw p hb (by omega) (by omega) fun k s' hk hk1 p' f' e' => ?_
  have hlt : k.toNat < l.length := by omega
  refine o_idxL (k := k.toNat) (d := l[k.toNat]) (by omega) (List.getElem?_eq_getElem hlt) ?_
  exact h _ _ (List.getElem_mem hlt) p' f' e'
theorem q_pen {ns : List Int} {s : Sto} {Q : D → Sto → Prop} {E : XT} (h : ∀ c s', Pen s' s.length 0 → s' = s ++ [some c] → Q (.cel s.length) s') : RP Q E (m__law_pen [.rol (ns.map .int)] s) := by
  wtm_at "body"
  unfold b__law_pen
  repeat wtm_at "w"
  refine w_ok ?_
  repeat wtm_at "w"
  refine o_list rfl ?_
  repeat wtm_at "w"
  refine ⟨by show 3 ≤ 15; decide, ?_⟩
  refine h _ _ ⟨ns.take 63, 0, 0, ?_, by rw [List.length_take]; omega, by decide, by decide, by decide⟩ rfl
  rw [List.getElem?_append_right (Nat.le_refl _), Nat.sub_self]
  show some (some (Ct.dct [(.inr "cells", .lst (cutD (ns.map .int) none (some 63))), (.inr "begun", .int 0), (.inr "left", .int 0)])) = _
  rw [cut_take (by decide), ← List.map_take]
  rfl
end G
set_option Elab.async false
set_option linter.all false
set_option maxRecDepth 100000
set_option maxHeartbeats 4000000
namespace G
open Mp Pl
open PySem (Str sizeLine)
local macro_rules | `(tactic| wtm_at "e") => `(tactic| first
  | with_reducible refine w_set ?_
  | with_reducible refine w_bin ?_
  | ((with_reducible refine w_v (d := ?dv) ?hv ?_); (case hv => exact rfl))
  | with_reducible refine w_c ?_
  | with_reducible refine w_cons ?_
  | with_reducible refine w_nil ?_
  | with_reducible refine w_arg ?_
  | with_reducible refine w_call ?_
  | with_reducible refine w_if ?_
  | with_reducible refine w_ret ?_
  | with_reducible refine w_skip ?_
  | with_reducible refine w_bl ?_
  | with_reducible refine w_tru ?_
  | with_reducible refine w_attr ?_
  | with_reducible refine w_meth ?_
  | with_reducible refine w_chain ?_
  | with_reducible refine w_and ?_
  | with_reducible refine w_or ?_
  | with_reducible refine w_not ?_
  | with_reducible refine w_notT ?_
  | with_reducible refine w_andT ?_
  | with_reducible refine w_orT ?_
  | with_reducible refine w_ifM ?_
  | with_reducible refine w_expr ?_
  | with_reducible refine w_un ?_
  | with_reducible refine w_par2 ?_
  | with_reducible refine w_par3 ?_
  | with_reducible refine w_asg ?_
  | with_reducible refine w_aug ?_
  | with_reducible refine w_sub ?_
  | with_reducible refine w_fld ?_
  | with_reducible refine w_raise ?_
  | with_reducible refine w_raise0 ?_
  | with_reducible refine w_try ?_
  | with_reducible refine w_make ?_
  | with_reducible refine w_tryAs ?_
  | with_reducible refine w_exn ?_
  | ((with_reducible refine o_isx (b := ?bv) ?h1 ?_); (case h1 => exact rfl))
  | with_reducible refine w_superS ?_
  | with_reducible refine w_super ?_
  | with_reducible refine w_star ?_
  | with_reducible refine w_for0 ?_
  | with_reducible refine w_lc0 ?_
  | with_reducible refine w_lc20 ?_
  | with_reducible refine w_seqJ ?_
  | with_reducible refine w_starC ?_
  | with_reducible refine w_spr ?_
  | with_reducible refine w_tryN ?_
  | ((with_reducible refine o_own0 ?hv ?_); (case hv => exact rfl))
  | ((with_reducible refine o_eqO0 ?hv ?_); (case hv => exact rfl))
  | with_reducible refine w_seqI ?_
  | with_reducible refine w_argI ?_
  | with_reducible refine w_opt ?_
  | with_reducible refine w_sli ?_
  | with_reducible refine w_pure ?_
  | with_reducible refine w_disp ?_
  | with_reducible refine w_pairs1 ?_
  | with_reducible refine w_pairs0 ?_
  | with_reducible refine w_retN ?_
  | with_reducible refine w_cnt ?_
  | with_reducible refine w_brk ?_
  | with_reducible refine o_addI ?_
  | with_reducible refine o_addI' ?_
  | with_reducible refine o_sub ?_
  | with_reducible refine o_lt ?_
  | with_reducible refine o_le ?_
  | with_reducible refine o_gt ?_
  | with_reducible refine o_ge ?_
  | with_reducible refine o_eqI ?_
  | with_reducible refine o_neI ?_
  | with_reducible refine o_eqS ?_
  | with_reducible refine o_neS ?_
  | with_reducible refine o_int ?_
  | with_reducible refine o_intB ?_
  | with_reducible refine o_neg ?_
  | with_reducible refine o_abs ?_
  | with_reducible refine o_newL ?_
  | with_reducible refine o_max2 ?_
  | with_reducible refine o_min2 ?_
  | with_reducible refine o_lenL ?_
  | with_reducible refine o_lenT ?_
  | ((with_reducible refine o_tup ?hv ?_); (case hv => first | exact Nat.le_of_ble_eq_true rfl | assumption))
  | ((with_reducible refine o_lst ?hv ?_); (case hv => first | exact Nat.le_of_ble_eq_true rfl | assumption))
  | ((with_reducible refine o_isi (t := ?tv) (b := ?bv) ?h1 ?h2 ?_); (case h1 => exact rfl); (case h2 => exact rfl))
  | ((with_reducible refine o_fld (C := ?cv) (fs := ?fv) (d := ?dv) ?h1 ?h2 ?h3 ?_); (case h1 => exact rfl); (case h2 => exact rfl); (case h3 => exact rfl))
  | ((with_reducible refine Exists.intro ?kv (And.intro ?ha ?_)); (case ha => exact rfl)))
local macro_rules | `(tactic| wtm_at "body") => `(tactic| (refine w_body rfl rfl ?_; dsimp only [List.length_cons, List.length_nil, List.drop, List.append_nil, List.map_cons, List.map_nil, List.map, List.cons_append, List.nil_append, Nat.reduceAdd, Nat.reduceSub, List.replicate]))
local macro_rules | `(tactic| wtm_at "meth") => `(tactic| refine ⟨_, _, _, rfl, rfl, rfl, ?_⟩)
local macro_rules | `(tactic| wtm_at "w") => `(tactic| first | with_reducible refine w_seq ?_ | wtm_at "e")
local macro_rules | `(tactic| wtm_at "s") => `(tactic| ((repeat wtm_at "e"); (with_reducible refine w_seq ?_)))
local macro_rules | `(tactic| wtm_at "f") => `(tactic| ((repeat wtm_at "e"); (with_reducible show FP _ _)))
/-! the law's numbers -/
structure PF (n : Nat) (s s' : Sto) (b : Int) : Prop where
  pen : Pen s' n b
  fr : Fr n s s'
  len : s'.length = s.length
theorem PF.of {n : Nat} {s : Sto} {b : Int} (h : Pen s n b) : PF n s s b := ⟨h, Fr.refl, rfl⟩
theorem PF.go {n : Nat} {s s' s'' : Sto} {b c d : Int} (h : PF n s s' b) (p : Pen s'' n c) (f : Fr n s' s'') (l : s''.length = s'.length) (hd : c ≤ d) : PF n s s'' d := ⟨p.mono hd, h.fr.trans f, l.trans h.len⟩
theorem PF.go' {n : Nat} {s s' s'' : Sto} {b c d : Int} (h : PF n s s' b) (p : PF n s' s'' c) (hd : c ≤ d) : PF n s s'' d := ⟨p.pen.mono hd, h.fr.trans p.fr, p.len.trans h.len⟩
theorem PF.mono {n : Nat} {s s' : Sto} {b c : Int} (h : PF n s s' b) (hb : b ≤ c) : PF n s s' c := ⟨h.pen.mono hb, h.fr, h.len⟩
section
variable {n : Nat} {b : Int} {s : Sto} {Q : D → Sto → Prop} {E : XT}
theorem tenb2 {n : Nat} (h : n ≤ 7000) : ((10 : Int) ^ n).natAbs < 2 ^ 28000 := by
  rw [Int.natAbs_pow]
  refine Nat.lt_of_le_of_lt (Nat.pow_le_pow_right (by decide) h) ?_
  decide +kernel
theorem q_tens {k : Nat} {z : Int} (hz : z = k) (hk : k ≤ 7000) (h : Q (.int (10 ^ k)) s) : RP Q E (m__law_tens [.int z] s) := by
  wtm_at "body"
  unfold b__law_tens
  repeat wtm_at "w"
  refine w_range1 (by omega) (by omega) ?_
  rw [show z.toNat = k by omega]
  refine w_for (fun i r s' => s' = s ∧ ∃ x, r = [some (.int z), some (.int (10 ^ i)), x]) rfl ⟨rfl, _, rfl⟩ ?_ ?_
  · rintro i d r s' hd ⟨rfl, x, rfl⟩
    obtain ⟨hi, rfl⟩ := intL_get hd
    refine ⟨_, rfl, ?_⟩
    repeat wtm_at "w"
    refine o_mul (mulC_of (a := 28000) (b := 28000) (by decide) (tenb2 (by omega)) (by decide) (by decide) (by decide)) ?_
    refine ⟨rfl, some (.int (0 + i)), ?_⟩
    rw [Int.pow_succ, Int.mul_comm]
    rfl
  · rintro r s' ⟨rfl, x, rfl⟩
    rw [intL_len]
    repeat wtm_at "w"
    exact h
theorem q_signed {x : Int} (p : Pen s n b) (hb : b ≤ 1000000000) (h : ∀ (y : Int) s', (y = x ∨ y = -x) → PF n s s' (b + 1) → Q (.int y) s') : RP Q E (m__law_signed [.cel n, .int x] s) := by
  wtm_at "body"
  unfold b__law_signed
  repeat wtm_at "w"
  refine q_draw p hb (by decide) (by decide) fun k s' _ _ p' f' l' => ?_
  repeat wtm_at "w"
  refine ⟨fun _ => ?_, fun _ => ?_⟩
  · repeat wtm_at "w"
    exact h x s' (.inl rfl) ⟨p', f', l'⟩
  · repeat wtm_at "w"
    exact h _ s' (.inr (by omega)) ⟨p', f', l'⟩
theorem q_far (p : Pen s n b) (hb : b + 20 ≤ 1000000000) (h : ∀ (x : Int) s', 0 ≤ x → x < 10 ^ 100 → PF n s s' (b + 13) → Q (.int x) s') : RP Q E (m__law_far [.cel n] s) := by
  wtm_at "body"
  unfold b__law_far
  wtm_at "s"
  repeat wtm_at "e"
  wtm_at "f"
  with_reducible refine w_mid (fun r s' => PF n s s' (b + 11) ∧ ∃ x y, 0 ≤ x ∧ x < 10 ^ 90 ∧ r = [some (.cel n), some (.int x), y]) ?_ ?_
  · repeat wtm_at "e"
    refine q_pick p (by omega) (by decide) (by decide) fun d s1 hd p1 f1 l1 => ?_
    have p1 : PF n s s1 (b + 1) := ⟨p1, f1, l1⟩
    obtain ⟨m, rfl, hm⟩ : ∃ m : Int, d = .int m ∧ (0 ≤ m ∧ m ≤ 10) := by
      simp only [List.mem_cons, List.not_mem_nil, or_false] at hd
      rcases hd with rfl | rfl | rfl | rfl
      · exact ⟨1, rfl, by decide⟩
      · exact ⟨1, rfl, by decide⟩
      · exact ⟨3, rfl, by decide⟩
      · exact ⟨10, rfl, by decide⟩
    repeat wtm_at "e"
    refine w_range1 (by omega) (by omega) ?_
    have pw : ∀ i : Nat, i ≤ 10 → (1000000000 : Int) ^ i ≤ 10 ^ 90 ∧ 1 ≤ (1000000000 : Int) ^ i := by
      intro i hi
      have : ∀ i : Fin 11, (1000000000 : Int) ^ i.val ≤ 10 ^ 90 ∧ 1 ≤ (1000000000 : Int) ^ i.val := by decide +kernel
      exact this ⟨i, by omega⟩
    have big : (10 ^ 90 : Int) < 2 ^ 300 := by decide +kernel
    refine w_for (fun i r s' => PF n s s' (b + 1 + i) ∧ ∃ x y, 0 ≤ x ∧ x < 1000000000 ^ i ∧ r = [some (.cel n), some (.int x), y]) rfl ⟨p1.mono (by omega), 0, _, by decide, by decide, rfl⟩ ?_ ?_
    · rintro i d r s' hd ⟨pp, x, y, hx0, hx1, rfl⟩
      obtain ⟨hi, rfl⟩ := intL_get hd
      have hi10 : i < 10 := by omega
      have q1 := pw i (by omega)
      refine ⟨_, rfl, ?_⟩
      repeat wtm_at "e"
      refine o_powV (v := 1000000000) (by decide) (by decide) (by decide) (by decide) ?_
      refine o_mul (mulC_of (a := 300) (b := 300) (by omega) (by decide) (by decide) (by decide) (by decide)) ?_
      repeat wtm_at "e"
      refine o_powV (v := 1000000000) (by decide) (by decide) (by decide) (by decide) ?_
      repeat wtm_at "e"
      refine q_draw pp.pen (by omega) (by decide) (by decide) fun k s2 hk0 hk1 p2 f2 l2 => ?_
      repeat wtm_at "e"
      refine ⟨pp.go p2 f2 l2 (by omega), x * 1000000000 + k, some (.int (0 + i)), by omega, ?_, rfl⟩
      rw [Int.pow_succ]
      omega
    · rintro r s' ⟨pp, x, y, hx0, hx1, rfl⟩
      rw [intL_len] at hx1 pp
      have := (pw m.toNat (by omega)).1
      exact ⟨pp.mono (by omega), x, y, hx0, by omega, rfl⟩
  · rintro r s1 ⟨pp, x, y, hx0, hx1, rfl⟩
    have c1 : (10 ^ 90 : Int) < 10 ^ 100 := by decide +kernel
    have c2 : (10 : Int) < 10 ^ 100 := by decide +kernel
    repeat wtm_at "e"
    refine q_tens (k := 100) rfl (by decide) ?_
    repeat wtm_at "e"
    refine q_draw pp.pen (by omega) (by decide) (by decide) fun k s2 hk0 hk1 p2 f2 l2 => ?_
    have p2 : PF n s s2 (b + 12) := pp.go p2 f2 l2 (by omega)
    repeat wtm_at "e"
    refine q_pick p2.pen (by omega) (by show 0 < 4; decide) (by show 4 < 1000000; decide) fun d s3 hd p3 f3 l3 => ?_
    have p3 : PF n s s3 (b + 13) := p2.go p3 f3 l3 (by omega)
    simp only [List.mem_cons, List.not_mem_nil, or_false] at hd
    rcases hd with rfl | rfl | rfl | rfl
    · exact h _ _ hx0 (by omega) p3
    · exact h _ _ hx0 (by omega) p3
    · exact h _ _ hx0 (by omega) p3
    · exact h _ _ (by omega) (by omega) p3
theorem q_lgcd {a b : Int} (h : Q (.int (Int.gcd a b : Nat)) s) : RP Q E (m__law_gcd [.int a, .int b] s) := by
  wtm_at "body"
  unfold b__law_gcd
  wtm_at "s"
  refine w_while (fun n r s' => s' = s ∧ ∃ x y, r = [some (.int x), some (.int y)] ∧ y.natAbs = n ∧ Int.gcd x y = Int.gcd a b) ?_ b.natAbs _ _ ⟨rfl, a, b, rfl, rfl, rfl⟩
  rintro n r s' ⟨rfl, x, y, rfl, hn, he⟩
  repeat wtm_at "e"
  refine ⟨fun hk => ?_, fun hk => ?_⟩
  · have hk : y ≠ 0 := by simpa using hk
    repeat wtm_at "e"
    by_cases h0 : 0 < y
    · refine o_mod h0 ?_
      repeat wtm_at "e"
      refine ⟨_, _, rfl, ?_⟩
      have h1 := Int.emod_nonneg x hk
      have h2 := Int.emod_lt_of_pos x h0
      exact ⟨_, by omega, rfl, y, x % y, rfl, rfl, by rw [gcd_emod]; exact he⟩
    · refine o_modN (by omega) ?_
      repeat wtm_at "e"
      refine ⟨_, _, rfl, ?_⟩
      have h2 := fmod_lt (a := x) (b := y) (by omega)
      exact ⟨_, by omega, rfl, y, x.fmod y, rfl, rfl, by rw [gcd_fmod]; exact he⟩
  · have hk : y = 0 := by simpa using hk
    subst hk
    repeat wtm_at "e"
    rw [gcd_end he]
    exact h
theorem q_told {t b : Int} (hb : b ≠ 0) (hl : b.natAbs < 2 ^ 8000) (h : Q (qD (Rat.divInt t b)) s) : RP Q E (m__law_told [.int t, .int b] s) := by
  have hd := dv_ne (t := t) hb
  have hlog := dv_log (t := t) hb hl
  rw [frac_end hb] at h
  wtm_at "body"
  unfold b__law_told
  wtm_at "f"
  with_reducible refine w_mid (fun r s' => s' = s ∧ r = [some (.int t), some (.int b), some (.int (dv t b))]) ?_ ?_
  · repeat wtm_at "e"
    refine ⟨fun h0 => ?_, fun h0 => ?_⟩
    · repeat wtm_at "e"
      refine q_lgcd ?_
      have e : dv t b = (Int.gcd t b : Nat) := if_pos (of_decide_eq_true h0)
      rw [e]
      exact ⟨rfl, rfl⟩
    · repeat wtm_at "e"
      refine q_lgcd ?_
      repeat wtm_at "e"
      have e : dv t b = 0 - ((Int.gcd t b : Nat) : Int) := by
        have e2 : dv t b = -((Int.gcd t b : Nat) : Int) := if_neg (of_decide_eq_false h0)
        omega
      rw [e]
      exact ⟨rfl, rfl⟩
  · rintro r s' ⟨rfl, rfl⟩
    repeat wtm_at "e"
    refine ⟨fun h1 => ?_, fun h1 => ?_⟩
    · rw [if_pos (of_decide_eq_true h1)] at h
      repeat wtm_at "e"
      exact o_divE dv_t hd hlog h
    · rw [if_neg (of_decide_eq_false h1)] at h
      repeat wtm_at "e"
      refine o_divE dv_t hd hlog ?_
      repeat wtm_at "e"
      refine o_divE dv_b hd hlog ?_
      repeat wtm_at "e"
      exact h
/-- a drawn fraction: t / b -/
theorem short_of {t b : Int} (hb : 0 < b) (ht : t.natAbs < 10 ^ 100) (hb2 : b < 10 ^ 100) : Short (Rat.divInt t b) := by
  have h := divInt_sz (t := t) (b := b) (by omega)
  exact ⟨by omega, by omega⟩
theorem sz_of {t b : Int} (hb : 0 < b) (ht : t.natAbs < 2 ^ 31) (hb2 : b < 2 ^ 31) : Sz 31 (Rat.divInt t b) := by
  have h := divInt_sz (t := t) (b := b) (by omega)
  exact ⟨by omega, by omega⟩
theorem q_any_numberF {k : Bool} (hp : Pen s n b) (hb : b + 60 ≤ 1000000000) (h : ∀ (q : Rat) s', Short q → (k = true → Sz 31 q) → PF n s s' (b + 36) → Q (qD q) s') : RP Q E (m__law_any_number [.cel n, .int 0, .bl k] s) := by
  have c2 : (10000000000 : Int) < 10 ^ 100 := by decide +kernel
  have c3 : (10 ^ 100 : Int) < 2 ^ 400 := by decide +kernel
  have c4 : (2 : Nat) ^ 400 < 2 ^ 8000 := Nat.pow_lt_pow_right (by decide) (by decide)
  wtm_at "body"
  unfold b__law_any_number
  wtm_at "s"
  repeat wtm_at "e"
  refine ⟨fun z => absurd (of_decide_eq_true z) (by decide), fun _ => ?_⟩
  wtm_at "f"
  with_reducible refine w_mid (fun r s' => PF n s s' (b + 4) ∧ ∃ t : Int, t.natAbs < 2 ^ 31 ∧ r = [some (.cel n), some (.int 0), some (.bl k), some (.int t), none]) ?_ ?_
  · repeat wtm_at "e"
    refine q_draw hp (by omega) (by decide) (by decide) fun x s1 hx0 hx1 p1 f1 l1 => ?_
    repeat wtm_at "e"
    refine o_powV (v := 1000000000) (by decide) (by decide) (by decide) (by decide) ?_
    repeat wtm_at "e"
    refine q_draw p1 (by omega) (by decide) (by decide) fun y s2 hy0 hy1 p2 f2 l2 => ?_
    repeat wtm_at "e"
    refine q_pick p2 (by omega) (by show 0 < 4; decide) (by show 4 < 1000000; decide) fun d s3 hd p3 f3 l3 => ?_
    obtain ⟨t, rfl, ht⟩ : ∃ t : Int, d = .int t ∧ t.natAbs < 2 ^ 31 := by
      simp only [List.mem_cons, List.not_mem_nil, or_false] at hd
      rcases hd with rfl | rfl | rfl | rfl
      · exact ⟨0, rfl, by decide⟩
      · exact ⟨1, rfl, by decide⟩
      · exact ⟨x, rfl, by omega⟩
      · exact ⟨y, rfl, by omega⟩
    repeat wtm_at "e"
    refine q_signed p3 (by omega) fun t' s4 ht' p4 => ?_
    have pf : PF n s s4 (b + 4) := ((((⟨p1, f1, l1⟩ : PF n s s1 (b + 1)).go p2 f2 l2 (Int.le_refl _)).go p3 f3 l3 (Int.le_refl _)).go' p4 (by omega))
    exact ⟨pf, t', by rcases ht' with rfl | rfl <;> omega, rfl⟩
  · rintro r s4 ⟨pf, t, ht, rfl⟩
    wtm_at "f"
    with_reducible refine w_mid (fun r s' => PF n s s' (b + 7) ∧ ∃ m : Int, 0 < m ∧ m < 2 ^ 31 ∧ r = [some (.cel n), some (.int 0), some (.bl k), some (.int t), some (.int m)]) ?_ ?_
    · repeat wtm_at "e"
      refine q_draw pf.pen (by omega) (by decide) (by decide) fun x s1 hx0 hx1 p1 f1 l1 => ?_
      repeat wtm_at "e"
      refine o_powV (v := 1000000000) (by decide) (by decide) (by decide) (by decide) ?_
      repeat wtm_at "e"
      refine q_draw p1 (by omega) (by decide) (by decide) fun y s2 hy0 hy1 p2 f2 l2 => ?_
      repeat wtm_at "e"
      refine q_pick p2 (by omega) (by show 0 < 4; decide) (by show 4 < 1000000; decide) fun d s3 hd p3 f3 l3 => ?_
      obtain ⟨m, rfl, hm0, hm1⟩ : ∃ m : Int, d = .int m ∧ 0 < m ∧ m < 2 ^ 31 := by
        simp only [List.mem_cons, List.not_mem_nil, or_false] at hd
        rcases hd with rfl | rfl | rfl | rfl
        · exact ⟨1, rfl, by decide, by decide⟩
        · exact ⟨1, rfl, by decide, by decide⟩
        · exact ⟨1 + x, rfl, by omega, by omega⟩
        · exact ⟨1 + y, rfl, by omega, by omega⟩
      exact ⟨((pf.go p1 f1 l1 (Int.le_refl _)).go p2 f2 l2 (Int.le_refl _)).go p3 f3 l3 (by omega), m, hm0, hm1, rfl⟩
    · rintro r s5 ⟨pf, m, hm0, hm1, rfl⟩
      wtm_at "f"
      with_reducible refine w_mid (fun r s' => PF n s s' (b + 36) ∧ ∃ t m : Int, t.natAbs < 10 ^ 100 ∧ 0 < m ∧ m < 10 ^ 100 ∧ (k = true → t.natAbs < 2 ^ 31 ∧ m < 2 ^ 31) ∧ r = [some (.cel n), some (.int 0), some (.bl k), some (.int t), some (.int m)]) ?_ ?_
      · repeat wtm_at "e"
        refine ⟨fun hk => ?_, fun hk => ?_⟩
        · have hk : k = false := by simpa using hk
          repeat wtm_at "e"
          refine q_draw pf.pen (by omega) (by decide) (by decide) fun x s1 hx0 hx1 p1 f1 l1 => ?_
          have pf1 : PF n s s1 (b + 8) := pf.go p1 f1 l1 (by omega)
          repeat wtm_at "e"
          refine ⟨fun _ => ?_, fun _ => ?_⟩
          · repeat wtm_at "e"
            refine q_far pf1.pen (by omega) fun u s2 hu0 hu1 p2 => ?_
            repeat wtm_at "e"
            refine q_signed p2.pen (by omega) fun u' s3 hu' p3 => ?_
            repeat wtm_at "e"
            refine q_far p3.pen (by omega) fun v s4 hv0 hv1 p4 => ?_
            repeat wtm_at "e"
            refine q_pick p4.pen (by omega) (by show 0 < 3; decide) (by show 3 < 1000000; decide) fun d s5 hd p5 f5 l5 => ?_
            obtain ⟨m', rfl, hm0', hm1'⟩ : ∃ m : Int, d = .int m ∧ 0 < m ∧ m < 10 ^ 100 := by
              simp only [List.mem_cons, List.not_mem_nil, or_false] at hd
              rcases hd with rfl | rfl | rfl
              · exact ⟨1, rfl, by decide, by omega⟩
              · exact ⟨2, rfl, by decide, by omega⟩
              · exact ⟨_, rfl, by split <;> omega, by split <;> omega⟩
            repeat wtm_at "e"
            refine ⟨_, _, rfl, ?_⟩
            exact ⟨(((pf1.go' p2 (Int.le_refl _)).go' p3 (Int.le_refl _)).go' p4 (Int.le_refl _)).go p5 f5 l5 (by omega), u', m', by rcases hu' with rfl | rfl <;> omega, hm0', hm1', fun z => (by rw [hk] at z; cases z), rfl⟩
          · repeat wtm_at "e"
            exact ⟨pf1.mono (by omega), t, m, by omega, hm0, by omega, fun _ => ⟨ht, hm1⟩, rfl⟩
        · refine ⟨fun z => (by cases z), fun _ => ?_⟩
          repeat wtm_at "e"
          exact ⟨pf.mono (by omega), t, m, by omega, hm0, by omega, fun _ => ⟨ht, hm1⟩, rfl⟩
      · rintro r s6 ⟨pf, t, m, ht, hm0, hm1, hk, rfl⟩
        repeat wtm_at "e"
        refine q_told (by omega) (by omega) ?_
        exact h _ _ (short_of hm0 ht hm1) (fun z => sz_of hm0 (hk z).1 (hk z).2) pf
theorem q_newF (h : Q fF (s ++ [none])) : RP (fun v s2 => v = .non ∧ RP Q E (freezeI false s.length s2)) E (m_Fractions___init__ [.cel s.length] (s ++ [some (.ins "Fractions" [])])) := by
  have hs : (s ++ [some (Ct.ins "Fractions" [])])[s.length]? = some (some (.ins "Fractions" [])) := by simp
  have hi : insOf (s ++ [some (Ct.ins "Fractions" [])]) (.cel s.length) = some (("Fractions" : Str), []) := by
    unfold insOf
    dsimp only
    rw [hs]
  wtm_at "body"
  unfold b_Fractions___init__
  repeat wtm_at "w"
  refine ⟨_, _, _, hi, rfl, ?_⟩
  repeat wtm_at "w"
  refine w_body rfl rfl ?_
  unfold b_Field___init__
  repeat wtm_at "w"
  refine ⟨_, _, _, rfl, hs, by decide, by decide, ?_⟩
  repeat wtm_at "w"
  refine ⟨rfl, w_freeze (C := "Fractions") (fs := [("own_prime", .non)]) ?_ ?_⟩
  · rw [List.getElem?_set_self (by simp)]
    rfl
  · rw [List.set_set]
    have e : (s ++ [some (Ct.ins "Fractions" [])]).set s.length none = s ++ [none] := by simp
    rw [e]
    exact h
end
section
variable {n : Nat} {b : Int} {s : Sto} {Q : D → Sto → Prop} {E : XT}
/-- the primes that are drawn -/
theorem of_primes {d : D} (h : d ∈ [D.int 2, .int 2, .int 3, .int 3, .int 5, .int 7, .int 101, .int 1000003]) : ∃ p : Nat, d = .int p ∧ Pr p ∧ PrimeOk p := by
  simp only [List.mem_cons, List.not_mem_nil, or_false] at h
  rcases h with rfl | rfl | rfl | rfl | rfl | rfl | rfl | rfl
  · exact ⟨2, rfl, pr2, pk2⟩
  · exact ⟨2, rfl, pr2, pk2⟩
  · exact ⟨3, rfl, pr3, pk3⟩
  · exact ⟨3, rfl, pr3, pk3⟩
  · exact ⟨5, rfl, pr5, pk5⟩
  · exact ⟨7, rfl, pr7, pk7⟩
  · exact ⟨101, rfl, pr101, pk101⟩
  · exact ⟨1000003, rfl, prBig, pkBig⟩
theorem q_primeP (p : Pen s n b) (hb : b ≤ 1000000000) (h : ∀ (p : Nat) s', Pr p → PrimeOk p → PF n s s' (b + 1) → Q (.int p) s') : RP Q E (m__law_prime [.cel n] s) := by
  wtm_at "body"
  unfold b__law_prime
  repeat wtm_at "w"
  refine q_pick p hb (by decide) (by decide) fun d s' hd p' f' l' => ?_
  obtain ⟨q, rfl, h1, h2⟩ := of_primes hd
  exact h q s' h1 h2 ⟨p', f', l'⟩
theorem q_numberP {p : Int} (hp : Pen s n b) (hb : b + 1 ≤ 1000000000) (h2 : 2 ≤ p) (h3 : p ≤ 1000000000) (h : ∀ (k : Int) s', 0 ≤ k → k < p → PF n s s' (b + 2) → Q (.int k) s') : RP Q E (m__law_number [.cel n, .int p] s) := by
  wtm_at "body"
  unfold b__law_number
  repeat wtm_at "w"
  refine q_draw hp (by omega) (by omega) (by omega) fun k s' hk0 hk1 p' f1 l1 => ?_
  repeat wtm_at "w"
  refine q_pick p' (by omega) (by show 0 < 5; decide) (by show 5 < 1000000; decide) fun d s2 hd p2 f2 l2 => ?_
  have p2 : PF n s s2 (b + 2) := (PF.of hp).go' (⟨p', f1, l1⟩ : PF n s s' (b + 1)) (Int.le_refl _) |>.go p2 f2 l2 (by omega)
  simp only [List.mem_cons, List.not_mem_nil, or_false] at hd
  rcases hd with rfl | rfl | rfl | rfl | rfl
  · exact h _ _ (by omega) (by omega) p2
  · exact h _ _ (by omega) (by omega) p2
  · exact h _ _ (by omega) (by omega) p2
  · exact h _ _ (by omega) (by omega) p2
  · exact h _ _ hk0 hk1 p2
theorem q_any_prime (p : Pen s n b) (hb : b + 1 ≤ 1000000000) (h : ∀ (P : Int) s', (P = 0 ∨ ∃ p : Nat, P = p ∧ Pr p ∧ PrimeOk P) → PF n s s' (b + 2) → Q (.int P) s') : RP Q E (m__law_any_prime [.cel n] s) := by
  wtm_at "body"
  unfold b__law_any_prime
  repeat wtm_at "w"
  refine q_primeP p (by omega) fun t s1 pr pk p1 => ?_
  repeat wtm_at "w"
  refine q_pick p1.pen (by omega) (by show 0 < 2; decide) (by show 2 < 1000000; decide) fun d s2 hd p2 f2 l2 => ?_
  have p2 : PF n s s2 (b + 2) := p1.go p2 f2 l2 (by omega)
  simp only [List.mem_cons, List.not_mem_nil, or_false] at hd
  rcases hd with rfl | rfl
  · exact h _ _ (.inl rfl) p2
  · exact h _ _ (.inr ⟨t, rfl, pr, pk⟩) p2
theorem q_any_numberM {p : Int} {k : Bool} (hp : Pen s n b) (hb : b + 1 ≤ 1000000000) (h2 : 2 ≤ p) (h3 : p ≤ 1000000000) (h : ∀ (v : Int) s', 0 ≤ v → v < p → PF n s s' (b + 36) → Q (.int v) s') : RP Q E (m__law_any_number [.cel n, .int p, .bl k] s) := by
  wtm_at "body"
  unfold b__law_any_number
  wtm_at "s"
  repeat wtm_at "e"
  refine ⟨fun _ => ?_, fun z => absurd (of_decide_eq_false z) (by omega)⟩
  repeat wtm_at "e"
  exact q_numberP hp hb h2 h3 fun v s' h0 h1 pf => h v s' h0 h1 (pf.mono (by omega))
/-- what a prime, or 0, stands for -/
inductive Kd : Int → D → Prop
  | fr : Kd 0 fF
  | md {p : Nat} : Pr p → PrimeOk p → Kd p (fM p)
theorem q_made_field {P : Int} (hP : P = 0 ∨ ∃ p : Nat, P = p ∧ Pr p ∧ PrimeOk P) (h : ∀ f, Kd P f → Q f (s ++ [none])) : RP Q E (m__law_made_field [.int P] s) := by
  wtm_at "body"
  unfold b__law_made_field
  repeat wtm_at "w"
  refine ⟨fun z => ?_, fun z => ?_⟩
  · have z := of_decide_eq_true z
    subst z
    repeat wtm_at "w"
    exact q_newF (h fF .fr)
  · have z := of_decide_eq_false z
    obtain ⟨p, rfl, pr, pk⟩ := hP.resolve_left z
    repeat wtm_at "w"
    exact q_newM pk (h _ (.md pr pk))
end
end G
set_option Elab.async false
set_option linter.all false
set_option maxRecDepth 100000
set_option maxHeartbeats 4000000
namespace G
open Mp Pl
open PySem (Str sizeLine)
local macro_rules | `(tactic| wtm_at "e") => `(tactic| first
  | with_reducible refine w_set ?_
  | with_reducible refine w_bin ?_
  | ((with_reducible refine w_v (d := ?dv) ?hv ?_); (case hv => exact rfl))
  | with_reducible refine w_c ?_
  | with_reducible refine w_cons ?_
  | with_reducible refine w_nil ?_
  | with_reducible refine w_arg ?_
  | with_reducible refine w_call ?_
  | with_reducible refine w_if ?_
  | with_reducible refine w_ret ?_
  | with_reducible refine w_skip ?_
  | with_reducible refine w_bl ?_
  | with_reducible refine w_tru ?_
  | with_reducible refine w_attr ?_
  | with_reducible refine w_meth ?_
  | with_reducible refine w_chain ?_
  | with_reducible refine w_and ?_
  | with_reducible refine w_or ?_
  | with_reducible refine w_not ?_
  | with_reducible refine w_notT ?_
  | with_reducible refine w_andT ?_
  | with_reducible refine w_orT ?_
  | with_reducible refine w_ifM ?_
  | with_reducible refine w_expr ?_
  | with_reducible refine w_un ?_
  | with_reducible refine w_par2 ?_
  | with_reducible refine w_par3 ?_
  | with_reducible refine w_asg ?_
  | with_reducible refine w_aug ?_
  | with_reducible refine w_sub ?_
  | with_reducible refine w_fld ?_
  | with_reducible refine w_raise ?_
  | with_reducible refine w_raise0 ?_
  | with_reducible refine w_try ?_
  | with_reducible refine w_make ?_
  | with_reducible refine w_tryAs ?_
  | with_reducible refine w_exn ?_
  | ((with_reducible refine o_isx (b := ?bv) ?h1 ?_); (case h1 => exact rfl))
  | with_reducible refine w_superS ?_
  | with_reducible refine w_super ?_
  | with_reducible refine w_star ?_
  | with_reducible refine w_for0 ?_
  | with_reducible refine w_lc0 ?_
  | with_reducible refine w_lc20 ?_
  | with_reducible refine w_seqJ ?_
  | with_reducible refine w_starC ?_
  | with_reducible refine w_spr ?_
  | with_reducible refine w_tryN ?_
  | ((with_reducible refine o_own0 ?hv ?_); (case hv => exact rfl))
  | ((with_reducible refine o_eqO0 ?hv ?_); (case hv => exact rfl))
  | with_reducible refine w_seqI ?_
  | with_reducible refine w_argI ?_
  | with_reducible refine w_opt ?_
  | with_reducible refine w_sli ?_
  | with_reducible refine w_pure ?_
  | with_reducible refine w_disp ?_
  | with_reducible refine w_pairs1 ?_
  | with_reducible refine w_pairs0 ?_
  | with_reducible refine w_retN ?_
  | with_reducible refine w_cnt ?_
  | with_reducible refine w_brk ?_
  | with_reducible refine o_addI ?_
  | with_reducible refine o_addI' ?_
  | with_reducible refine o_sub ?_
  | with_reducible refine o_lt ?_
  | with_reducible refine o_le ?_
  | with_reducible refine o_gt ?_
  | with_reducible refine o_ge ?_
  | with_reducible refine o_eqI ?_
  | with_reducible refine o_neI ?_
  | with_reducible refine o_eqS ?_
  | with_reducible refine o_neS ?_
  | with_reducible refine o_int ?_
  | with_reducible refine o_intB ?_
  | with_reducible refine o_neg ?_
  | with_reducible refine o_abs ?_
  | with_reducible refine o_newL ?_
  | with_reducible refine o_max2 ?_
  | with_reducible refine o_min2 ?_
  | with_reducible refine o_lenL ?_
  | with_reducible refine o_lenT ?_
  | ((with_reducible refine o_tup ?hv ?_); (case hv => first | exact Nat.le_of_ble_eq_true rfl | assumption))
  | ((with_reducible refine o_lst ?hv ?_); (case hv => first | exact Nat.le_of_ble_eq_true rfl | assumption))
  | ((with_reducible refine o_isi (t := ?tv) (b := ?bv) ?h1 ?h2 ?_); (case h1 => exact rfl); (case h2 => exact rfl))
  | ((with_reducible refine o_fld (C := ?cv) (fs := ?fv) (d := ?dv) ?h1 ?h2 ?h3 ?_); (case h1 => exact rfl); (case h2 => exact rfl); (case h3 => exact rfl))
  | ((with_reducible refine Exists.intro ?kv (And.intro ?ha ?_)); (case ha => exact rfl)))
local macro_rules | `(tactic| wtm_at "body") => `(tactic| (refine w_body rfl rfl ?_; dsimp only [List.length_cons, List.length_nil, List.drop, List.append_nil, List.map_cons, List.map_nil, List.map, List.cons_append, List.nil_append, Nat.reduceAdd, Nat.reduceSub, List.replicate]))
local macro_rules | `(tactic| wtm_at "meth") => `(tactic| refine ⟨_, _, _, rfl, rfl, rfl, ?_⟩)
local macro_rules | `(tactic| wtm_at "w") => `(tactic| first | with_reducible refine w_seq ?_ | wtm_at "e")
local macro_rules | `(tactic| wtm_at "s") => `(tactic| ((repeat wtm_at "e"); (with_reducible refine w_seq ?_)))
local macro_rules | `(tactic| wtm_at "f") => `(tactic| ((repeat wtm_at "e"); (with_reducible show FP _ _)))
/-! values of any kind -/
def bigI : Int := 10 ^ 50 * 10 ^ 50 * 10 ^ 9
def oddA : List D := [.non, .bl true, .bl false, .int 0, .int 1, .int (-1), .int 2, .int 7, .int 160, .int 161, .int (10 ^ 30), .str "", .str "a", .str "b", .str "ab", .str "ba", .int bigI, .int (0 - bigI), .str "A", .str "0", .str "1", .str "1/2", .str "fractions", .str "modulo 7", .str "a b", .str " ", .str "aa", .str "abcde"]
def oddB : List D := [.tup [], .lst [], .tup [.str "a"], .lst [.str "a"], .lst [.int 1], .tup [.int 1, .int 2], .tup [.int 2, .int 4], .tup [.int 0, .int 2], .tup [.int 1, .int 1], .tup [.int 1, .int 0], .tup [.int 1, .int (-2)], .tup [.bl true, .int 2], .lst [.int 1, .int 2], .tup [.int 1, .int 2, .int 3]]
/-- flat; a tuple, a list of flat ones; a dict -/
def Odd (s : Sto) (d : D) : Prop := d ∈ oddA ∨ d ∈ oddB ∨ ∃ k, d = .cel k ∧ (s[k]? = some (some (.dct [])) ∨ s[k]? = some (some (.dct [(.inr "a", .int 1)])))
theorem q_odd {n : Nat} {b : Int} {s : Sto} {Q : D → Sto → Prop} {E : XT} (p : Pen s n b) (hb : b ≤ 1000000000) (h : ∀ d s', Odd s' d → Pen s' n (b + 1) → Fr n s s' → s'.length = s.length + 2 → Q d s') : RP Q E (m__law_odd [.cel n] s) := by
  have hp : n < s.length := p.lt
  have z : ∀ {a b : Nat}, a + b ≤ 100 → a + b ≤ sizeLine := fun h => Nat.le_trans h (by decide)
  wtm_at "body"
  unfold b__law_odd
  wtm_at "s"
  repeat wtm_at "e"
  refine o_powV (v := 10 ^ 30) (by decide) (by decide) (by decide) rfl ?_
  repeat wtm_at "e"
  wtm_at "s"
  repeat wtm_at "e"
  refine o_powV (v := 10 ^ 50) (by decide) (by decide) (by decide) rfl ?_
  repeat wtm_at "e"
  refine o_powV (v := 10 ^ 50) (by decide) (by decide) (by decide) rfl ?_
  refine o_mul (mulC_of (a := 400) (b := 400) (by decide +kernel) (by decide +kernel) (by decide) (by decide) (by decide)) ?_
  repeat wtm_at "e"
  refine o_powV (v := 10 ^ 9) (by decide) (by decide) (by decide) rfl ?_
  refine o_mul (mulC_of (a := 400) (b := 400) (by decide +kernel) (by decide +kernel) (by decide) (by decide) (by decide)) ?_
  repeat wtm_at "e"
  refine o_powV (v := 10 ^ 50) (by decide) (by decide) (by decide) rfl ?_
  repeat wtm_at "e"
  refine o_powV (v := 10 ^ 50) (by decide) (by decide) (by decide) rfl ?_
  refine o_mul (mulC_of (a := 400) (b := 400) (by decide +kernel) (by decide +kernel) (by decide) (by decide) (by decide)) ?_
  repeat wtm_at "e"
  refine o_powV (v := 10 ^ 9) (by decide) (by decide) (by decide) rfl ?_
  refine o_mul (mulC_of (a := 400) (b := 400) (by decide +kernel) (by decide +kernel) (by decide) (by decide) (by decide)) ?_
  repeat wtm_at "e"
  refine o_addL (z (by show 16 + 2 ≤ 100; decide)) ?_
  wtm_at "s"
  repeat wtm_at "e"
  refine w_ok (s := s ++ [some (.dct [])]) ?_
  repeat wtm_at "e"
  refine o_addL (z (by show 18 + 15 ≤ 100; decide)) ?_
  wtm_at "s"
  repeat wtm_at "e"
  refine ⟨by show 1 ≤ 15; decide, ?_⟩
  repeat wtm_at "e"
  refine o_addL (z (by show 33 + 11 ≤ 100; decide)) ?_
  repeat wtm_at "e"
  have pen2 := (p.app (some (.dct []))).app (some (.dct [(.inr "a", .int 1)]))
  refine q_pick pen2 hb (by show 0 < 44; decide) (by show 44 < 1000000; decide) fun d s' hd p' f' l' => ?_
  have f' : Fr n (s ++ [some (Ct.dct [])] ++ [some (Ct.dct [(.inr "a", .int 1)])]) s' := f'
  have l2 : s'.length = s.length + 2 := by
    rw [l']
    simp
  have f2 : Fr n s s' := ⟨by omega, fun i hi ne => (f'.2 i (by simp; omega) ne).trans (by
    rw [List.getElem?_append_left (by simp; omega), List.getElem?_append_left hi])⟩
  have c1 : s'[s.length]? = some (some (.dct [])) := (f'.2 s.length (by simp) (by omega)).trans (by simp)
  have c2 : s'[s.length + 1]? = some (some (.dct [(.inr "a", .int 1)])) := (f'.2 (s.length + 1) (by simp) (by omega)).trans (by rw [List.getElem?_append_right (by simp)]; simp)
  refine h d s' ?_ p' f2 l2
  have hd : d ∈ (([D.non, .bl true, .bl false, .int 0, .int 1, .int (-1), .int 2, .int 7, .int 160, .int 161, .int (10 ^ 30), .str "", .str "a", .str "b", .str "ab", .str "ba"] ++ [D.int bigI, .int (0 - bigI)]) ++ [D.str "A", .str "0", .str "1", .str "1/2", .str "fractions", .str "modulo 7", .str "a b", .str " ", .str "aa", .str "abcde", .tup [], .lst [], .cel s.length, .tup [.str "a"], .lst [.str "a"]]) ++ [D.lst [.int 1], .tup [.int 1, .int 2], .tup [.int 2, .int 4], .tup [.int 0, .int 2], .tup [.int 1, .int 1], .tup [.int 1, .int 0], .tup [.int 1, .int (-2)], .tup [.bl true, .int 2], .lst [.int 1, .int 2], .tup [.int 1, .int 2, .int 3], .cel (s ++ [some (Ct.dct [])]).length] := hd
  have e2 : (s ++ [some (Ct.dct [])]).length = s.length + 1 := by simp
  rw [e2] at hd
  simp only [List.mem_append, List.mem_cons, List.not_mem_nil, or_false] at hd
  rcases hd with (((hd | hd) | hd) | hd)
  · rcases hd with rfl | rfl | rfl | rfl | rfl | rfl | rfl | rfl | rfl | rfl | rfl | rfl | rfl | rfl | rfl | rfl
    · exact .inl (List.mem_of_getElem? (i := 0) rfl)
    · exact .inl (List.mem_of_getElem? (i := 1) rfl)
    · exact .inl (List.mem_of_getElem? (i := 2) rfl)
    · exact .inl (List.mem_of_getElem? (i := 3) rfl)
    · exact .inl (List.mem_of_getElem? (i := 4) rfl)
    · exact .inl (List.mem_of_getElem? (i := 5) rfl)
    · exact .inl (List.mem_of_getElem? (i := 6) rfl)
    · exact .inl (List.mem_of_getElem? (i := 7) rfl)
    · exact .inl (List.mem_of_getElem? (i := 8) rfl)
    · exact .inl (List.mem_of_getElem? (i := 9) rfl)
    · exact .inl (List.mem_of_getElem? (i := 10) rfl)
    · exact .inl (List.mem_of_getElem? (i := 11) rfl)
    · exact .inl (List.mem_of_getElem? (i := 12) rfl)
    · exact .inl (List.mem_of_getElem? (i := 13) rfl)
    · exact .inl (List.mem_of_getElem? (i := 14) rfl)
    · exact .inl (List.mem_of_getElem? (i := 15) rfl)
  · rcases hd with rfl | rfl
    · exact .inl (List.mem_of_getElem? (i := 16) rfl)
    · exact .inl (List.mem_of_getElem? (i := 17) rfl)
  · rcases hd with rfl | rfl | rfl | rfl | rfl | rfl | rfl | rfl | rfl | rfl | rfl | rfl | rfl | rfl | rfl
    · exact .inl (List.mem_of_getElem? (i := 18) rfl)
    · exact .inl (List.mem_of_getElem? (i := 19) rfl)
    · exact .inl (List.mem_of_getElem? (i := 20) rfl)
    · exact .inl (List.mem_of_getElem? (i := 21) rfl)
    · exact .inl (List.mem_of_getElem? (i := 22) rfl)
    · exact .inl (List.mem_of_getElem? (i := 23) rfl)
    · exact .inl (List.mem_of_getElem? (i := 24) rfl)
    · exact .inl (List.mem_of_getElem? (i := 25) rfl)
    · exact .inl (List.mem_of_getElem? (i := 26) rfl)
    · exact .inl (List.mem_of_getElem? (i := 27) rfl)
    · exact .inr (.inl (List.mem_of_getElem? (i := 0) rfl))
    · exact .inr (.inl (List.mem_of_getElem? (i := 1) rfl))
    · exact .inr (.inr ⟨_, rfl, .inl c1⟩)
    · exact .inr (.inl (List.mem_of_getElem? (i := 2) rfl))
    · exact .inr (.inl (List.mem_of_getElem? (i := 3) rfl))
  · rcases hd with rfl | rfl | rfl | rfl | rfl | rfl | rfl | rfl | rfl | rfl | rfl
    · exact .inr (.inl (List.mem_of_getElem? (i := 4) rfl))
    · exact .inr (.inl (List.mem_of_getElem? (i := 5) rfl))
    · exact .inr (.inl (List.mem_of_getElem? (i := 6) rfl))
    · exact .inr (.inl (List.mem_of_getElem? (i := 7) rfl))
    · exact .inr (.inl (List.mem_of_getElem? (i := 8) rfl))
    · exact .inr (.inl (List.mem_of_getElem? (i := 9) rfl))
    · exact .inr (.inl (List.mem_of_getElem? (i := 10) rfl))
    · exact .inr (.inl (List.mem_of_getElem? (i := 11) rfl))
    · exact .inr (.inl (List.mem_of_getElem? (i := 12) rfl))
    · exact .inr (.inl (List.mem_of_getElem? (i := 13) rfl))
    · exact .inr (.inr ⟨_, rfl, .inr c2⟩)
end G
set_option Elab.async false
set_option linter.all false
set_option maxRecDepth 100000
set_option maxHeartbeats 4000000
namespace G
open Mp Pl
open PySem (Str sizeLine)
local macro_rules | `(tactic| wtm_at "e") => `(tactic| first
  | with_reducible refine w_set ?_
  | with_reducible refine w_bin ?_
  | ((with_reducible refine w_v (d := ?dv) ?hv ?_); (case hv => exact rfl))
  | with_reducible refine w_c ?_
  | with_reducible refine w_cons ?_
  | with_reducible refine w_nil ?_
  | with_reducible refine w_arg ?_
  | with_reducible refine w_call ?_
  | with_reducible refine w_if ?_
  | with_reducible refine w_ret ?_
  | with_reducible refine w_skip ?_
  | with_reducible refine w_bl ?_
  | with_reducible refine w_tru ?_
  | with_reducible refine w_attr ?_
  | with_reducible refine w_meth ?_
  | with_reducible refine w_chain ?_
  | with_reducible refine w_and ?_
  | with_reducible refine w_or ?_
  | with_reducible refine w_not ?_
  | with_reducible refine w_notT ?_
  | with_reducible refine w_andT ?_
  | with_reducible refine w_orT ?_
  | with_reducible refine w_ifM ?_
  | with_reducible refine w_expr ?_
  | with_reducible refine w_un ?_
  | with_reducible refine w_par2 ?_
  | with_reducible refine w_par3 ?_
  | with_reducible refine w_asg ?_
  | with_reducible refine w_aug ?_
  | with_reducible refine w_sub ?_
  | with_reducible refine w_fld ?_
  | with_reducible refine w_raise ?_
  | with_reducible refine w_raise0 ?_
  | with_reducible refine w_try ?_
  | with_reducible refine w_make ?_
  | with_reducible refine w_tryAs ?_
  | with_reducible refine w_exn ?_
  | ((with_reducible refine o_isx (b := ?bv) ?h1 ?_); (case h1 => exact rfl))
  | with_reducible refine w_superS ?_
  | with_reducible refine w_super ?_
  | with_reducible refine w_star ?_
  | with_reducible refine w_for0 ?_
  | with_reducible refine w_lc0 ?_
  | with_reducible refine w_lc20 ?_
  | with_reducible refine w_seqJ ?_
  | with_reducible refine w_starC ?_
  | with_reducible refine w_spr ?_
  | with_reducible refine w_tryN ?_
  | ((with_reducible refine o_own0 ?hv ?_); (case hv => exact rfl))
  | ((with_reducible refine o_eqO0 ?hv ?_); (case hv => exact rfl))
  | with_reducible refine w_seqI ?_
  | with_reducible refine w_argI ?_
  | with_reducible refine w_opt ?_
  | with_reducible refine w_sli ?_
  | with_reducible refine w_pure ?_
  | with_reducible refine w_disp ?_
  | with_reducible refine w_pairs1 ?_
  | with_reducible refine w_pairs0 ?_
  | with_reducible refine w_retN ?_
  | with_reducible refine w_cnt ?_
  | with_reducible refine w_brk ?_
  | with_reducible refine o_addI ?_
  | with_reducible refine o_addI' ?_
  | with_reducible refine o_sub ?_
  | with_reducible refine o_lt ?_
  | with_reducible refine o_le ?_
  | with_reducible refine o_gt ?_
  | with_reducible refine o_ge ?_
  | with_reducible refine o_eqI ?_
  | with_reducible refine o_neI ?_
  | with_reducible refine o_eqS ?_
  | with_reducible refine o_neS ?_
  | with_reducible refine o_int ?_
  | with_reducible refine o_intB ?_
  | with_reducible refine o_neg ?_
  | with_reducible refine o_abs ?_
  | with_reducible refine o_newL ?_
  | with_reducible refine o_max2 ?_
  | with_reducible refine o_min2 ?_
  | with_reducible refine o_lenL ?_
  | with_reducible refine o_lenT ?_
  | ((with_reducible refine o_tup ?hv ?_); (case hv => first | exact Nat.le_of_ble_eq_true rfl | assumption))
  | ((with_reducible refine o_lst ?hv ?_); (case hv => first | exact Nat.le_of_ble_eq_true rfl | assumption))
  | ((with_reducible refine o_isi (t := ?tv) (b := ?bv) ?h1 ?h2 ?_); (case h1 => exact rfl); (case h2 => exact rfl))
  | ((with_reducible refine o_fld (C := ?cv) (fs := ?fv) (d := ?dv) ?h1 ?h2 ?h3 ?_); (case h1 => exact rfl); (case h2 => exact rfl); (case h3 => exact rfl))
  | ((with_reducible refine Exists.intro ?kv (And.intro ?ha ?_)); (case ha => exact rfl)))
local macro_rules | `(tactic| wtm_at "body") => `(tactic| (refine w_body rfl rfl ?_; dsimp only [List.length_cons, List.length_nil, List.drop, List.append_nil, List.map_cons, List.map_nil, List.map, List.cons_append, List.nil_append, Nat.reduceAdd, Nat.reduceSub, List.replicate]))
local macro_rules | `(tactic| wtm_at "meth") => `(tactic| refine ⟨_, _, _, rfl, rfl, rfl, ?_⟩)
local macro_rules | `(tactic| wtm_at "w") => `(tactic| first | with_reducible refine w_seq ?_ | wtm_at "e")
local macro_rules | `(tactic| wtm_at "s") => `(tactic| ((repeat wtm_at "e"); (with_reducible refine w_seq ?_)))
local macro_rules | `(tactic| wtm_at "f") => `(tactic| ((repeat wtm_at "e"); (with_reducible show FP _ _)))
/-! things: what they are, their repr -/
def isI : D → Bool
  | .int _ => true
  | _ => false
def Ok1 (s : Sto) : D → Prop
  | .non => True
  | .bl _ => True
  | .int _ => True
  | .str _ => True
  | .tup _ => True
  | .lst _ => True
  | .cel n => ∃ m, s[n]? = some (some (.dct m))
  | _ => False
def Ok2 (s : Sto) (d : D) : Prop := Ok1 s d ∧ ∀ l, d = .tup l → ∀ x ∈ l, Ok1 s x
section
variable {s : Sto} {Q : D → Sto → Prop} {E : XT} {d : D}
theorem tag_cel {k : Nat} {m : List (L2.Key × D)} (h : s[k]? = some (some (.dct m))) : tagD s (.cel k) = some (.bt "dict") := by
  unfold tagD
  dsimp only
  rw [h]
theorem q_is_integer (h1 : Ok1 s d) (h : Q (.bl (isI d)) s) : RP Q E (m_is_integer [d] s) := by
  cases d with
  | cel k =>
    obtain ⟨m, hm⟩ := h1
    wtm_at "body"
    unfold b_is_integer
    repeat wtm_at "w"
    refine o_isi (tag_cel hm) rfl ?_
    repeat wtm_at "w"
    exact ⟨fun z => (by cases z), fun _ => h⟩
  | _ => first | exact h | exact h1.elim
theorem q_lwhole (h1 : Ok1 s d) (h : Q (.bl (isI d)) s) : RP Q E (m__law_is_whole [d] s) := by
  cases d with
  | cel k =>
    obtain ⟨m, hm⟩ := h1
    wtm_at "body"
    unfold b__law_is_whole
    repeat wtm_at "w"
    refine o_isi (tag_cel hm) rfl ?_
    repeat wtm_at "w"
    exact ⟨fun z => (by cases z), fun _ => h⟩
  | _ => first | exact h | exact h1.elim
def isT : D → Bool
  | .tup _ => true
  | _ => false
theorem isi_tup (h1 : Ok1 s d) : isiD it0 [d, .ty "tuple"] s = .ok (.bl (isT d)) s := by
  cases d with
  | cel k =>
    obtain ⟨m, hm⟩ := h1
    unfold isiD
    dsimp only
    rw [tag_cel hm]
    rfl
  | _ => first | rfl | exact h1.elim
def pairI : List D → Option (Int × Int)
  | [x, y] => (match x with
    | .int a => (match y with
      | .int b => some (a, b)
      | _ => none)
    | _ => none)
  | _ => none
def anyB : D → Bool
  | .int _ => true
  | .tup l => (match pairI l with
    | some (a, b) => decide (2 ≤ b) && decide (Int.gcd a b = 1)
    | none => false)
  | _ => false
theorem q_is_anyX (h1 : Ok2 s d) (h : Q (.bl (anyB d)) s) : RP Q E (m_Fractions_is_any [fF, d] s) := by
  wtm_at "body"
  unfold b_Fractions_is_any
  wtm_at "s"
  repeat wtm_at "e"
  refine RP.of (isi_tup h1.1) ?_
  repeat wtm_at "e"
  refine ⟨fun ht => ?_, fun ht => ?_⟩
  · have ht : isT d = false := by simpa using ht
    repeat wtm_at "e"
    refine q_is_integer h1.1 ?_
    cases d with
    | tup l => cases ht
    | _ => exact h
  · have ht : isT d = true := by simpa using ht
    cases d with
    | tup l =>
      have ho := h1.2 l rfl
      wtm_at "s"
      repeat wtm_at "e"
      match l, ho, h with
      | [], _, h =>
        refine ⟨fun z => (by cases z), fun _ => ?_⟩
        repeat wtm_at "e"
        refine ⟨fun _ => ?_, fun z => (by cases z)⟩
        repeat wtm_at "e"
        exact h
      | [x], _, h =>
        refine ⟨fun z => (by cases z), fun _ => ?_⟩
        repeat wtm_at "e"
        refine ⟨fun _ => ?_, fun z => (by cases z)⟩
        repeat wtm_at "e"
        exact h
      | x :: y :: z :: l, _, h =>
        refine ⟨fun k => (by simp at k; omega), fun _ => ?_⟩
        repeat wtm_at "e"
        refine ⟨fun _ => ?_, fun z => (by cases z)⟩
        repeat wtm_at "e"
        exact h
      | [x, y], ho, h =>
        refine ⟨fun _ => ?_, fun z => (by cases z)⟩
        repeat wtm_at "e"
        have key : ∀ v : D, Ok1 s v → ∃ p, nameG 2 v (wipeE [some fF, some (.tup [x, y]), none] [2]) s = some (p, s) ∧ callM m_is_integer (consA (vM 2) nilA) p s = .ok (.bl (isI v)) s := fun v hv => by
          refine ⟨[some fF, some (.tup [x, y]), some v], rfl, ?_⟩
          obtain ⟨d', s', e, rfl, rfl⟩ := (q_is_integer (Q := fun d' s' => d' = .bl (isI v) ∧ s' = s) (E := noX) hv ⟨rfl, rfl⟩).ex
          exact e
        refine w_lcP (c := ⟨[x, y], none⟩) (fun v => .bl (isI v)) rfl (by show 2 ≤ sizeLine; decide) (fun v hv => ?_) ?_
        · exact key v (ho v hv)
        repeat wtm_at "e"
        refine o_all (l := [isI x, isI y]) rfl ?_
        repeat wtm_at "e"
        refine ⟨fun hk => ?_, fun hk => ?_⟩
        · have hk : isI x = true ∧ isI y = true := by simpa using hk
          cases x with
          | int a =>
            cases y with
            | int b =>
              repeat wtm_at "e"
              refine o_idxT (k := 1) rfl rfl ?_
              repeat wtm_at "e"
              have h : Q (.bl (decide (2 ≤ b) && decide (Int.gcd a b = 1))) s := h
              refine ⟨fun z => ?_, fun z => ?_⟩
              · have z := of_decide_eq_true z
                repeat wtm_at "e"
                rw [decide_eq_false (show ¬ 2 ≤ b by omega)] at h
                exact h
              · have z := of_decide_eq_false z
                repeat wtm_at "e"
                refine o_idxT (k := 0) rfl rfl ?_
                repeat wtm_at "e"
                refine o_idxT (k := 1) rfl rfl ?_
                repeat wtm_at "e"
                refine q_common ?_
                repeat wtm_at "e"
                rw [decide_eq_true (show 2 ≤ b by omega), Bool.true_and] at h
                rw [decide_eq_decide.mpr (show ((Int.gcd a b : Nat) : Int) = 1 ↔ Int.gcd a b = 1 by omega)]
                exact h
            | _ => cases hk.2
          | _ => cases hk.1
        · refine ⟨fun _ => ?_, fun z => (by cases z)⟩
          repeat wtm_at "e"
          have e : anyB (.tup [x, y]) = false := by
            cases x with
            | int a =>
              cases y with
              | int b => cases hk
              | _ => rfl
            | _ => rfl
          rw [e] at h
          exact h
    | _ => cases ht
def numB (P : Int) (d : D) : Bool := match d with
  | .int v => if 0 < P then decide (0 ≤ v) && decide (v < P) else decide (absI v < 10 ^ 100)
  | .tup l => (match pairI l with
    | some (a, b) => if 0 < P then false else decide (2 ≤ b) && (decide (Int.gcd a b = 1) && (decide (absI a < 10 ^ 100) && decide (b < 10 ^ 100)))
    | none => false)
  | _ => false
theorem numB_tup {P : Int} {l : List D} (hp : 0 < P) : numB P (.tup l) = false := by
  show (match pairI l with
    | some (a, b) => if 0 < P then false else decide (2 ≤ b) && (decide (Int.gcd a b = 1) && (decide (absI a < 10 ^ 100) && decide (b < 10 ^ 100)))
    | none => false) = false
  cases pairI l with
  | none => rfl
  | some q => exact if_pos hp
theorem pairI_some {l : List D} {a b : Int} (h : pairI l = some (a, b)) : l = [.int a, .int b] := by
  unfold pairI at h
  split at h
  · split at h
    · split at h
      · cases h
        rfl
      · cases h
    · cases h
  · cases h
theorem numB_no {P : Int} (h : anyB d = false) (hp : ¬ 0 < P) : numB P d = false := by
  cases d with
  | int v => cases h
  | tup l =>
    have h : (match pairI l with
      | some (a, b) => decide (2 ≤ b) && decide (Int.gcd a b = 1)
      | none => false) = false := h
    show (match pairI l with
      | some (a, b) => if 0 < P then false else decide (2 ≤ b) && (decide (Int.gcd a b = 1) && (decide (absI a < 10 ^ 100) && decide (b < 10 ^ 100)))
      | none => false) = false
    cases e : pairI l with
    | none => rfl
    | some q =>
      rw [e] at h
      obtain ⟨a, b⟩ := q
      have h : (decide (2 ≤ b) && decide (Int.gcd a b = 1)) = false := h
      show (if 0 < P then false else decide (2 ≤ b) && (decide (Int.gcd a b = 1) && (decide (absI a < 10 ^ 100) && decide (b < 10 ^ 100)))) = false
      rw [if_neg hp, ← Bool.and_assoc, h, Bool.false_and]
  | _ => rfl
theorem q_is_numX {P : Int} {f : D} (k : Kd P f) (h1 : Ok2 s d) (h : Q (.bl (numB P d)) s) : RP Q E (m_Field_is_number [f, d] s) := by
  cases k with
  | fr =>
    wtm_at "body"
    unfold b_Field_is_number
    repeat wtm_at "e"
    wtm_at "meth"
    repeat wtm_at "e"
    refine q_is_anyX h1 ?_
    repeat wtm_at "e"
    refine ⟨fun hk => ?_, fun hk => ?_⟩
    · repeat wtm_at "e"
      cases d with
      | int v =>
        refine q_short_int (n := 2) rfl (by decide) ?_
        have h : Q (.bl (decide (absI v < 10 ^ 100))) s := h
        rw [show (decide (absI 1 < 10 ^ (50 * 2))) = true by decide +kernel, Bool.and_true]
        exact h
      | tup l =>
        cases hl : pairI l with
        | none =>
          have hk : (match pairI l with
            | some (a, b) => decide (2 ≤ b) && decide (Int.gcd a b = 1)
            | none => false) = true := hk
          rw [hl] at hk
          cases hk
        | some ab =>
          obtain ⟨a, b⟩ := ab
          obtain rfl := pairI_some hl
          have hk : (decide (2 ≤ b) && decide (Int.gcd a b = 1)) = true := hk
          have hk2 := hk
          rw [Bool.and_eq_true, decide_eq_true_eq, decide_eq_true_eq] at hk2
          refine q_short_parts (n := 2) rfl (by decide) (fun _ => rfl) ?_
          have h : Q (.bl (decide (2 ≤ b) && (decide (Int.gcd a b = 1) && (decide (absI a < 10 ^ 100) && decide (b < 10 ^ 100))))) s := h
          rw [decide_eq_true hk2.1, decide_eq_true hk2.2, Bool.true_and, Bool.true_and] at h
          have e : absI b = b := if_neg (by omega)
          rw [e]
          exact h
      | _ => cases hk
    · rw [numB_no hk (by decide)] at h
      rw [hk]
      exact h
  | @md p pr pk =>
    have hp : (0 : Int) < p := by have := pr.1; omega
    cases d with
    | int v =>
      refine q_is_numberM pk.2.1 ?_
      have e : numB p (.int v) = (decide (0 ≤ v) && decide (v ≤ (p : Int) - 1)) := by
        show (if (0 : Int) < p then decide (0 ≤ v) && decide (v < (p : Int)) else _) = _
        rw [if_pos hp, decide_eq_decide.mpr (show v < (p : Int) ↔ v ≤ (p : Int) - 1 by omega)]
      rw [← e]
      exact h
    | _ =>
      wtm_at "body"
      unfold b_Field_is_number
      repeat wtm_at "e"
      wtm_at "meth"
      repeat wtm_at "e"
      wtm_at "body"
      unfold b_Modulo_is_any
      repeat wtm_at "e"
      wtm_at "body"
      unfold b_is_between
      repeat wtm_at "e"
      refine q_is_integer h1.1 ?_
      repeat wtm_at "e"
      refine ⟨fun z => (by cases z), fun _ => ?_⟩
      repeat wtm_at "e"
      refine ⟨fun z => (by cases z), fun _ => ?_⟩
      first
        | exact h
        | (rw [numB_tup hp] at h
           exact h)
theorem q_lnumX {P : Int} (hP : 0 ≤ P) (h1 : Ok2 s d) (h : Q (.bl (numB P d)) s) : RP Q E (m__law_is_number [.int P, d] s) := by
  wtm_at "body"
  unfold b__law_is_number
  wtm_at "s"
  repeat wtm_at "e"
  refine ⟨fun hp => ?_, fun hp => ?_⟩
  · have hp := of_decide_eq_true hp
    repeat wtm_at "e"
    refine q_lwhole h1.1 ?_
    repeat wtm_at "e"
    refine ⟨fun hk => ?_, fun hk => ?_⟩
    · cases d with
      | int v =>
        have h : Q (.bl (if 0 < P then decide (0 ≤ v) && decide (v < P) else _)) s := h
        rw [if_pos hp] at h
        repeat wtm_at "e"
        refine ⟨fun z => ?_, fun z => ?_⟩
        · repeat wtm_at "e"
          rw [z] at h
          exact h
        · rw [z] at h
          exact h
      | _ => cases hk
    · have e : numB P d = false := by
        cases d with
        | int v => cases hk
        | tup l => exact numB_tup hp
        | _ => rfl
      rw [e] at h
      rw [hk]
      exact h
  · have hp := of_decide_eq_false hp
    wtm_at "s"
    repeat wtm_at "e"
    refine q_lwhole h1.1 ?_
    repeat wtm_at "e"
    refine ⟨fun hk => ?_, fun hk => ?_⟩
    · cases d with
      | int v =>
        have h : Q (.bl (if 0 < P then decide (0 ≤ v) && decide (v < P) else decide (absI v < 10 ^ 100))) s := h
        rw [if_neg hp] at h
        repeat wtm_at "e"
        refine q_tens (k := 100) rfl (by decide) ?_
        repeat wtm_at "e"
        exact h
      | _ => cases hk
    · wtm_at "s"
      repeat wtm_at "e"
      refine RP.of (isi_tup h1.1) ?_
      repeat wtm_at "e"
      refine ⟨fun ht => ?_, fun ht => ?_⟩
      · have ht : isT d = true := by simpa using ht
        cases d with
        | tup l =>
          have ho := h1.2 l rfl
          repeat wtm_at "e"
          match l, ho, h with
          | [], _, h =>
            refine ⟨fun z => (by cases z), fun _ => ?_⟩
            refine ⟨fun _ => ?_, fun z => (by cases z)⟩
            repeat wtm_at "e"
            exact h
          | [x], _, h =>
            refine ⟨fun z => (by cases z), fun _ => ?_⟩
            refine ⟨fun _ => ?_, fun z => (by cases z)⟩
            repeat wtm_at "e"
            exact h
          | x :: y :: z :: l, _, h =>
            refine ⟨fun k => (by simp at k; omega), fun _ => ?_⟩
            refine ⟨fun _ => ?_, fun z => (by cases z)⟩
            repeat wtm_at "e"
            exact h
          | [x, y], ho, h =>
            have hx := ho x (by simp)
            have hy := ho y (by simp)
            refine ⟨fun _ => ?_, fun z => (by cases z)⟩
            repeat wtm_at "e"
            refine o_idxT (k := 0) rfl rfl ?_
            repeat wtm_at "e"
            refine q_lwhole hx ?_
            repeat wtm_at "e"
            refine ⟨fun hi => ?_, fun hi => ?_⟩
            · have hi : isI x = true := by simpa using hi
              repeat wtm_at "e"
              refine o_idxT (k := 1) rfl rfl ?_
              repeat wtm_at "e"
              refine q_lwhole hy ?_
              repeat wtm_at "e"
              cases x with
              | int a =>
                refine ⟨fun hj => ?_, fun hj => ?_⟩
                · have hj : isI y = false := by simpa using hj
                  repeat wtm_at "e"
                  cases y with
                  | int b => cases hj
                  | _ => exact h
                · have hj : isI y = true := by simpa using hj
                  cases y with
                  | int b =>
                    have h : Q (.bl (if 0 < P then false else decide (2 ≤ b) && (decide (Int.gcd a b = 1) && (decide (absI a < 10 ^ 100) && decide (b < 10 ^ 100))))) s := h
                    rw [if_neg hp] at h
                    wtm_at "s"
                    repeat wtm_at "e"
                    refine o_idxT (k := 1) rfl rfl ?_
                    repeat wtm_at "e"
                    refine ⟨fun hb => ?_, fun hb => ?_⟩
                    · have hb := of_decide_eq_false hb
                      rw [decide_eq_true (show 2 ≤ b by omega), Bool.true_and] at h
                      repeat wtm_at "e"
                      refine o_idxT (k := 0) rfl rfl ?_
                      repeat wtm_at "e"
                      refine o_idxT (k := 1) rfl rfl ?_
                      repeat wtm_at "e"
                      refine q_lgcd ?_
                      repeat wtm_at "e"
                      refine ⟨fun hg => ?_, fun hg => ?_⟩
                      · repeat wtm_at "e"
                        have hg : ¬ Int.gcd a b = 1 := by
                          intro z
                          rw [z] at hg
                          simp at hg
                        rw [decide_eq_false hg, Bool.false_and] at h
                        exact h
                      · have hg : Int.gcd a b = 1 := by
                          have : ((Int.gcd a b : Nat) : Int) = 1 := by simpa using hg
                          omega
                        rw [decide_eq_true hg, Bool.true_and] at h
                        repeat wtm_at "e"
                        refine o_idxT (k := 0) rfl rfl ?_
                        repeat wtm_at "e"
                        refine q_tens (k := 100) rfl (by decide) ?_
                        repeat wtm_at "e"
                        refine ⟨fun hc => ?_, fun hc => ?_⟩
                        · repeat wtm_at "e"
                          refine o_idxT (k := 1) rfl rfl ?_
                          repeat wtm_at "e"
                          refine q_tens (k := 100) rfl (by decide) ?_
                          repeat wtm_at "e"
                          rw [hc, Bool.true_and] at h
                          exact h
                        · rw [hc, Bool.false_and] at h
                          rw [hc]
                          exact h
                    · refine ⟨fun _ => ?_, fun z => (by cases z)⟩
                      repeat wtm_at "e"
                      rw [decide_eq_false (show ¬ 2 ≤ b by have := of_decide_eq_true hb; omega), Bool.false_and] at h
                      exact h
                  | _ => cases hj
              | _ => cases hi
            · refine ⟨fun _ => ?_, fun z => (by cases z)⟩
              repeat wtm_at "e"
              have hi : isI x = false := by simpa using hi
              cases x with
              | int a => cases hi
              | _ => exact h
        | _ => cases ht
      · have ht : isT d = false := by simpa using ht
        refine ⟨fun _ => ?_, fun z => (by cases z)⟩
        repeat wtm_at "e"
        cases d with
        | tup l => cases ht
        | int v => cases hk
        | _ => exact h
end
end G
set_option Elab.async false
set_option linter.all false
set_option maxRecDepth 100000
set_option maxHeartbeats 4000000
namespace G
open Mp Pl
open PySem (Str sizeLine)
local macro_rules | `(tactic| wtm_at "e") => `(tactic| first
  | with_reducible refine w_set ?_
  | with_reducible refine w_bin ?_
  | ((with_reducible refine w_v (d := ?dv) ?hv ?_); (case hv => exact rfl))
  | with_reducible refine w_c ?_
  | with_reducible refine w_cons ?_
  | with_reducible refine w_nil ?_
  | with_reducible refine w_arg ?_
  | with_reducible refine w_call ?_
  | with_reducible refine w_if ?_
  | with_reducible refine w_ret ?_
  | with_reducible refine w_skip ?_
  | with_reducible refine w_bl ?_
  | with_reducible refine w_tru ?_
  | with_reducible refine w_attr ?_
  | with_reducible refine w_meth ?_
  | with_reducible refine w_chain ?_
  | with_reducible refine w_and ?_
  | with_reducible refine w_or ?_
  | with_reducible refine w_not ?_
  | with_reducible refine w_notT ?_
  | with_reducible refine w_andT ?_
  | with_reducible refine w_orT ?_
  | with_reducible refine w_ifM ?_
  | with_reducible refine w_expr ?_
  | with_reducible refine w_un ?_
  | with_reducible refine w_par2 ?_
  | with_reducible refine w_par3 ?_
  | with_reducible refine w_asg ?_
  | with_reducible refine w_aug ?_
  | with_reducible refine w_sub ?_
  | with_reducible refine w_fld ?_
  | with_reducible refine w_raise ?_
  | with_reducible refine w_raise0 ?_
  | with_reducible refine w_try ?_
  | with_reducible refine w_make ?_
  | with_reducible refine w_tryAs ?_
  | with_reducible refine w_exn ?_
  | ((with_reducible refine o_isx (b := ?bv) ?h1 ?_); (case h1 => exact rfl))
  | with_reducible refine w_superS ?_
  | with_reducible refine w_super ?_
  | with_reducible refine w_star ?_
  | with_reducible refine w_for0 ?_
  | with_reducible refine w_lc0 ?_
  | with_reducible refine w_lc20 ?_
  | with_reducible refine w_seqJ ?_
  | with_reducible refine w_starC ?_
  | with_reducible refine w_spr ?_
  | with_reducible refine w_tryN ?_
  | ((with_reducible refine o_own0 ?hv ?_); (case hv => exact rfl))
  | ((with_reducible refine o_eqO0 ?hv ?_); (case hv => exact rfl))
  | with_reducible refine w_seqI ?_
  | with_reducible refine w_argI ?_
  | with_reducible refine w_opt ?_
  | with_reducible refine w_sli ?_
  | with_reducible refine w_pure ?_
  | with_reducible refine w_disp ?_
  | with_reducible refine w_pairs1 ?_
  | with_reducible refine w_pairs0 ?_
  | with_reducible refine w_retN ?_
  | with_reducible refine w_cnt ?_
  | with_reducible refine w_brk ?_
  | with_reducible refine o_addI ?_
  | with_reducible refine o_addI' ?_
  | with_reducible refine o_sub ?_
  | with_reducible refine o_lt ?_
  | with_reducible refine o_le ?_
  | with_reducible refine o_gt ?_
  | with_reducible refine o_ge ?_
  | with_reducible refine o_eqI ?_
  | with_reducible refine o_neI ?_
  | with_reducible refine o_eqS ?_
  | with_reducible refine o_neS ?_
  | with_reducible refine o_int ?_
  | with_reducible refine o_intB ?_
  | with_reducible refine o_neg ?_
  | with_reducible refine o_abs ?_
  | with_reducible refine o_newL ?_
  | with_reducible refine o_max2 ?_
  | with_reducible refine o_min2 ?_
  | with_reducible refine o_lenL ?_
  | with_reducible refine o_lenT ?_
  | ((with_reducible refine o_tup ?hv ?_); (case hv => first | exact Nat.le_of_ble_eq_true rfl | assumption))
  | ((with_reducible refine o_lst ?hv ?_); (case hv => first | exact Nat.le_of_ble_eq_true rfl | assumption))
  | ((with_reducible refine o_isi (t := ?tv) (b := ?bv) ?h1 ?h2 ?_); (case h1 => exact rfl); (case h2 => exact rfl))
  | ((with_reducible refine o_fld (C := ?cv) (fs := ?fv) (d := ?dv) ?h1 ?h2 ?h3 ?_); (case h1 => exact rfl); (case h2 => exact rfl); (case h3 => exact rfl))
  | ((with_reducible refine Exists.intro ?kv (And.intro ?ha ?_)); (case ha => exact rfl)))
local macro_rules | `(tactic| wtm_at "body") => `(tactic| (refine w_body rfl rfl ?_; dsimp only [List.length_cons, List.length_nil, List.drop, List.append_nil, List.map_cons, List.map_nil, List.map, List.cons_append, List.nil_append, Nat.reduceAdd, Nat.reduceSub, List.replicate]))
local macro_rules | `(tactic| wtm_at "meth") => `(tactic| refine ⟨_, _, _, rfl, rfl, rfl, ?_⟩)
local macro_rules | `(tactic| wtm_at "w") => `(tactic| first | with_reducible refine w_seq ?_ | wtm_at "e")
local macro_rules | `(tactic| wtm_at "s") => `(tactic| ((repeat wtm_at "e"); (with_reducible refine w_seq ?_)))
local macro_rules | `(tactic| wtm_at "f") => `(tactic| ((repeat wtm_at "e"); (with_reducible show FP _ _)))
/-! repr of things -/
open PySem (PyData) in
def RO (s : Sto) (d : D) : Prop := ∃ p, rdP s 99 d = some p ∧ p.showable = true ∧ p.depth < 60 ∧ p.shown.length ≤ sizeLine
noncomputable def rpT (s : Sto) (d : D) : Str := match rdP s 99 d with
  | some p => p.shown
  | none => ""
section
variable {s : Sto} {Q : D → Sto → Prop} {E : XT} {d : D}
open PySem (PyData)
theorem o_reprX (h1 : RO s d) (h : Q (.str (rpT s d)) s) : RP Q E (reprX [d] s) := by
  obtain ⟨p, e, h2, h3, h4⟩ := h1
  unfold rpT at h
  rw [e] at h
  unfold reprX
  dsimp only
  rw [e]
  dsimp only
  rw [if_pos ⟨h2, h3, h4⟩]
  exact h
def Flat (d : D) : Prop := d = .non ∨ (∃ b, d = .bl b) ∨ (∃ i : Int, d = .int i ∧ i.natAbs < 2 ^ 1000) ∨ ∃ z, d = .str z ∧ (PySem.reprText z).length ≤ 600 ∧ SOk (PySem.reprText z)
theorem flat_rd (h : Flat d) (n : Nat) : ∃ p, rdP s (n + 1) d = some p ∧ p.showable = true ∧ p.hasDict = false ∧ p.depth = 0 ∧ wt p ≤ 600 := by
  rcases h with rfl | ⟨b, rfl⟩ | ⟨i, rfl, hi⟩ | ⟨z, rfl, hz⟩
  · exact ⟨.none, by simp only [rdP], rfl, rfl, rfl, by show 4 ≤ 600; decide⟩
  · exact ⟨.bool b, by simp only [rdP], rfl, rfl, rfl, by show 5 ≤ 600; decide⟩
  · exact ⟨.int i, by simp only [rdP], decide_eq_true (Nat.lt_of_lt_of_le (log_of hi (by decide)) (by decide)), rfl, rfl, by show 600 ≤ 600; decide⟩
  · exact ⟨.str z, by simp only [rdP], rfl, rfl, rfl, hz.1⟩
theorem flats_rd : ∀ (l : List D) (n : Nat), (∀ d ∈ l, Flat d) → l.length < n → ∃ ps, rdPs s (n + 1) l = some ps ∧ PyData.showableAll ps = true ∧ PyData.hasDictAll ps = false ∧ PyData.depthAll ps = 0 ∧ wtAll ps ≤ 602 * l.length
  | [], n, _, _ => ⟨[], by simp only [rdPs], rfl, rfl, rfl, by show 0 ≤ 602 * 0; decide⟩
  | d :: l, 0, _, hn => by simp at hn
  | d :: l, n + 1, h, hn => by
    obtain ⟨p, e1, a1, a2, a3, a4⟩ := flat_rd (s := s) (h d (by simp)) n
    obtain ⟨ps, e2, b1, b2, b3, b4⟩ := flats_rd l n (fun x hx => h x (by simp [hx])) (by simpa using hn)
    refine ⟨p :: ps, ?_, ?_, ?_, ?_, ?_⟩
    · simp only [rdPs, e1, e2]
      rfl
    · rw [PyData.showableAll, a1, b1]
      rfl
    · rw [PyData.hasDictAll, a2, b2]
      rfl
    · rw [PyData.depthAll, a3, b3]
      rfl
    · rw [wtAll, List.length_cons]
      omega
theorem ro_of {p : PyData} (e : rdP s 99 d = some p) (h1 : p.showable = true) (h2 : p.hasDict = false) (h3 : p.depth < 60) (h4 : wt p ≤ 100000) : RO s d :=
  ⟨p, e, h1, h3, Nat.le_trans (shown_len p h1 h2) (Nat.le_trans h4 (by decide))⟩
theorem ro_flat (h : Flat d) : RO s d := by
  obtain ⟨p, e, h1, h2, h3, h4⟩ := flat_rd (s := s) h 98
  exact ro_of e h1 h2 (by omega) (by omega)
theorem ro_tup {l : List D} (h : ∀ d ∈ l, Flat d) (hl : l.length ≤ 50) : RO s (.tup l) := by
  obtain ⟨ps, e, h1, h2, h3, h4⟩ := flats_rd (s := s) l 97 h (by omega)
  refine ro_of (p := .tuple ps) (by simp only [rdP, e]; rfl) (by rw [PyData.showable]; exact h1) (by rw [PyData.hasDict]; exact h2) (by rw [PyData.depth]; omega) ?_
  rw [wt]
  omega
theorem ro_lst {l : List D} (h : ∀ d ∈ l, Flat d) (hl : l.length ≤ 50) : RO s (.lst l) := by
  obtain ⟨ps, e, h1, h2, h3, h4⟩ := flats_rd (s := s) l 97 h (by omega)
  refine ro_of (p := .list ps) (by simp only [rdP, e]; rfl) (by rw [PyData.showable]; exact h1) (by rw [PyData.hasDict]; exact h2) (by rw [PyData.depth]; omega) ?_
  rw [wt]
  omega
theorem ro_tt {l : List D} (h : ∀ d ∈ l, Flat d) (hl : l.length ≤ 50) : RO s (.tup [.tup l, .int 2]) := by
  obtain ⟨ps, e, h1, h2, h3, h4⟩ := flats_rd (s := s) l 95 h (by omega)
  refine ro_of (p := .tuple [.tuple ps, .int 2]) (by simp only [rdP, rdPs, e]; rfl) ?_ ?_ ?_ ?_
  · rw [PyData.showable, PyData.showableAll, PyData.showable, h1]
    decide +kernel
  · rw [PyData.hasDict, PyData.hasDictAll, PyData.hasDict, h2]
    rfl
  · rw [PyData.depth, PyData.depthAll, PyData.depth, h3]
    decide +kernel
  · show (wtAll ps + 4) + 2 + (600 + 2 + 0) + 4 ≤ 100000
    omega
theorem ro_d0 {k : Nat} (h : s[k]? = some (some (.dct []))) : RO s (.cel k) := by
  refine ⟨.dict [], ?_, by decide +kernel, by decide +kernel, by decide +kernel⟩
  simp only [rdP, h, List.map_nil, rdPs]
  rfl
theorem ro_d1 {k : Nat} (h : s[k]? = some (some (.dct [(.inr "a", .int 1)]))) : RO s (.cel k) := by
  refine ⟨.dict [(.str "a", .int 1)], ?_, by decide +kernel, by decide +kernel, by decide +kernel⟩
  simp only [rdP, h, List.map_cons, List.map_nil, rdPs]
  rfl
/-- what is drawn -/
inductive Th (s : Sto) : D → Prop
  | flat {d : D} : Flat d → Th s d
  | tup {l : List D} : (∀ d ∈ l, Flat d) → l.length ≤ 5 → Th s (.tup l)
  | lst {l : List D} : (∀ d ∈ l, Flat d) → l.length ≤ 5 → Th s (.lst l)
  | d0 {k : Nat} : s[k]? = some (some (.dct [])) → Th s (.cel k)
  | d1 {k : Nat} : s[k]? = some (some (.dct [(.inr "a", .int 1)])) → Th s (.cel k)
theorem Th.ro (h : Th s d) : RO s d := by
  cases h with
  | flat h => exact ro_flat h
  | tup h hl => exact ro_tup h (by omega)
  | lst h hl => exact ro_lst h (by omega)
  | d0 h => exact ro_d0 h
  | d1 h => exact ro_d1 h
theorem Flat.ok1 (h : Flat d) : Ok1 s d := by
  rcases h with rfl | ⟨b, rfl⟩ | ⟨i, rfl, hi⟩ | ⟨z, rfl, hz⟩ <;> trivial
theorem Th.ok2 (h : Th s d) : Ok2 s d := by
  cases h with
  | flat h =>
    refine ⟨h.ok1, fun l e => ?_⟩
    subst e
    rcases h with h | ⟨b, h⟩ | ⟨i, h, hi⟩ | ⟨z, h, hz⟩ <;> cases h
  | tup h hl => exact ⟨trivial, fun l e x hx => by cases e; exact (h x hx).ok1⟩
  | lst h hl => exact ⟨trivial, fun l e => by cases e⟩
  | d0 h => exact ⟨⟨_, h⟩, fun l e => by cases e⟩
  | d1 h => exact ⟨⟨_, h⟩, fun l e => by cases e⟩
/-- .. or such a tuple in a tuple -/
def Th2 (s : Sto) (d : D) : Prop := Th s d ∨ (∃ l, d = .tup [.tup l, .int 2] ∧ (∀ d ∈ l, Flat d) ∧ l.length ≤ 5) ∨ ∃ l, d = .tup l ∧ (∀ d ∈ l, Flat d) ∧ l.length ≤ 50
theorem Th2.ro (h : Th2 s d) : RO s d := by
  rcases h with h | ⟨l, rfl, h, hl⟩ | ⟨l, rfl, h, hl⟩
  · exact h.ro
  · exact ro_tt h (by omega)
  · exact ro_tup h hl
theorem Th2.ok2 (h : Th2 s d) : Ok2 s d := by
  rcases h with h | ⟨l, rfl, h, hl⟩ | ⟨l, rfl, h, hl⟩
  · exact h.ok2
  rotate_left
  · exact ⟨trivial, fun l e x hx => by cases e; exact (h x hx).ok1⟩
  · refine ⟨trivial, fun l e x hx => ?_⟩
    cases e
    simp only [List.mem_cons, List.not_mem_nil, or_false] at hx
    rcases hx with rfl | rfl <;> trivial
theorem Th.fr {n : Nat} {b : Int} {s' : Sto} (h : Th s d) (p : Pen s n b) (f : Fr n s s') : Th s' d := by
  have key : ∀ {k : Nat} {m : List (L2.Key × D)}, s[k]? = some (some (.dct m)) → m.length < 3 → s'[k]? = some (some (.dct m)) := fun {k m} e hm => by
    have hk := (List.getElem?_eq_some_iff.mp e).1
    rw [f.2 k hk ?_]
    · exact e
    · intro z
      subst z
      obtain ⟨c, g, l, e2, _⟩ := p
      rw [e2] at e
      unfold penC at e
      cases e
      simp at hm
  cases h with
  | flat h => exact .flat h
  | tup h hl => exact .tup h hl
  | lst h hl => exact .lst h hl
  | d0 h => exact .d0 (key h (by decide))
  | d1 h => exact .d1 (key h (by simp))
theorem flatI {i : Int} (h : i.natAbs < 2 ^ 1000) : Flat (.int i) := .inr (.inr (.inl ⟨i, rfl, h⟩))
theorem flatB {b : Bool} : Flat (.bl b) := .inr (.inl ⟨b, rfl⟩)
theorem flatS {z : Str} (h : (PySem.reprText z).length ≤ 600) (h2 : SOk (PySem.reprText z)) : Flat (.str z) := .inr (.inr (.inr ⟨z, rfl, h, h2⟩))
theorem flats2 {a b : D} (ha : Flat a) (hb : Flat b) : ∀ d ∈ [a, b], Flat d := by
  simp only [List.mem_cons, List.not_mem_nil, or_false]
  rintro d (rfl | rfl)
  · exact ha
  · exact hb
theorem oddA_flat : ∀ d ∈ oddA, Flat d := by
  intro d h
  simp only [oddA, List.mem_cons, List.not_mem_nil, or_false] at h
  rcases h with rfl | rfl | rfl | rfl | rfl | rfl | rfl | rfl | rfl | rfl | rfl | rfl | rfl | rfl | rfl | rfl | rfl | rfl | rfl | rfl | rfl | rfl | rfl | rfl | rfl | rfl | rfl | rfl
  all_goals first
    | exact .inl rfl
    | exact flatB
    | exact flatI (by decide +kernel)
    | exact flatS (by decide +kernel) (SOk.iff.mpr (by decide +kernel))
theorem oddB_th : ∀ d ∈ oddB, Th s d := by
  have f1 : ∀ i : Int, i.natAbs < 10 → Flat (.int i) := fun i hi => flatI (Nat.lt_trans hi (by decide +kernel))
  have fs : ∀ x : D, Flat x → ∀ d ∈ [x], Flat d := fun x hx d hd => by
    rw [List.mem_singleton.mp hd]
    exact hx
  intro d h
  simp only [oddB, List.mem_cons, List.not_mem_nil, or_false] at h
  rcases h with rfl | rfl | rfl | rfl | rfl | rfl | rfl | rfl | rfl | rfl | rfl | rfl | rfl | rfl
  · exact .tup (by simp) (by simp)
  · exact .lst (by simp) (by simp)
  · exact .tup (fs _ (flatS (by decide +kernel) (SOk.iff.mpr (by decide +kernel)))) (by simp)
  · exact .lst (fs _ (flatS (by decide +kernel) (SOk.iff.mpr (by decide +kernel)))) (by simp)
  · exact .lst (fs _ (f1 _ (by decide))) (by simp)
  · exact .tup (flats2 (f1 _ (by decide)) (f1 _ (by decide))) (by simp)
  · exact .tup (flats2 (f1 _ (by decide)) (f1 _ (by decide))) (by simp)
  · exact .tup (flats2 (f1 _ (by decide)) (f1 _ (by decide))) (by simp)
  · exact .tup (flats2 (f1 _ (by decide)) (f1 _ (by decide))) (by simp)
  · exact .tup (flats2 (f1 _ (by decide)) (f1 _ (by decide))) (by simp)
  · exact .tup (flats2 (f1 _ (by decide)) (f1 _ (by decide))) (by simp)
  · exact .tup (flats2 flatB (f1 _ (by decide))) (by simp)
  · exact .lst (flats2 (f1 _ (by decide)) (f1 _ (by decide))) (by simp)
  · refine .tup ?_ (by simp)
    simp only [List.mem_cons, List.not_mem_nil, or_false]
    rintro d (rfl | rfl | rfl)
    · exact f1 _ (by decide)
    · exact f1 _ (by decide)
    · exact f1 _ (by decide)
theorem Odd.th (h : Odd s d) : Th s d := by
  rcases h with h | h | ⟨k, rfl, h | h⟩
  · exact .flat (oddA_flat d h)
  · exact oddB_th d h
  · exact .d0 h
  · exact .d1 h
end
end G
set_option Elab.async false
set_option linter.all false
set_option maxRecDepth 100000
set_option maxHeartbeats 4000000
namespace G
open Mp Pl
open PySem (Str sizeLine)
local macro_rules | `(tactic| wtm_at "e") => `(tactic| first
  | with_reducible refine w_set ?_
  | with_reducible refine w_bin ?_
  | ((with_reducible refine w_v (d := ?dv) ?hv ?_); (case hv => exact rfl))
  | with_reducible refine w_c ?_
  | with_reducible refine w_cons ?_
  | with_reducible refine w_nil ?_
  | with_reducible refine w_arg ?_
  | with_reducible refine w_call ?_
  | with_reducible refine w_if ?_
  | with_reducible refine w_ret ?_
  | with_reducible refine w_skip ?_
  | with_reducible refine w_bl ?_
  | with_reducible refine w_tru ?_
  | with_reducible refine w_attr ?_
  | with_reducible refine w_meth ?_
  | with_reducible refine w_chain ?_
  | with_reducible refine w_and ?_
  | with_reducible refine w_or ?_
  | with_reducible refine w_not ?_
  | with_reducible refine w_notT ?_
  | with_reducible refine w_andT ?_
  | with_reducible refine w_orT ?_
  | with_reducible refine w_ifM ?_
  | with_reducible refine w_expr ?_
  | with_reducible refine w_un ?_
  | with_reducible refine w_par2 ?_
  | with_reducible refine w_par3 ?_
  | with_reducible refine w_asg ?_
  | with_reducible refine w_aug ?_
  | with_reducible refine w_sub ?_
  | with_reducible refine w_fld ?_
  | with_reducible refine w_raise ?_
  | with_reducible refine w_raise0 ?_
  | with_reducible refine w_try ?_
  | with_reducible refine w_make ?_
  | with_reducible refine w_tryAs ?_
  | with_reducible refine w_exn ?_
  | ((with_reducible refine o_isx (b := ?bv) ?h1 ?_); (case h1 => exact rfl))
  | with_reducible refine w_superS ?_
  | with_reducible refine w_super ?_
  | with_reducible refine w_star ?_
  | with_reducible refine w_for0 ?_
  | with_reducible refine w_lc0 ?_
  | with_reducible refine w_lc20 ?_
  | with_reducible refine w_seqJ ?_
  | with_reducible refine w_starC ?_
  | with_reducible refine w_spr ?_
  | with_reducible refine w_tryN ?_
  | ((with_reducible refine o_own0 ?hv ?_); (case hv => exact rfl))
  | ((with_reducible refine o_eqO0 ?hv ?_); (case hv => exact rfl))
  | with_reducible refine w_seqI ?_
  | with_reducible refine w_argI ?_
  | with_reducible refine w_opt ?_
  | with_reducible refine w_sli ?_
  | with_reducible refine w_pure ?_
  | with_reducible refine w_disp ?_
  | with_reducible refine w_pairs1 ?_
  | with_reducible refine w_pairs0 ?_
  | with_reducible refine w_retN ?_
  | with_reducible refine w_cnt ?_
  | with_reducible refine w_brk ?_
  | with_reducible refine o_addI ?_
  | with_reducible refine o_addI' ?_
  | with_reducible refine o_sub ?_
  | with_reducible refine o_lt ?_
  | with_reducible refine o_le ?_
  | with_reducible refine o_gt ?_
  | with_reducible refine o_ge ?_
  | with_reducible refine o_eqI ?_
  | with_reducible refine o_neI ?_
  | with_reducible refine o_eqS ?_
  | with_reducible refine o_neS ?_
  | with_reducible refine o_int ?_
  | with_reducible refine o_intB ?_
  | with_reducible refine o_neg ?_
  | with_reducible refine o_abs ?_
  | with_reducible refine o_newL ?_
  | with_reducible refine o_max2 ?_
  | with_reducible refine o_min2 ?_
  | with_reducible refine o_lenL ?_
  | with_reducible refine o_lenT ?_
  | ((with_reducible refine o_tup ?hv ?_); (case hv => first | exact Nat.le_of_ble_eq_true rfl | assumption))
  | ((with_reducible refine o_lst ?hv ?_); (case hv => first | exact Nat.le_of_ble_eq_true rfl | assumption))
  | ((with_reducible refine o_isi (t := ?tv) (b := ?bv) ?h1 ?h2 ?_); (case h1 => exact rfl); (case h2 => exact rfl))
  | ((with_reducible refine o_fld (C := ?cv) (fs := ?fv) (d := ?dv) ?h1 ?h2 ?h3 ?_); (case h1 => exact rfl); (case h2 => exact rfl); (case h3 => exact rfl))
  | ((with_reducible refine Exists.intro ?kv (And.intro ?ha ?_)); (case ha => exact rfl)))
local macro_rules | `(tactic| wtm_at "body") => `(tactic| (refine w_body rfl rfl ?_; dsimp only [List.length_cons, List.length_nil, List.drop, List.append_nil, List.map_cons, List.map_nil, List.map, List.cons_append, List.nil_append, Nat.reduceAdd, Nat.reduceSub, List.replicate]))
local macro_rules | `(tactic| wtm_at "meth") => `(tactic| refine ⟨_, _, _, rfl, rfl, rfl, ?_⟩)
local macro_rules | `(tactic| wtm_at "w") => `(tactic| first | with_reducible refine w_seq ?_ | wtm_at "e")
local macro_rules | `(tactic| wtm_at "s") => `(tactic| ((repeat wtm_at "e"); (with_reducible refine w_seq ?_)))
local macro_rules | `(tactic| wtm_at "f") => `(tactic| ((repeat wtm_at "e"); (with_reducible show FP _ _)))
/-! the field's methods on values of any kind -/
section
variable {s : Sto} {Q : D → Sto → Prop} {E : XT} {P : Int} {f d x y z : D}
theorem num_fr (h : numB 0 d = true) : ∃ q, Short q ∧ d = qD q := by
  have ab : ∀ {i : Int}, absI i < 10 ^ 100 → i.natAbs < 10 ^ 100 := fun {i} h => by
    unfold absI at h
    split at h <;> omega
  cases d with
  | int v =>
    have h : absI v < 10 ^ 100 := of_decide_eq_true h
    exact ⟨Rat.divInt v 1, short_of (by decide) (ab h) (by decide), (qD_whole v).symm⟩
  | tup l =>
    cases e : pairI l with
    | none =>
      have h : (match pairI l with
        | some (a, b) => if (0 : Int) < 0 then false else decide (2 ≤ b) && (decide (Int.gcd a b = 1) && (decide (absI a < 10 ^ 100) && decide (b < 10 ^ 100)))
        | none => false) = true := h
      rw [e] at h
      cases h
    | some ab' =>
      obtain ⟨a, b⟩ := ab'
      obtain rfl := pairI_some e
      have h : (decide (2 ≤ b) && (decide (Int.gcd a b = 1) && (decide (absI a < 10 ^ 100) && decide (b < 10 ^ 100)))) = true := h
      simp only [Bool.and_eq_true, decide_eq_true_eq] at h
      obtain ⟨h1, h2, h3, h4⟩ := h
      refine ⟨Rat.divInt a b, short_of (by omega) (ab h3) h4, ?_⟩
      have e1 : dv a b = 1 := by
        unfold dv
        rw [if_pos (by omega), h2]
        rfl
      rw [frac_end (by omega), e1, if_neg (by omega), Int.ediv_one, Int.ediv_one]
  | _ => cases h
theorem num_md {p : Nat} (hp : 0 < p) (h : numB p d = true) : ∃ v, d = .int v ∧ 0 ≤ v ∧ v < p := by
  cases d with
  | int v =>
    have h : (if (0 : Int) < p then decide (0 ≤ v) && decide (v < (p : Int)) else decide (absI v < 10 ^ 100)) = true := h
    rw [if_pos (by omega), Bool.and_eq_true, decide_eq_true_eq, decide_eq_true_eq] at h
    exact ⟨v, rfl, h⟩
  | tup l =>
    rw [numB_tup (by omega)] at h
    cases h
  | _ => cases h
theorem Kd.methX {g : DF} {l : DM (List D)} {r : En} {m : Str} (k : Kd P f) (hm : (m == ("own_prime" : Str)) = false) (h : RP (fun ds s2 => RP Q E (g (f :: ds) s2)) E (l r s)) :
    ∃ C fs f', insOf s f = some (C, fs) ∧ fs.lookup m = none ∧ ([(("Fractions" : Str), g), (("Modulo" : Str), g)] : List (Str × DF)).lookup C = some f' ∧ RP (fun ds s2 => RP Q E (f' (f :: ds) s2)) E (l r s) := by
  cases k with
  | fr =>
    refine ⟨_, _, _, rfl, ?_, rfl, h⟩
    rw [List.lookup_cons, hm]
    rfl
  | md pr pk =>
    refine ⟨_, _, _, rfl, ?_, rfl, h⟩
    rw [List.lookup_cons, hm]
    rfl
/-- the values that are no numbers -/
def wrg (P : Int) (l : List D) : List D := l.filter fun d => !numB P d
theorem wrg_app {l m : List D} : wrg P (l ++ m) = wrg P l ++ wrg P m := List.filter_append ..
theorem wrg_at {l : List D} {i : Nat} (hd : l[i]? = some d) : wrg P (l.take (i + 1)) = wrg P (l.take i) ++ (if numB P d = true then [] else [d]) := by
  rw [List.take_add_one, hd, wrg_app]
  congr 1
  show List.filter _ [d] = _
  by_cases h : numB P d = true
  · rw [if_pos h]
    simp [h]
  · rw [if_neg h]
    simp [h]
theorem wrg_none {l : List D} (h : wrg P l = []) : ∀ d ∈ l, numB P d = true := fun d hd => by
  unfold wrg at h
  have := List.filter_eq_nil_iff.mp h d hd
  simpa using this
theorem q_needX (k : Kd P f) {l : List D} (ho : ∀ x ∈ l, Ok2 s x) (hl : l.length ≤ 100) (h : wrg P l = [] → Q .non s) (he : ∀ x r, wrg P l = x :: r → E "InvalidNumber" [("value", x)] s) : RP Q E (m_Field_need_numbers (f :: l) s) := by
  refine w_bodyV (by simp) (by simp; omega) rfl ?_
  show FP _ (b_Field_need_numbers [some f, some (.tup l), none] s)
  unfold b_Field_need_numbers
  repeat wtm_at "w"
  refine w_for (c := ⟨l, none⟩) (fun i r s' => s' = s ∧ wrg P (l.take i) = [] ∧ ∃ x, r = [some f, some (.tup l), x]) rfl ⟨rfl, rfl, _, rfl⟩ ?_ ?_
  · rintro i d r s' hd ⟨rfl, hw, x, rfl⟩
    have hd : l[i]? = some d := hd
    have ha := wrg_at (P := P) hd
    rw [hw, List.nil_append] at ha
    refine ⟨_, rfl, ?_⟩
    repeat wtm_at "w"
    refine k.methX rfl ?_
    repeat wtm_at "w"
    refine q_is_numX k (ho d (List.mem_of_getElem? hd)) ?_
    repeat wtm_at "w"
    refine ⟨fun hk => ?_, fun hk => ?_⟩
    · have hk : numB P d = false := by simpa using hk
      repeat wtm_at "w"
      refine he d (wrg P (l.drop (i + 1))) ?_
      conv => lhs; rw [← List.take_append_drop (i + 1) l, wrg_app, ha, hk]
      rfl
    · have hk : numB P d = true := by simpa using hk
      repeat wtm_at "w"
      exact ⟨rfl, by rw [ha, if_pos hk], _, rfl⟩
  · rintro r s' ⟨rfl, hw, x, rfl⟩
    have e : l.take (Src.mk l none).its.length = l := List.take_length
    rw [e] at hw
    exact h hw
theorem ok_two (hx : Ok2 s x) (hy : Ok2 s y) : ∀ d ∈ [x, y], Ok2 s d := by
  simp only [List.mem_cons, List.not_mem_nil, or_false]
  rintro d (rfl | rfl)
  · exact hx
  · exact hy
theorem q_plusX (k : Kd P f) (hx : Ok2 s x) (hy : Ok2 s y) (h : wrg P [x, y] = [] → ∀ d, Q d s) (he : ∀ z r, wrg P [x, y] = z :: r → E "InvalidNumber" [("value", z)] s) : RP Q E (m_Field_plus [f, x, y] s) := by
  cases e : wrg P [x, y] with
  | nil =>
    have hh := h e
    have a := wrg_none e x (by simp)
    have b := wrg_none e y (by simp)
    cases k with
    | fr =>
      obtain ⟨q, hq, rfl⟩ := num_fr a
      obtain ⟨p, hp, rfl⟩ := num_fr b
      exact q_plusF hq hp (hh _)
    | md pr pk =>
      have := pr.1
      obtain ⟨v, rfl, v0, v1⟩ := num_md (by omega) a
      obtain ⟨w, rfl, w0, w1⟩ := num_md (by omega) b
      exact q_plusM (by omega) pk.2.1 v0 v1 w0 w1 (hh _)
  | cons z r =>
    wtm_at "body"
    unfold b_Field_plus
    wtm_at "s"
    repeat wtm_at "e"
    refine k.methX rfl ?_
    repeat wtm_at "e"
    exact q_needX k (l := [x, y]) (ok_two hx hy) (by show 2 ≤ 100; decide) (fun z => by rw [e] at z; cases z) he
theorem q_minusX (k : Kd P f) (hx : Ok2 s x) (hy : Ok2 s y) (h : wrg P [x, y] = [] → ∀ d, Q d s) (he : ∀ z r, wrg P [x, y] = z :: r → E "InvalidNumber" [("value", z)] s) : RP Q E (m_Field_minus [f, x, y] s) := by
  cases e : wrg P [x, y] with
  | nil =>
    have hh := h e
    have a := wrg_none e x (by simp)
    have b := wrg_none e y (by simp)
    cases k with
    | fr =>
      obtain ⟨q, hq, rfl⟩ := num_fr a
      obtain ⟨p, hp, rfl⟩ := num_fr b
      exact q_minusF hq hp (hh _)
    | md pr pk =>
      have := pr.1
      obtain ⟨v, rfl, v0, v1⟩ := num_md (by omega) a
      obtain ⟨w, rfl, w0, w1⟩ := num_md (by omega) b
      exact q_minusM (by omega) pk.2.1 v0 v1 w0 w1 (hh _)
  | cons z r =>
    wtm_at "body"
    unfold b_Field_minus
    wtm_at "s"
    repeat wtm_at "e"
    refine k.methX rfl ?_
    repeat wtm_at "e"
    exact q_needX k (l := [x, y]) (ok_two hx hy) (by show 2 ≤ 100; decide) (fun z => by rw [e] at z; cases z) he
theorem q_timesX (k : Kd P f) (hx : Ok2 s x) (hy : Ok2 s y) (h : wrg P [x, y] = [] → ∀ d, Q d s) (he : ∀ z r, wrg P [x, y] = z :: r → E "InvalidNumber" [("value", z)] s) : RP Q E (m_Field_times [f, x, y] s) := by
  cases e : wrg P [x, y] with
  | nil =>
    have hh := h e
    have a := wrg_none e x (by simp)
    have b := wrg_none e y (by simp)
    cases k with
    | fr =>
      obtain ⟨q, hq, rfl⟩ := num_fr a
      obtain ⟨p, hp, rfl⟩ := num_fr b
      exact q_timesF hq hp (hh _)
    | md pr pk =>
      have := pr.1
      obtain ⟨v, rfl, v0, v1⟩ := num_md (by omega) a
      obtain ⟨w, rfl, w0, w1⟩ := num_md (by omega) b
      exact q_timesM (by omega) pk.2.1 v0 v1 w0 w1 (hh _)
  | cons z r =>
    wtm_at "body"
    unfold b_Field_times
    wtm_at "s"
    repeat wtm_at "e"
    refine k.methX rfl ?_
    repeat wtm_at "e"
    exact q_needX k (l := [x, y]) (ok_two hx hy) (by show 2 ≤ 100; decide) (fun z => by rw [e] at z; cases z) he
theorem qD_null {q : Rat} (h : qD q = .int 0) : q = 0 := by
  by_cases hd : q.den = 1
  · rw [qD_int hd] at h
    injection h with h
    exact Rat.num_eq_zero.mp h
  · rw [qD_tup hd] at h
    cases h
theorem q_overX (k : Kd P f) (hx : Ok2 s x) (hy : Ok2 s y) (h : wrg P [x, y] = [] → y ≠ .int 0 → ∀ d, Q d s) (h0 : wrg P [x, y] = [] → y = .int 0 → E "NoQuotient" [] s) (he : ∀ z r, wrg P [x, y] = z :: r → E "InvalidNumber" [("value", z)] s) : RP Q E (m_Field_over [f, x, y] s) := by
  cases e : wrg P [x, y] with
  | nil =>
    have hh := h e
    have hh0 := h0 e
    have a := wrg_none e x (by simp)
    have b := wrg_none e y (by simp)
    cases k with
    | fr =>
      obtain ⟨q, hq, rfl⟩ := num_fr a
      obtain ⟨p, hp, rfl⟩ := num_fr b
      by_cases z : p = 0
      · subst z
        exact q_overF0 hq (hh0 qD_zero)
      · exact q_overF hq hp z (hh (fun w => z (qD_null w)) _)
    | md pr pk =>
      have := pr.1
      obtain ⟨v, rfl, v0, v1⟩ := num_md (by omega) a
      obtain ⟨w, rfl, w0, w1⟩ := num_md (by omega) b
      by_cases z : w = 0
      · subst z
        exact q_overM0 (by omega) pk.2.1 v0 v1 (hh0 rfl)
      · exact q_overM (by omega) pk.2.1 v0 v1 (by omega) w1 (hh (fun u => z (by injection u)) _)
  | cons z r =>
    wtm_at "body"
    unfold b_Field_over
    wtm_at "s"
    repeat wtm_at "e"
    refine k.methX rfl ?_
    repeat wtm_at "e"
    exact q_needX k (l := [x, y]) (ok_two hx hy) (by show 2 ≤ 100; decide) (fun z => by rw [e] at z; cases z) he
theorem q_totalX (k : Kd P f) (hx : Ok2 s x) (hy : Ok2 s y) (hz : Ok2 s z) (h : wrg P [x, y, z] = [] → ∀ d, Q d s) (he : ∀ w r, wrg P [x, y, z] = w :: r → E "InvalidNumber" [("value", w)] s) : RP Q E (m_Field_total [f, x, y, z] s) := by
  cases e : wrg P [x, y, z] with
  | nil =>
    have hh := h e
    have a := wrg_none e x (by simp)
    have b := wrg_none e y (by simp)
    have c := wrg_none e z (by simp)
    cases k with
    | fr =>
      obtain ⟨q, hq, rfl⟩ := num_fr a
      obtain ⟨p, hp, rfl⟩ := num_fr b
      obtain ⟨t, ht, rfl⟩ := num_fr c
      refine q_totalF (qs := [q, p, t]) ?_ (by show 3 ≤ 4; decide) (hh _)
      simp only [List.mem_cons, List.not_mem_nil, or_false]
      rintro a (rfl | rfl | rfl)
      · exact hq
      · exact hp
      · exact ht
    | md pr pk =>
      have := pr.1
      obtain ⟨v, rfl, v0, v1⟩ := num_md (by omega) a
      obtain ⟨w, rfl, w0, w1⟩ := num_md (by omega) b
      obtain ⟨u, rfl, u0, u1⟩ := num_md (by omega) c
      refine q_totalM (vs := [v, w, u]) (by omega) pk.2.1 ?_ (by show 3 ≤ 900; decide) (hh _)
      simp only [List.mem_cons, List.not_mem_nil, or_false]
      rintro a (rfl | rfl | rfl) <;> omega
  | cons w r =>
    refine w_bodyV (by simp) (by simp) rfl ?_
    show FP _ (b_Field_total [some f, some (.tup [x, y, z]), none, none] s)
    unfold b_Field_total
    wtm_at "s"
    repeat wtm_at "e"
    refine k.methX rfl ?_
    repeat wtm_at "e"
    refine q_needX k (l := [x, y, z]) ?_ (by show 3 ≤ 100; decide) (fun z => by rw [e] at z; cases z) he
    simp only [List.mem_cons, List.not_mem_nil, or_false]
    rintro d (rfl | rfl | rfl)
    · exact hx
    · exact hy
    · exact hz
/-! what a call tells -/
noncomputable abbrev wT (s : Sto) (x : D) : D := .tup [.str "wrong", .str (rpT s x), .bl true]
abbrev T0 (s : Sto) : Prop := s[0]? = some (some (.tab "law"))
def Told (s : Sto) (R : Res D) (v : D) : Prop :=
  (∃ d, R = .ok d s ∧ v = .tup [.str "told", d]) ∨ (∃ x, R = .exc "InvalidNumber" [("value", x)] s ∧ RO s x ∧ v = wT s x) ∨ (R = .exc "NoQuotient" [] s ∧ v = .tup [.str "none"])
theorem told_fp {te : DE} {r : En} {v : D} (h : Told s (te r s) v) (fa c : PySem.Addr) (q : Str) (t : L2.St) : FP (retQ v s) (b__law_told_of (thM fa c q t r te) (some (.clo fa c q t r) :: List.replicate 1 none) s) := by
  unfold b__law_told_of
  rcases h with ⟨d, e, rfl⟩ | ⟨x, e, hx, rfl⟩ | ⟨e, rfl⟩
  · repeat wtm_at "w"
    refine w_th rfl (RP.of e ?_)
    repeat wtm_at "w"
    exact ⟨rfl, rfl⟩
  · repeat wtm_at "w"
    refine w_th rfl (RP.ofx e ?_)
    refine w_manyAs (.tup [.str "wrong", .str (rpT s x), .bl true]) s rfl (fun a d => ?_) ⟨rfl, rfl⟩
    repeat wtm_at "w"
    refine ⟨_, _, _, rfl, rfl, ?_⟩
    refine o_reprX hx ?_
    repeat wtm_at "w"
    exact ⟨rfl, rfl⟩
  · repeat wtm_at "w"
    refine w_th rfl (RP.ofx e ?_)
    dsimp only
    refine w_manyNo (hb := ?hb) ?_
    case hb => rfl
    refine w_manyPl (hb := ?hb) ?_
    case hb => rfl
    repeat wtm_at "w"
    exact ⟨rfl, rfl⟩
theorem w_lamT {te : DE} {r : En} {v : D} (h0 : T0 s) (h : Told s (te r s) v) (hq : Q v s) : RP Q E (lamM 0 "law" 1 b__law_told_of te r s) := w_lam v s h0 (fun fa c t => told_fp h fa c _ t) hq
theorem w_lamC {tab : List (LamT × DE)} {cl0 : List (Str × PySem.Addr)} {ma : DE} {k : Nat} {T : LamT} {te : DE} {r : En} {v : D} (h1 : ma r s = .ok (.lam k T (L2.cloFrom cl0 T.scope.names [])) s) (h2 : tab[k]? = some (T, te)) (h : Told s (te r s) v) (hq : Q v s) : RP Q E (lamCM 1 b__law_told_of tab cl0 ma r s) := by
  rw [lamCM_eq (R := .ok v s) h1 h2 fun fa c t => by rw [(told_fp h fa c _ t).rt_eq]; rfl]
  exact hq
theorem w_pmN {n : Nat} {π : List Nat} {mk : DM (List D)} {r : En} {Q : List D → Sto → Prop} (h : RP (fun es s' => es.length = n ∧ Q (pickL π es) s') E (mk r s)) : RP Q E (pmN n π mk r s) := w_bind (h.mono (fun es s ⟨e, h⟩ => by
  show RP Q E ((if es.length = n then pureM (pickL π es) else fun _ _ => .bad) r s)
  rw [if_pos e]
  exact h) fun _ _ _ h => h)
end
end G
set_option Elab.async false
set_option linter.all false
set_option maxRecDepth 100000
set_option maxHeartbeats 4000000
namespace G
open Mp Pl
open PySem (Str sizeLine)
local macro_rules | `(tactic| wtm_at "e") => `(tactic| first
  | with_reducible refine w_set ?_
  | with_reducible refine w_bin ?_
  | ((with_reducible refine w_v (d := ?dv) ?hv ?_); (case hv => exact rfl))
  | with_reducible refine w_c ?_
  | with_reducible refine w_cons ?_
  | with_reducible refine w_nil ?_
  | with_reducible refine w_arg ?_
  | with_reducible refine w_call ?_
  | with_reducible refine w_if ?_
  | with_reducible refine w_ret ?_
  | with_reducible refine w_skip ?_
  | with_reducible refine w_bl ?_
  | with_reducible refine w_tru ?_
  | with_reducible refine w_attr ?_
  | with_reducible refine w_meth ?_
  | with_reducible refine w_chain ?_
  | with_reducible refine w_and ?_
  | with_reducible refine w_or ?_
  | with_reducible refine w_not ?_
  | with_reducible refine w_notT ?_
  | with_reducible refine w_andT ?_
  | with_reducible refine w_orT ?_
  | with_reducible refine w_ifM ?_
  | with_reducible refine w_expr ?_
  | with_reducible refine w_un ?_
  | with_reducible refine w_par2 ?_
  | with_reducible refine w_par3 ?_
  | with_reducible refine w_asg ?_
  | with_reducible refine w_aug ?_
  | with_reducible refine w_sub ?_
  | with_reducible refine w_fld ?_
  | with_reducible refine w_raise ?_
  | with_reducible refine w_raise0 ?_
  | with_reducible refine w_try ?_
  | with_reducible refine w_make ?_
  | with_reducible refine w_tryAs ?_
  | with_reducible refine w_exn ?_
  | ((with_reducible refine o_isx (b := ?bv) ?h1 ?_); (case h1 => exact rfl))
  | with_reducible refine w_superS ?_
  | with_reducible refine w_super ?_
  | with_reducible refine w_star ?_
  | with_reducible refine w_for0 ?_
  | with_reducible refine w_lc0 ?_
  | with_reducible refine w_lc20 ?_
  | with_reducible refine w_seqJ ?_
  | with_reducible refine w_starC ?_
  | with_reducible refine w_spr ?_
  | with_reducible refine w_tryN ?_
  | ((with_reducible refine o_own0 ?hv ?_); (case hv => exact rfl))
  | ((with_reducible refine o_eqO0 ?hv ?_); (case hv => exact rfl))
  | with_reducible refine w_seqI ?_
  | with_reducible refine w_argI ?_
  | with_reducible refine w_opt ?_
  | with_reducible refine w_sli ?_
  | with_reducible refine w_pure ?_
  | with_reducible refine w_disp ?_
  | with_reducible refine w_pairs1 ?_
  | with_reducible refine w_pairs0 ?_
  | with_reducible refine w_retN ?_
  | with_reducible refine w_cnt ?_
  | with_reducible refine w_brk ?_
  | with_reducible refine o_addI ?_
  | with_reducible refine o_addI' ?_
  | with_reducible refine o_sub ?_
  | with_reducible refine o_lt ?_
  | with_reducible refine o_le ?_
  | with_reducible refine o_gt ?_
  | with_reducible refine o_ge ?_
  | with_reducible refine o_eqI ?_
  | with_reducible refine o_neI ?_
  | with_reducible refine o_eqS ?_
  | with_reducible refine o_neS ?_
  | with_reducible refine o_int ?_
  | with_reducible refine o_intB ?_
  | with_reducible refine o_neg ?_
  | with_reducible refine o_abs ?_
  | with_reducible refine o_newL ?_
  | with_reducible refine o_max2 ?_
  | with_reducible refine o_min2 ?_
  | with_reducible refine o_lenL ?_
  | with_reducible refine o_lenT ?_
  | ((with_reducible refine o_tup ?hv ?_); (case hv => first | exact Nat.le_of_ble_eq_true rfl | assumption))
  | ((with_reducible refine o_lst ?hv ?_); (case hv => first | exact Nat.le_of_ble_eq_true rfl | assumption))
  | ((with_reducible refine o_isi (t := ?tv) (b := ?bv) ?h1 ?h2 ?_); (case h1 => exact rfl); (case h2 => exact rfl))
  | ((with_reducible refine o_fld (C := ?cv) (fs := ?fv) (d := ?dv) ?h1 ?h2 ?h3 ?_); (case h1 => exact rfl); (case h2 => exact rfl); (case h3 => exact rfl))
  | ((with_reducible refine Exists.intro ?kv (And.intro ?ha ?_)); (case ha => exact rfl)))
local macro_rules | `(tactic| wtm_at "body") => `(tactic| (refine w_body rfl rfl ?_; dsimp only [List.length_cons, List.length_nil, List.drop, List.append_nil, List.map_cons, List.map_nil, List.map, List.cons_append, List.nil_append, Nat.reduceAdd, Nat.reduceSub, List.replicate]))
local macro_rules | `(tactic| wtm_at "meth") => `(tactic| refine ⟨_, _, _, rfl, rfl, rfl, ?_⟩)
local macro_rules | `(tactic| wtm_at "w") => `(tactic| first | with_reducible refine w_seq ?_ | wtm_at "e")
local macro_rules | `(tactic| wtm_at "s") => `(tactic| ((repeat wtm_at "e"); (with_reducible refine w_seq ?_)))
local macro_rules | `(tactic| wtm_at "f") => `(tactic| ((repeat wtm_at "e"); (with_reducible show FP _ _)))
/-! numbers refused: the law -/
open PySem (PyData) in
theorem shaped3 {a z : Str} {p : Bool} (ha : PyData.strOk a = true) (hz : PyData.strOk z = true) : PySem.SeqAt.shaped (.tuple [.str a, .str z, .bool p]) = true := by
  unfold PySem.SeqAt.shaped
  rw [show PyData.canLay0 (.tuple [.str a, .str z, .bool p]) = (PyData.strOk a && (PyData.strOk z && (true && true))) from rfl, ha, hz]
  rfl
open PySem (PyData) in
theorem eqv3 {a z : Str} {p : Bool} : PyData.eqv (.tuple [.str a, .str z, .bool p]) (.tuple [.str a, .str z, .bool p]) = true := by
  show ((a == a) && ((z == z) && ((p == p) && true))) = true
  simp
section
variable {s : Sto} {Q : D → Sto → Prop} {E : XT}
open PySem (PyData)
theorem o_neT3 {a z : Str} {p : Bool} (ha : PyData.strOk a = true) (hz : PyData.strOk z = true) (h : Q (.bl false) s) : RP Q E (neD (.tup [.str a, .str z, .bl p]) (.tup [.str a, .str z, .bl p]) s) := by
  have e : neD (.tup [.str a, .str z, .bl p]) (.tup [.str a, .str z, .bl p]) s = .ok (.bl false) s := by
    show eqG true _ _ s = _
    unfold eqG
    dsimp only
    unfold eqG0
    rw [show toPy (.tup [.str a, .str z, .bl p]) = some (.tuple [.str a, .str z, .bool p]) from rfl]
    dsimp only
    rw [shaped3 ha hz, if_pos (show (true && true) = true from rfl), eqv3]
    rfl
  rw [e]
  exact h
end
section
variable {s : Sto} {Q : D → Sto → Prop} {E : XT} {P : Int} {f d x y z : D}
/-! reprs are sound texts -/
theorem flat_snd (h : Flat d) (n : Nat) : ∃ p, rdP s (n + 1) d = some p ∧ snd p := by
  rcases h with rfl | ⟨b, rfl⟩ | ⟨i, rfl, hi⟩ | ⟨z, rfl, hz⟩
  · exact ⟨.none, by simp only [rdP], trivial⟩
  · exact ⟨.bool b, by simp only [rdP], trivial⟩
  · exact ⟨.int i, by simp only [rdP], trivial⟩
  · exact ⟨.str z, by simp only [rdP], hz.2⟩
theorem flats_snd : ∀ (l : List D) (n : Nat), (∀ d ∈ l, Flat d) → l.length < n → ∃ ps, rdPs s (n + 1) l = some ps ∧ sndAll ps
  | [], n, _, _ => ⟨[], by simp only [rdPs], trivial⟩
  | d :: l, 0, _, hn => by simp at hn
  | d :: l, n + 1, h, hn => by
    obtain ⟨p, e1, a1⟩ := flat_snd (s := s) (h d (by simp)) n
    obtain ⟨ps, e2, b1⟩ := flats_snd l n (fun x hx => h x (by simp [hx])) (by simpa using hn)
    refine ⟨p :: ps, ?_, a1, b1⟩
    simp only [rdPs, e1, e2]
    rfl
theorem Th.sok (h : Th s d) : PySem.PyData.strOk (rpT s d) = true := by
  have key : ∀ p, rdP s 99 d = some p → snd p → PySem.PyData.strOk (rpT s d) = true := fun p e hp => by
    unfold rpT
    rw [e]
    exact SOk.iff.mp (shown_snd p hp)
  cases h with
  | flat h =>
    obtain ⟨p, e, hp⟩ := flat_snd (s := s) h 98
    exact key p e hp
  | @tup l h hl =>
    obtain ⟨ps, e, hp⟩ := flats_snd (s := s) l 97 h (by omega)
    exact key (.tuple ps) (by simp only [rdP, e]; rfl) hp
  | @lst l h hl =>
    obtain ⟨ps, e, hp⟩ := flats_snd (s := s) l 97 h (by omega)
    exact key (.list ps) (by simp only [rdP, e]; rfl) hp
  | d0 h =>
    refine key (.dict []) ?_ trivial
    simp only [rdP, h, List.map_nil, rdPs]
    rfl
  | d1 h =>
    refine key (.dict [(.str "a", .int 1)]) ?_ ⟨SOk.iff.mpr (by decide +kernel), trivial, trivial⟩
    simp only [rdP, h, List.map_cons, List.map_nil, rdPs]
    rfl
/-! a list, written or in a cell -/
def LstAt (s : Sto) (d : D) (l : List D) : Prop := d = .lst l ∨ ∃ j, d = .cel j ∧ s[j]? = some (some (.lst l))
theorem LstAt.src {l : List D} (h : LstAt s d l) : ∃ c : Src, srcD s d = some c ∧ c.its = l ∧ SrcOk c s := by
  rcases h with rfl | ⟨j, rfl, hj⟩
  · exact ⟨⟨l, none⟩, rfl, rfl, trivial⟩
  · refine ⟨⟨l, some j⟩, ?_, rfl, hj⟩
    unfold srcD
    dsimp only
    rw [hj]
theorem w_lcSY {T : Type} {c : Src} {g : DG} {tt : DM Bool} {te : DE} {r : En} {Q : List D → Sto → Prop} (xs : List T) (f F : T → D) (C : T → Bool) (hi : c.its = xs.map f) (hc : SrcOk c s) (hl : xs.length ≤ sizeLine)
    (hs : ∀ x ∈ xs, ∃ p, g (f x) r s = some (p, s) ∧ RP (fun k s1 => s1 = s ∧ k = C x) noX (tt p s) ∧ (C x = true → RP (fun y t => t = s ∧ y = F x) noX (te p s))) (he : Q ((xs.filter C).map F) s) : RP Q E (lcF c g tt te r c.its [] s) := by
  refine lcF_inv (fun i l s' => s' = s ∧ l = ((xs.take i).filter C).map F ∧ l.length ≤ i) (fun i l s' h => by rw [h.1]; exact hc) ?_ ?_ c.its 0 [] s (Nat.zero_le _) rfl ⟨rfl, by simp, Nat.le_refl _⟩
  · rintro i d l s' hd ⟨rfl, e2, e3⟩
    rw [hi, List.getElem?_map] at hd
    cases ex : xs[i]? with
    | none => rw [ex] at hd; cases hd
    | some x =>
      rw [ex] at hd
      cases hd
      have hil := (List.getElem?_eq_some_iff.mp ex).1
      obtain ⟨p, h1, h2, h3⟩ := hs x (List.mem_of_getElem? ex)
      refine ⟨_, h1, ?_⟩
      refine RP.of h2.eqn ⟨fun hk => ?_, fun hk => ?_⟩
      · refine RP.of (h3 hk).eqn ⟨by omega, rfl, ?_, by simp; omega⟩
        rw [e2, List.take_succ, ex]
        simp [hk]
      · refine ⟨rfl, ?_, by omega⟩
        rw [e2, List.take_succ, ex]
        simp [hk]
  · rintro l s' ⟨rfl, e2, _⟩
    rw [hi, List.length_map, List.take_length] at e2
    rw [e2]
    exact he
theorem o_sliL1 {l : List D} (h : Q (.lst (l.take 1)) s) : RP Q E (sliD false (.lst l) none (some 1) s) := by
  unfold sliD
  dsimp only
  rw [show lstOf s (.lst l) = some l from rfl]
  dsimp only
  rw [cut_take (by omega)]
  exact h
theorem o_eqL0 {x y : D} {l : List D} (hx : lstOf s x = some l) (hy : lstOf s y = some []) (h : Q (.bl l.isEmpty) s) : RP Q E (eqL0 false x y s) := by
  unfold eqL0
  rw [hx]
  dsimp only
  rw [hy]
  exact h
/-- what is due of some values -/
noncomputable def dueL (s : Sto) (P : Int) (l : List D) : List D := ((wrg P l).map (wT s)).take 1
theorem q_first (hP : 0 ≤ P) {l : List D} {d0 : D} (h0 : LstAt s d0 l) (hl : l.length ≤ 100) (ht : ∀ x ∈ l, Th s x) (h : Q (.lst (dueL s P l)) s) : RP Q E (m__law_first_wrong [.int P, d0] s) := by
  have hz : sizeLine = 16777216 := by decide
  have hw : (wrg P l).length ≤ 100 := Nat.le_trans (List.length_filter_le ..) hl
  wtm_at "body"
  unfold b__law_first_wrong
  wtm_at "s"
  repeat wtm_at "e"
  obtain ⟨c, e1, e2, e3⟩ := h0.src
  refine ⟨c, e1, ?_⟩
  refine w_lcSY l id id (fun x => !numB P x) (by rw [e2, List.map_id]) e3 (by omega) (fun x hx => ⟨[some (.int P), some d0, none, some x], rfl, ?_, fun _ => ?_⟩) ?_
  · repeat wtm_at "e"
    refine q_lnumX hP (ht x hx).ok2 ?_
    repeat wtm_at "e"
    exact ⟨rfl, rfl⟩
  · repeat wtm_at "e"
    exact ⟨rfl, rfl⟩
  rw [List.map_id]
  show RP _ _ (newL false (wrg P l) s)
  repeat wtm_at "e"
  refine w_lcSY (c := ⟨wrg P l, none⟩) (wrg P l) id (wT s) (fun _ => true) (by rw [List.map_id]) trivial (by omega) (fun x hx => ⟨[some (.int P), some d0, some (.lst (wrg P l)), some x], rfl, ⟨rfl, rfl⟩, fun _ => ?_⟩) ?_
  · have hx := (List.mem_filter.mp hx).1
    repeat wtm_at "e"
    refine o_reprX (ht x hx).ro ?_
    repeat wtm_at "e"
    exact ⟨rfl, rfl⟩
  rw [List.filter_eq_self.mpr fun _ _ => rfl]
  repeat wtm_at "e"
  refine o_sliL1 ?_
  exact h
/-! what a call tells and what is due -/
def Mt (s : Sto) (l : List D) (v : D) : Prop := (l = [] ∧ ∃ d, v = .tup [.str "told", d]) ∨ ∃ z l', l = z :: l' ∧ v = wT s z ∧ Th s z
theorem told_of {l : List D} (hl : ∀ z ∈ l, Th s z) {R : Res D} (h : RP (fun _ s' => s' = s ∧ wrg P l = []) (fun C fs s' => s' = s ∧ ∃ z l', wrg P l = z :: l' ∧ C = "InvalidNumber" ∧ fs = [(("value" : Str), z)]) R) : ∃ v, Told s R v ∧ Mt s (wrg P l) v := by
  cases R with
  | ok d s' =>
    obtain ⟨rfl, h⟩ := h
    exact ⟨_, .inl ⟨d, rfl, rfl⟩, .inl ⟨h, d, rfl⟩⟩
  | exc C fs s' =>
    obtain ⟨rfl, z, l', e, rfl, rfl⟩ := h
    have hz : z ∈ wrg P l := by rw [e]; exact List.mem_cons_self
    have hz := hl z (List.mem_filter.mp hz).1
    exact ⟨_, .inr (.inl ⟨z, rfl, hz.ro, rfl⟩), .inr ⟨z, l', e, rfl, hz⟩⟩
  | bad => exact h.elim
/-- no difference is found -/
def Due (s : Sto) (due : List D) (v : D) : Prop := (due = [] ∧ ∃ d, v = .tup [.str "told", d]) ∨ ∃ rest, due = v :: rest ∧ neD v v s = .ok (.bl false) s
theorem ne_wT (h : Th s z) : neD (wT s z) (wT s z) s = .ok (.bl false) s := by
  obtain ⟨a, s', e, rfl, rfl⟩ := (o_neT3 (Q := fun a s' => a = .bl false ∧ s' = s) (E := noX) (s := s) (a := "wrong") (z := rpT s z) (p := true) (by decide +kernel) h.sok ⟨rfl, rfl⟩).ex
  exact e
theorem Mt.due {l : List D} {v : D} (h : Mt s (wrg P l) v) : Due s (dueL s P l) v := by
  unfold dueL
  rcases h with ⟨e, d, rfl⟩ | ⟨z, l', e, rfl, hz⟩
  · exact .inl ⟨by rw [e]; rfl, d, rfl⟩
  · exact .inr ⟨[], by rw [e]; rfl, ne_wT hz⟩
theorem w_ifT {c a b : DM Bool} {r : En} {Q : Bool → Sto → Prop} (h : RP (fun k s1 => (k = true → RP Q E (a r s1)) ∧ (k = false → RP Q E (b r s1))) E (c r s)) : RP Q E (ifT c a b r s) := w_bind (h.mono (fun k s h => by
  cases k
  · exact h.2 rfl
  · exact h.1 rfl) fun _ _ _ h => h)
theorem chk {q : PQ} {r : En} {due : List D} {v : D} (h6 : r[6]? = some (some (.lst due))) (h8 : r[8]? = some (some v)) (h : Due s due v) (hq : q.nx r s) : FP q (ifS (ifT (blM (binM (eqL0 false) (vM 6) (argM (lstD false) nilA))) (blM (binM neD (binM idxD (vM 8) (cM (.int 0))) (cM (.str "told")))) (blM (binM neD (vM 8) (binM idxD (vM 6) (cM (.int 0)))))) (retS (cM (.bl false))) skipS r s) := by
  refine w_if (w_ifT ?_)
  refine w_bl (w_bin (w_v h6 (w_arg (w_nil (o_lst (by decide) ?_)))))
  refine o_eqL0 (l := due) rfl rfl ⟨_, rfl, fun hk => ?_, fun hk => ?_⟩
  · rcases h with ⟨rfl, d, rfl⟩ | ⟨rest, rfl, e⟩
    · refine w_bl (w_bin (w_bin (w_v h8 (w_c ?_))))
      refine o_idxT (k := 0) rfl rfl (w_c ?_)
      refine o_neS ⟨_, rfl, fun z => ?_, fun _ => w_skip hq⟩
      simp at z
    · cases hk
  · rcases h with ⟨rfl, d, rfl⟩ | ⟨rest, rfl, e⟩
    · cases hk
    · refine w_bl (w_bin (w_v h8 (w_bin (w_v h6 (w_c ?_)))))
      refine o_idxL (k := 0) rfl rfl ?_
      exact RP.of e ⟨_, rfl, fun z => (by cases z), fun _ => w_skip hq⟩
/-! the calls -/
noncomputable abbrev plusE : DE := methM [("Fractions", m_Field_plus), ("Modulo", m_Field_plus)] "plus" (vM 9) (pmN 2 [1, 0] (consA (vM 14) (consA (vM 13) nilA)))
noncomputable abbrev minusE : DE := methM [("Fractions", m_Field_minus), ("Modulo", m_Field_minus)] "minus" (vM 9) (consA (vM 13) (consA (vM 14) nilA))
noncomputable abbrev timesE : DE := methM [("Fractions", m_Field_times), ("Modulo", m_Field_times)] "times" (vM 9) (pmN 2 [1, 0] (consA (vM 14) (consA (vM 13) nilA)))
noncomputable abbrev overE : DE := methM [("Fractions", m_Field_over), ("Modulo", m_Field_over)] "over" (vM 9) (pmN 2 [1, 0] (consA (vM 14) (consA (vM 13) nilA)))
noncomputable abbrev totalE : DE := methM [("Fractions", m_Field_total), ("Modulo", m_Field_total)] "total" (vM 9) (consA (vM 13) (consA (vM 14) (consA (vM 15) nilA)))
variable {r : En}
theorem th_two (hx : Th s x) (hy : Th s y) : ∀ d ∈ [x, y], Th s d := by
  simp only [List.mem_cons, List.not_mem_nil, or_false]
  rintro d (rfl | rfl)
  · exact hx
  · exact hy
theorem th_three (hx : Th s x) (hy : Th s y) (hz : Th s z) : ∀ d ∈ [x, y, z], Th s d := by
  simp only [List.mem_cons, List.not_mem_nil, or_false]
  rintro d (rfl | rfl | rfl)
  · exact hx
  · exact hy
  · exact hz
theorem t_plus (k : Kd P f) (h9 : r[9]? = some (some f)) (h13 : r[13]? = some (some x)) (h14 : r[14]? = some (some y)) (hx : Th s x) (hy : Th s y) : ∃ v, Told s (plusE r s) v ∧ Mt s (wrg P [x, y]) v := by
  refine told_of (th_two hx hy) (w_meth (w_v h9 (k.methX rfl (w_pmN (w_cons (w_v h14 (w_cons (w_v h13 (w_nil ⟨rfl, ?_⟩)))))))))
  exact q_plusX k hx.ok2 hy.ok2 (fun e d => ⟨rfl, e⟩) fun z l e => ⟨rfl, z, l, e, rfl, rfl⟩
theorem t_times (k : Kd P f) (h9 : r[9]? = some (some f)) (h13 : r[13]? = some (some x)) (h14 : r[14]? = some (some y)) (hx : Th s x) (hy : Th s y) : ∃ v, Told s (timesE r s) v ∧ Mt s (wrg P [x, y]) v := by
  refine told_of (th_two hx hy) (w_meth (w_v h9 (k.methX rfl (w_pmN (w_cons (w_v h14 (w_cons (w_v h13 (w_nil ⟨rfl, ?_⟩)))))))))
  exact q_timesX k hx.ok2 hy.ok2 (fun e d => ⟨rfl, e⟩) fun z l e => ⟨rfl, z, l, e, rfl, rfl⟩
theorem t_minus (k : Kd P f) (h9 : r[9]? = some (some f)) (h13 : r[13]? = some (some x)) (h14 : r[14]? = some (some y)) (hx : Th s x) (hy : Th s y) : ∃ v, Told s (minusE r s) v ∧ Mt s (wrg P [x, y]) v := by
  refine told_of (th_two hx hy) (w_meth (w_v h9 (k.methX rfl (w_cons (w_v h13 (w_cons (w_v h14 (w_nil ?_))))))))
  exact q_minusX k hx.ok2 hy.ok2 (fun e d => ⟨rfl, e⟩) fun z l e => ⟨rfl, z, l, e, rfl, rfl⟩
theorem t_total (k : Kd P f) (h9 : r[9]? = some (some f)) (h13 : r[13]? = some (some x)) (h14 : r[14]? = some (some y)) (h15 : r[15]? = some (some z)) (hx : Th s x) (hy : Th s y) (hz : Th s z) : ∃ v, Told s (totalE r s) v ∧ Mt s (wrg P [x, y, z]) v := by
  refine told_of (th_three hx hy hz) (w_meth (w_v h9 (k.methX rfl (w_cons (w_v h13 (w_cons (w_v h14 (w_cons (w_v h15 (w_nil ?_))))))))))
  exact q_totalX k hx.ok2 hy.ok2 hz.ok2 (fun e d => ⟨rfl, e⟩) fun z l e => ⟨rfl, z, l, e, rfl, rfl⟩
theorem ne_none : neD (.tup [.str "none"]) (.tup [.str "none"]) s = .ok (.bl false) s := by
  show eqG true _ _ _ = _
  unfold eqG
  dsimp only
  unfold eqG0
  rw [show toPy (.tup [.str "none"]) = some (.tuple [.str "none"]) from rfl]
  dsimp only
  rw [if_pos (by decide +kernel)]
  rfl
/-- what is due of a quotient -/
noncomputable def dueO (s : Sto) (P : Int) (x y : D) : List D := by
  classical
  exact if wrg P [x, y] = [] ∧ y = .int 0 then [.tup [.str "none"]] else dueL s P [x, y]
theorem t_over (k : Kd P f) (h9 : r[9]? = some (some f)) (h13 : r[13]? = some (some x)) (h14 : r[14]? = some (some y)) (hx : Th s x) (hy : Th s y) : ∃ v, Told s (overE r s) v ∧ Due s (dueO s P x y) v := by
  classical
  have h : RP (fun _ s' => s' = s ∧ wrg P [x, y] = [] ∧ y ≠ .int 0) (fun C fs s' => s' = s ∧ ((∃ z l', wrg P [x, y] = z :: l' ∧ C = "InvalidNumber" ∧ fs = [(("value" : Str), z)]) ∨ (wrg P [x, y] = [] ∧ y = .int 0 ∧ C = "NoQuotient" ∧ fs = []))) (overE r s) := by
    refine w_meth (w_v h9 (k.methX rfl (w_pmN (w_cons (w_v h14 (w_cons (w_v h13 (w_nil ⟨rfl, ?_⟩))))))))
    exact q_overX k hx.ok2 hy.ok2 (fun e e0 d => ⟨rfl, e, e0⟩) (fun e e0 => ⟨rfl, .inr ⟨e, e0, rfl, rfl⟩⟩) fun z l e => ⟨rfl, .inl ⟨z, l, e, rfl, rfl⟩⟩
  unfold dueO
  generalize overE r s = R at h
  cases R with
  | ok d s' =>
    obtain ⟨rfl, e, e0⟩ := h
    refine ⟨_, .inl ⟨d, rfl, rfl⟩, ?_⟩
    rw [if_neg fun w => e0 w.2]
    exact Mt.due (.inl ⟨e, d, rfl⟩)
  | exc C fs s' =>
    obtain ⟨rfl, ⟨z, l', e, rfl, rfl⟩ | ⟨e, e0, rfl, rfl⟩⟩ := h
    · have hz : z ∈ wrg P [x, y] := by rw [e]; exact List.mem_cons_self
      have hz := th_two hx hy z (List.mem_filter.mp hz).1
      refine ⟨_, .inr (.inl ⟨z, rfl, hz.ro, rfl⟩), ?_⟩
      rw [if_neg fun w => by rw [e] at w; cases w.1]
      exact Mt.due (.inr ⟨z, l', e, rfl, hz⟩)
    · refine ⟨_, .inr (.inr ⟨rfl, rfl⟩), ?_⟩
      rw [if_pos ⟨e, e0⟩]
      exact .inr ⟨[], rfl, ne_none⟩
  | bad => exact h.elim
/-! the draws -/
theorem qD_th {q : Rat} (h : Short q) : Th s (qD q) := by
  have e : 10 ^ 100 < 2 ^ 1000 := by decide +kernel
  by_cases hd : q.den = 1
  · rw [qD_int hd]
    exact .flat (flatI (Nat.lt_trans h.1 e))
  · rw [qD_tup hd]
    exact .tup (flats2 (flatI (Nat.lt_trans h.1 e)) (flatI (Nat.lt_trans h.2 e))) (by simp)
theorem q_any_numberK {n : Nat} {b : Int} (k : Kd P f) (hp : Pen s n b) (hb : b + 60 ≤ 1000000000) (h : ∀ d s', Th s' d → PF n s s' (b + 36) → Q d s') : RP Q E (m__law_any_number [.cel n, .int P, .bl false] s) := by
  cases k with
  | fr => exact q_any_numberF hp hb fun q s' hq _ pf => h _ s' (qD_th hq) pf
  | md pr pk =>
    have hp2 := pk.2.1
    have e : (1000000000 : Nat) < 2 ^ 1000 := by decide +kernel
    refine q_any_numberM hp (by omega) pk.1 pk.2.1 fun v s' h0 h1 pf => ?_
    have hv : v.natAbs < 2 ^ 1000 := by omega
    exact h _ s' (.flat (flatI hv)) pf
theorem Kd.range (k : Kd P f) : 0 ≤ P ∧ P ≤ 1000000000 := by
  cases k with
  | fr => decide
  | md pr pk => exact ⟨by omega, pk.2.1⟩
theorem isi_field (k : Kd P f) : isiD it0 [f, .glo "Field"] s = .ok (.bl true) s := by
  cases k <;> rfl
theorem Th.app {c : Option Ct} (h : Th s d) : Th (s ++ [c]) d := by
  have key : ∀ {k : Nat} {m : Option Ct}, s[k]? = some m → (s ++ [c])[k]? = some m := fun {k m} e => by
    rw [List.getElem?_append_left (List.getElem?_eq_some_iff.mp e).1]
    exact e
  cases h with
  | flat h => exact .flat h
  | tup h hl => exact .tup h hl
  | lst h hl => exact .lst h hl
  | d0 h => exact .d0 (key h)
  | d1 h => exact .d1 (key h)
theorem Th.setL {k : Nat} {l : List D} {c : Option Ct} (h : Th s d) (hk : s[k]? = some (some (.lst l))) : Th (s.set k c) d := by
  have key : ∀ {j : Nat} {m : List (L2.Key × D)}, s[j]? = some (some (.dct m)) → (s.set k c)[j]? = some (some (.dct m)) := fun {j m} e => by
    rw [List.getElem?_set_ne fun z => by
      subst z
      rw [hk] at e
      cases e]
    exact e
  cases h with
  | flat h => exact .flat h
  | tup h hl => exact .tup h hl
  | lst h hl => exact .lst h hl
  | d0 h => exact .d0 (key h)
  | d1 h => exact .d1 (key h)
theorem pen_set {n k : Nat} {b : Int} {c : Option Ct} (p : Pen s n b) (h : n ≠ k) : Pen (s.set k c) n b := by
  obtain ⟨cells, g, l, hs, hc⟩ := p
  exact ⟨cells, g, l, by rw [List.getElem?_set_ne fun z => h z.symm]; exact hs, hc⟩
theorem T0.fr {s' : Sto} (h : T0 s) (f : Fr 1 s s') : T0 s' := (f.2 0 (List.getElem?_eq_some_iff.mp h).1 (by decide)).trans h
theorem T0.app {c : Option Ct} (h : T0 s) : T0 (s ++ [c]) := by
  unfold T0
  rw [List.getElem?_append_left (List.getElem?_eq_some_iff.mp h).1]
  exact h
theorem T0.set {k : Nat} {c : Option Ct} (h : T0 s) (hk : k ≠ 0) : T0 (s.set k c) := by
  unfold T0
  rw [List.getElem?_set_ne hk]
  exact h
theorem fr_at {s' : Sto} {k : Nat} {c : Option Ct} (f : Fr 1 s s') (hk : k ≠ 1) (h : s[k]? = some c) : s'[k]? = some c := (f.2 k (List.getElem?_eq_some_iff.mp h).1 hk).trans h
theorem lst_cel {k : Nat} {l : List D} (h : s[k]? = some (some (.lst l))) : lstOf s (.cel k) = some l := by
  unfold lstOf
  dsimp only
  unfold lstX
  dsimp only
  rw [h]
theorem o_sliC2 {k : Nat} (h : s[k]? = some (some (.lst [x, y, z]))) (hq : Q (.lst [x, y]) s) : RP Q E (sliD false (.cel k) none (some 2) s) := by
  unfold sliD
  dsimp only
  rw [lst_cel h]
  dsimp only
  rw [cut_take (by omega)]
  exact hq
theorem dueL_nil {l : List D} (h : (dueL s P l).isEmpty = true) : wrg P l = [] := by
  unfold dueL at h
  cases e : wrg P l with
  | nil => rfl
  | cons a b =>
    rw [e] at h
    cases h
theorem w_lamV {y : Str} {i k : Nat} {T : LamT} {cl0 : List (Str × PySem.Addr)} {r : En} (h0 : s[i]? = some (some (.tab y))) (h : Q (.lam k T (L2.cloFrom cl0 T.scope.names [])) s) : RP Q E (lamV i y k T cl0 r s) := by
  unfold lamV
  rw [if_pos h0]
  exact h
theorem o_rep0 {l : List D} (h : Q (.lst []) s) : RP Q E (mulD (.lst l) (.int 0) s) := by
  unfold mulD
  dsimp only
  rw [show lstX s (.lst l) = some l from rfl]
  dsimp only
  rw [if_pos ⟨by decide, by decide, by show l.length * 0 ≤ _; rw [Nat.mul_zero]; exact Nat.zero_le _⟩]
  exact h
theorem q_eq0 (k : Kd P f) (h : numB P y = true) : ∃ b, eqD y (.int 0) s = .ok (.bl b) s ∧ (b = true ↔ y = .int 0) := by
  cases k with
  | fr =>
    obtain ⟨q, hq, rfl⟩ := num_fr h
    refine ⟨decide (q = 0), ?_, ?_⟩
    · have e := eq_qD (p := q) (q := 0) (s := s)
      rw [qD_zero] at e
      exact e
    · rw [decide_eq_true_iff]
      exact ⟨fun e => by rw [e]; rfl, qD_null⟩
  | md pr pk =>
    have := pr.1
    obtain ⟨v, rfl, v0, v1⟩ := num_md (by omega) h
    refine ⟨decide (v = 0), rfl, ?_⟩
    rw [decide_eq_true_iff]
    exact ⟨fun e => by rw [e], fun e => by injection e⟩
end
end G
set_option Elab.async false
set_option linter.all false
set_option maxRecDepth 100000
set_option maxHeartbeats 4000000
namespace G
open Mp Pl
open PySem (Str sizeLine)
local macro_rules | `(tactic| wtm_at "e") => `(tactic| first
  | with_reducible refine w_set ?_
  | with_reducible refine w_bin ?_
  | ((with_reducible refine w_v (d := ?dv) ?hv ?_); (case hv => exact rfl))
  | with_reducible refine w_c ?_
  | with_reducible refine w_cons ?_
  | with_reducible refine w_nil ?_
  | with_reducible refine w_arg ?_
  | with_reducible refine w_call ?_
  | with_reducible refine w_if ?_
  | with_reducible refine w_ret ?_
  | with_reducible refine w_skip ?_
  | with_reducible refine w_bl ?_
  | with_reducible refine w_tru ?_
  | with_reducible refine w_attr ?_
  | with_reducible refine w_meth ?_
  | with_reducible refine w_chain ?_
  | with_reducible refine w_and ?_
  | with_reducible refine w_or ?_
  | with_reducible refine w_not ?_
  | with_reducible refine w_notT ?_
  | with_reducible refine w_andT ?_
  | with_reducible refine w_orT ?_
  | with_reducible refine w_ifM ?_
  | with_reducible refine w_expr ?_
  | with_reducible refine w_un ?_
  | with_reducible refine w_par2 ?_
  | with_reducible refine w_par3 ?_
  | with_reducible refine w_asg ?_
  | with_reducible refine w_aug ?_
  | with_reducible refine w_sub ?_
  | with_reducible refine w_fld ?_
  | with_reducible refine w_raise ?_
  | with_reducible refine w_raise0 ?_
  | with_reducible refine w_try ?_
  | with_reducible refine w_make ?_
  | with_reducible refine w_tryAs ?_
  | with_reducible refine w_exn ?_
  | ((with_reducible refine o_isx (b := ?bv) ?h1 ?_); (case h1 => exact rfl))
  | with_reducible refine w_superS ?_
  | with_reducible refine w_super ?_
  | with_reducible refine w_star ?_
  | with_reducible refine w_for0 ?_
  | with_reducible refine w_lc0 ?_
  | with_reducible refine w_lc20 ?_
  | with_reducible refine w_seqJ ?_
  | with_reducible refine w_starC ?_
  | with_reducible refine w_spr ?_
  | with_reducible refine w_tryN ?_
  | ((with_reducible refine o_own0 ?hv ?_); (case hv => exact rfl))
  | ((with_reducible refine o_eqO0 ?hv ?_); (case hv => exact rfl))
  | with_reducible refine w_seqI ?_
  | with_reducible refine w_argI ?_
  | with_reducible refine w_opt ?_
  | with_reducible refine w_sli ?_
  | with_reducible refine w_pure ?_
  | with_reducible refine w_disp ?_
  | with_reducible refine w_pairs1 ?_
  | with_reducible refine w_pairs0 ?_
  | with_reducible refine w_retN ?_
  | with_reducible refine w_cnt ?_
  | with_reducible refine w_brk ?_
  | with_reducible refine o_addI ?_
  | with_reducible refine o_addI' ?_
  | with_reducible refine o_sub ?_
  | with_reducible refine o_lt ?_
  | with_reducible refine o_le ?_
  | with_reducible refine o_gt ?_
  | with_reducible refine o_ge ?_
  | with_reducible refine o_eqI ?_
  | with_reducible refine o_neI ?_
  | with_reducible refine o_eqS ?_
  | with_reducible refine o_neS ?_
  | with_reducible refine o_int ?_
  | with_reducible refine o_intB ?_
  | with_reducible refine o_neg ?_
  | with_reducible refine o_abs ?_
  | with_reducible refine o_newL ?_
  | with_reducible refine o_max2 ?_
  | with_reducible refine o_min2 ?_
  | with_reducible refine o_lenL ?_
  | with_reducible refine o_lenT ?_
  | ((with_reducible refine o_tup ?hv ?_); (case hv => first | exact Nat.le_of_ble_eq_true rfl | assumption))
  | ((with_reducible refine o_lst ?hv ?_); (case hv => first | exact Nat.le_of_ble_eq_true rfl | assumption))
  | ((with_reducible refine o_isi (t := ?tv) (b := ?bv) ?h1 ?h2 ?_); (case h1 => exact rfl); (case h2 => exact rfl))
  | ((with_reducible refine o_fld (C := ?cv) (fs := ?fv) (d := ?dv) ?h1 ?h2 ?h3 ?_); (case h1 => exact rfl); (case h2 => exact rfl); (case h3 => exact rfl))
  | ((with_reducible refine Exists.intro ?kv (And.intro ?ha ?_)); (case ha => exact rfl)))
local macro_rules | `(tactic| wtm_at "body") => `(tactic| (refine w_body rfl rfl ?_; dsimp only [List.length_cons, List.length_nil, List.drop, List.append_nil, List.map_cons, List.map_nil, List.map, List.cons_append, List.nil_append, Nat.reduceAdd, Nat.reduceSub, List.replicate]))
local macro_rules | `(tactic| wtm_at "meth") => `(tactic| refine ⟨_, _, _, rfl, rfl, rfl, ?_⟩)
local macro_rules | `(tactic| wtm_at "w") => `(tactic| first | with_reducible refine w_seq ?_ | wtm_at "e")
local macro_rules | `(tactic| wtm_at "s") => `(tactic| ((repeat wtm_at "e"); (with_reducible refine w_seq ?_)))
local macro_rules | `(tactic| wtm_at "f") => `(tactic| ((repeat wtm_at "e"); (with_reducible show FP _ _)))
/-! numbers refused: the law itself -/
section
theorem law_ok {ns : List Int} : ∃ s', m_law [.rol (ns.map .int)] (s0T tl0) = .ok (.bl true) s' := by
  have hz : sizeLine = 16777216 := by decide
  have e00 : (s0T tl0) = [some (.tab "law")] := rfl
  rw [e00]
  refine ⟨[some (.tab "law")], bodyL_eq rfl fun a => ?_⟩
  suffices hw : RP (fun d s' => d = .bl true ∧ T0 s') noX (bodyX 16 (b_law a) [.rol (ns.map .int)] [some (.tab "law")]) by
    obtain ⟨d, s', e, rfl, ht⟩ := hw.ex
    have e2 : bodyX (List.length ["_law_script", "_law_pen_here", "_law_turn", "_law_prime_here", "_law_k", "_law_calls", "_law_due", "_law_call", "_law_told_here", "_law_field", "_law_things", "_law_most", "_law_good", "_law_left", "_law_right", "_law_last"]) (b_law a) [.rol (ns.map .int)] [some (.tab "law")] = .ok (.bl true) s' := e
    show cutR _ (bodyX 16 (b_law a) [.rol (ns.map .int)] [some (.tab "law")]) = _
    rw [e]
    unfold cutR
    dsimp only
    rw [if_pos]
    refine ⟨?_, rfl⟩
    cases s' with
    | nil => cases ht
    | cons c l =>
      have ht : some c = some (some (Ct.tab "law")) := ht
      cases ht
      rfl
  refine w_bodyX ?_
  show FP (bodyQ _ _) (b_law a [some (.rol (ns.map .int)), none, none, none, none, none, none, none, none, none, none, none, none, none, none, none] [some (.tab "law")])
  unfold b_law
  wtm_at "s"
  repeat wtm_at "e"
  refine q_pen fun c s0 pen0 es0 => ?_
  have t0 : T0 s0 := by rw [es0]; rfl
  wtm_at "s"
  repeat wtm_at "e"
  refine w_range1 (by decide) (by decide) ?_
  refine w_for (fun i r s' => Pen s' 1 (2000 * (i : Nat)) ∧ T0 s' ∧ ∃ x2 x3 x4 x5 x6 x7 x8 x9 x10 x11 x12 x13 x14 x15 : Option D, r = [some (.rol (ns.map .int)), some (.cel 1), x2, x3, x4, x5, x6, x7, x8, x9, x10, x11, x12, x13, x14, x15]) rfl ⟨pen0.mono (by omega), t0, _, _, _, _, _, _, _, _, _, _, _, _, _, _, rfl⟩ ?_ ?_
  rotate_left
  · rintro r s' ⟨_, ht, x2, x3, x4, x5, x6, x7, x8, x9, x10, x11, x12, x13, x14, x15, rfl⟩
    repeat wtm_at "e"
    exact ⟨rfl, ht⟩
  rintro i d r s hd ⟨pen, t0, x2, x3, x4, x5, x6, x7, x8, x9, x10, x11, x12, x13, x14, x15, rfl⟩
  obtain ⟨hi, rfl⟩ := intL_get hd
  have hi : i < 14 := hi
  refine ⟨_, rfl, ?_⟩
  wtm_at "s"
  repeat wtm_at "e"
  refine q_any_prime pen (by omega) fun P s1 hP p1 => ?_
  have t1 : T0 s1 := t0.fr p1.fr
  wtm_at "s"
  repeat wtm_at "e"
  refine q_made_field hP fun f kf => ?_
  have pen2 := p1.pen.app none
  have t2 : T0 (s1 ++ [none]) := t1.app
  generalize s1 ++ [none] = s2 at pen2 t2 ⊢
  repeat wtm_at "e"
  refine o_lstC (by decide) ?_
  have hkc : s2.length ≠ 0 ∧ s2.length ≠ 1 := by
    have := pen2.lt
    omega
  have hs3 : (s2 ++ [some (Ct.lst [])])[s2.length]? = some (some (.lst [])) := by
    rw [List.getElem?_append_right (Nat.le_refl _), Nat.sub_self]
    rfl
  have pen3 := pen2.app (some (.lst []))
  have t3 : T0 (s2 ++ [some (Ct.lst [])]) := t2.app
  generalize s2 ++ [some (Ct.lst [])] = s3 at hs3 pen3 t3 ⊢
  generalize s2.length = kc at hkc hs3 ⊢
  repeat wtm_at "e"
  refine q_tens (k := 100) rfl (by decide) ?_
  repeat wtm_at "e"
  wtm_at "s"
  repeat wtm_at "e"
  refine RP.of (isi_field kf) ?_
  repeat wtm_at "e"
  refine ⟨fun z => (by cases z), fun _ => ?_⟩
  repeat wtm_at "e"
  wtm_at "s"
  repeat wtm_at "e"
  refine w_range1 (by decide) (by decide) ?_
  refine w_for (fun j r s' => Pen s' 1 (2000 * (i : Nat) + 2 + 500 * (j : Nat)) ∧ T0 s' ∧ (∃ l : List D, l.length = j ∧ j ≤ 3 ∧ (∀ x ∈ l, Th s' x) ∧ s'[kc]? = some (some (.lst l))) ∧ ∃ x4 x12 : Option D, r = [some (.rol (ns.map .int)), some (.cel 1), some (.int (0 + i)), some (.int P), x4, x5, x6, x7, x8, some f, some (.cel kc), some (.int (10 ^ 100)), x12, x13, x14, x15]) rfl ⟨pen3.mono (by omega), t3, ⟨[], rfl, by decide, fun _ z => (by cases z), hs3⟩, _, _, rfl⟩ ?_ ?_
  · rintro j d r s4 hd ⟨pen4, t4, ⟨l, hl, _, hth, hc4⟩, x4, x12, rfl⟩
    obtain ⟨hj, rfl⟩ := intL_get hd
    have hj : j < 3 := hj
    refine ⟨_, rfl, ?_⟩
    wtm_at "s"
    repeat wtm_at "e"
    refine q_any_numberK kf pen4 (by omega) fun d s5 hd5 p5 => ?_
    repeat wtm_at "e"
    refine w_bm ?_
    repeat wtm_at "e"
    have t5 := t4.fr p5.fr
    have hc5 := fr_at p5.fr hkc.2 hc4
    have hth5 : ∀ x ∈ l, Th s5 x := fun x hx => (hth x hx).fr pen4 p5.fr
    refine ⟨by show (lstOf s5 (.cel kc)).isSome = true; rw [lst_cel hc5]; rfl, ?_⟩
    repeat wtm_at "e"
    refine q_odd p5.pen (by omega) fun d6 s6 hd6 pen6 f6 _ => ?_
    repeat wtm_at "e"
    refine q_pick pen6 (by omega) (by show 0 < 8; decide) (by show 8 < 1000000; decide) fun d7 s7 hd7 pen7 f7 _ => ?_
    have t7 := (t5.fr f6).fr f7
    have hc7 := fr_at f7 hkc.2 (fr_at f6 hkc.2 hc5)
    have hth7 : ∀ x ∈ l, Th s7 x := fun x hx => ((hth5 x hx).fr p5.pen f6).fr pen6 f7
    have h7 : Th s7 d7 := by
      have a5 : Th s7 d := (hd5.fr p5.pen f6).fr pen6 f7
      have a6 : Th s7 d6 := hd6.th.fr pen6 f7
      have fm : Flat (.int (10 ^ 100)) := flatI (by decide +kernel)
      have f0 : Flat (.int 0) := flatI (by decide +kernel)
      have f7 : Flat (.int 7) := flatI (by decide +kernel)
      have fP : Flat (.int P) := flatI (by
        have := kf.range
        have e : (1000000000 : Nat) < 2 ^ 1000 := by decide +kernel
        omega)
      have hd7 : d7 ∈ [d, d, d, .int 0, d6, .int (10 ^ 100), .tup [.int 7, .int (10 ^ 100)], .int P] := hd7
      simp only [List.mem_cons, List.not_mem_nil, or_false] at hd7
      rcases hd7 with rfl | rfl | rfl | rfl | rfl | rfl | rfl | rfl
      · exact a5
      · exact a5
      · exact a5
      · exact .flat f0
      · exact a6
      · exact .flat fm
      · exact .tup (flats2 f7 fm) (by simp)
      · exact .flat fP
    repeat wtm_at "e"
    refine o_app hc7 (by omega) ?_
    repeat wtm_at "e"
    refine ⟨(pen_set pen7 (fun z => hkc.2 z.symm)).mono (by omega), t7.set hkc.1, ⟨l ++ [d7], by rw [List.length_append, hl]; rfl, hj, fun x hx => ?_, ?_⟩, _, _, rfl⟩
    · rcases List.mem_append.mp hx with hx | hx
      · exact (hth7 x hx).setL hc7
      · rw [List.mem_singleton.mp hx]
        exact h7.setL hc7
    · rw [List.getElem?_set_self (List.getElem?_eq_some_iff.mp hc7).1]
  rintro r s4 ⟨pen4, t4, ⟨l, hl, _, hth, hc4⟩, x4, x12, rfl⟩
  have hl : l.length = 3 := hl
  have pen4 : Pen s4 1 (2000 * (i : Nat) + 1600) := pen4.mono (by show _ + 500 * ((3 : Nat) : Int) ≤ _; omega)
  obtain ⟨x, y, z, rfl⟩ : ∃ x y z, l = [x, y, z] := match l, hl with
    | [x, y, z], _ => ⟨x, y, z, rfl⟩
  have hx := hth x (by simp)
  have hy := hth y (by simp)
  have hw := hth z (by simp)
  wtm_at "s"
  repeat wtm_at "e"
  refine ⟨([some (.rol (ns.map .int)), some (.cel 1), some (.int (0 + i)), some (.int P), x4, x5, x6, x7, x8, some f, some (.cel kc), some (.int (10 ^ 100)), x12, some x, some y, some z], s4), ?_, ?_⟩
  · unfold tupG
    rw [show seqOf s4 (.cel kc) = some [x, y, z] from lst_cel hc4]
    rfl
  wtm_at "s"
  repeat wtm_at "e"
  refine w_lamV t4 ?_
  repeat wtm_at "e"
  refine o_lstC (by show 1 ≤ _; omega) ?_
  have hkd : s4.length ≠ 0 ∧ s4.length ≠ 1 ∧ s4.length ≠ kc := by
    have := pen4.lt
    have := (List.getElem?_eq_some_iff.mp hc4).1
    omega
  have hs5 : (s4 ++ [some (Ct.lst [(.lam 0 T_law_0 (L2.cloFrom (cl_law a) T_law_0.scope.names []))])])[s4.length]? = some (some (.lst [(.lam 0 T_law_0 (L2.cloFrom (cl_law a) T_law_0.scope.names []))])) := by
    rw [List.getElem?_append_right (Nat.le_refl _), Nat.sub_self]
    rfl
  have hc5 : (s4 ++ [some (Ct.lst [(.lam 0 T_law_0 (L2.cloFrom (cl_law a) T_law_0.scope.names []))])])[kc]? = some (some (.lst [x, y, z])) := by
    rw [List.getElem?_append_left (List.getElem?_eq_some_iff.mp hc4).1]
    exact hc4
  have pen5 := pen4.app (some (.lst [(.lam 0 T_law_0 (L2.cloFrom (cl_law a) T_law_0.scope.names []))]))
  have t5 : T0 (s4 ++ [some (Ct.lst [(.lam 0 T_law_0 (L2.cloFrom (cl_law a) T_law_0.scope.names []))])]) := t4.app
  have hx5 : Th (s4 ++ [some (Ct.lst [(.lam 0 T_law_0 (L2.cloFrom (cl_law a) T_law_0.scope.names []))])]) x := hx.app
  have hy5 : Th (s4 ++ [some (Ct.lst [(.lam 0 T_law_0 (L2.cloFrom (cl_law a) T_law_0.scope.names []))])]) y := hy.app
  have hz5 : Th (s4 ++ [some (Ct.lst [(.lam 0 T_law_0 (L2.cloFrom (cl_law a) T_law_0.scope.names []))])]) z := hw.app
  clear hth hx hy hw t4 pen4 hc4
  generalize s4 ++ [some (Ct.lst [(.lam 0 T_law_0 (L2.cloFrom (cl_law a) T_law_0.scope.names []))])] = s5 at hs5 hc5 pen5 t5 hx5 hy5 hz5 ⊢
  generalize s4.length = kd at hkd hs5 ⊢
  wtm_at "s"
  repeat wtm_at "e"
  refine w_bm ?_
  repeat wtm_at "e"
  refine ⟨by show (lstOf s5 (.cel kd)).isSome = true; rw [lst_cel hs5]; rfl, ?_⟩
  repeat wtm_at "e"
  refine w_lamV t5 ?_
  repeat wtm_at "e"
  refine o_app hs5 (by show 1 < _; omega) ?_
  have hs6 : (s5.set kd (some (Ct.lst ([(.lam 0 T_law_0 (L2.cloFrom (cl_law a) T_law_0.scope.names []))] ++ [(.lam 1 T_law_1 (L2.cloFrom (cl_law a) T_law_1.scope.names []))]))))[kd]? = some (some (.lst [(.lam 0 T_law_0 (L2.cloFrom (cl_law a) T_law_0.scope.names [])), (.lam 1 T_law_1 (L2.cloFrom (cl_law a) T_law_1.scope.names []))])) := by
    rw [List.getElem?_set_self (List.getElem?_eq_some_iff.mp hs5).1]
    rfl
  have hc6 : (s5.set kd (some (Ct.lst ([(.lam 0 T_law_0 (L2.cloFrom (cl_law a) T_law_0.scope.names []))] ++ [(.lam 1 T_law_1 (L2.cloFrom (cl_law a) T_law_1.scope.names []))]))))[kc]? = some (some (.lst [x, y, z])) := by
    rw [List.getElem?_set_ne hkd.2.2]
    exact hc5
  have pen6 := pen_set (c := some (Ct.lst ([(.lam 0 T_law_0 (L2.cloFrom (cl_law a) T_law_0.scope.names []))] ++ [(.lam 1 T_law_1 (L2.cloFrom (cl_law a) T_law_1.scope.names []))]))) pen5 (fun z => hkd.2.1 z.symm)
  have t6 : T0 (s5.set kd (some (Ct.lst ([(.lam 0 T_law_0 (L2.cloFrom (cl_law a) T_law_0.scope.names []))] ++ [(.lam 1 T_law_1 (L2.cloFrom (cl_law a) T_law_1.scope.names []))])))) := t5.set hkd.1
  have hx6 : Th (s5.set kd (some (Ct.lst ([(.lam 0 T_law_0 (L2.cloFrom (cl_law a) T_law_0.scope.names []))] ++ [(.lam 1 T_law_1 (L2.cloFrom (cl_law a) T_law_1.scope.names []))])))) x := hx5.setL hs5
  have hy6 : Th (s5.set kd (some (Ct.lst ([(.lam 0 T_law_0 (L2.cloFrom (cl_law a) T_law_0.scope.names []))] ++ [(.lam 1 T_law_1 (L2.cloFrom (cl_law a) T_law_1.scope.names []))])))) y := hy5.setL hs5
  have hz6 : Th (s5.set kd (some (Ct.lst ([(.lam 0 T_law_0 (L2.cloFrom (cl_law a) T_law_0.scope.names []))] ++ [(.lam 1 T_law_1 (L2.cloFrom (cl_law a) T_law_1.scope.names []))])))) z := hz5.setL hs5
  clear hs5 hc5 pen5 t5 hx5 hy5 hz5
  generalize s5.set kd (some (Ct.lst ([(.lam 0 T_law_0 (L2.cloFrom (cl_law a) T_law_0.scope.names []))] ++ [(.lam 1 T_law_1 (L2.cloFrom (cl_law a) T_law_1.scope.names []))]))) = s6 at hs6 hc6 pen6 t6 hx6 hy6 hz6 ⊢
  wtm_at "s"
  repeat wtm_at "e"
  refine w_bm ?_
  repeat wtm_at "e"
  refine ⟨by show (lstOf s6 (.cel kd)).isSome = true; rw [lst_cel hs6]; rfl, ?_⟩
  repeat wtm_at "e"
  refine w_lamV t6 ?_
  repeat wtm_at "e"
  refine o_app hs6 (by show 2 < _; omega) ?_
  have hs7 : (s6.set kd (some (Ct.lst ([(.lam 0 T_law_0 (L2.cloFrom (cl_law a) T_law_0.scope.names [])), (.lam 1 T_law_1 (L2.cloFrom (cl_law a) T_law_1.scope.names []))] ++ [(.lam 2 T_law_2 (L2.cloFrom (cl_law a) T_law_2.scope.names []))]))))[kd]? = some (some (.lst [(.lam 0 T_law_0 (L2.cloFrom (cl_law a) T_law_0.scope.names [])), (.lam 1 T_law_1 (L2.cloFrom (cl_law a) T_law_1.scope.names [])), (.lam 2 T_law_2 (L2.cloFrom (cl_law a) T_law_2.scope.names []))])) := by
    rw [List.getElem?_set_self (List.getElem?_eq_some_iff.mp hs6).1]
    rfl
  have hc7 : (s6.set kd (some (Ct.lst ([(.lam 0 T_law_0 (L2.cloFrom (cl_law a) T_law_0.scope.names [])), (.lam 1 T_law_1 (L2.cloFrom (cl_law a) T_law_1.scope.names []))] ++ [(.lam 2 T_law_2 (L2.cloFrom (cl_law a) T_law_2.scope.names []))]))))[kc]? = some (some (.lst [x, y, z])) := by
    rw [List.getElem?_set_ne hkd.2.2]
    exact hc6
  have pen7 := pen_set (c := some (Ct.lst ([(.lam 0 T_law_0 (L2.cloFrom (cl_law a) T_law_0.scope.names [])), (.lam 1 T_law_1 (L2.cloFrom (cl_law a) T_law_1.scope.names []))] ++ [(.lam 2 T_law_2 (L2.cloFrom (cl_law a) T_law_2.scope.names []))]))) pen6 (fun z => hkd.2.1 z.symm)
  have t7 : T0 (s6.set kd (some (Ct.lst ([(.lam 0 T_law_0 (L2.cloFrom (cl_law a) T_law_0.scope.names [])), (.lam 1 T_law_1 (L2.cloFrom (cl_law a) T_law_1.scope.names []))] ++ [(.lam 2 T_law_2 (L2.cloFrom (cl_law a) T_law_2.scope.names []))])))) := t6.set hkd.1
  have hx7 : Th (s6.set kd (some (Ct.lst ([(.lam 0 T_law_0 (L2.cloFrom (cl_law a) T_law_0.scope.names [])), (.lam 1 T_law_1 (L2.cloFrom (cl_law a) T_law_1.scope.names []))] ++ [(.lam 2 T_law_2 (L2.cloFrom (cl_law a) T_law_2.scope.names []))])))) x := hx6.setL hs6
  have hy7 : Th (s6.set kd (some (Ct.lst ([(.lam 0 T_law_0 (L2.cloFrom (cl_law a) T_law_0.scope.names [])), (.lam 1 T_law_1 (L2.cloFrom (cl_law a) T_law_1.scope.names []))] ++ [(.lam 2 T_law_2 (L2.cloFrom (cl_law a) T_law_2.scope.names []))])))) y := hy6.setL hs6
  have hz7 : Th (s6.set kd (some (Ct.lst ([(.lam 0 T_law_0 (L2.cloFrom (cl_law a) T_law_0.scope.names [])), (.lam 1 T_law_1 (L2.cloFrom (cl_law a) T_law_1.scope.names []))] ++ [(.lam 2 T_law_2 (L2.cloFrom (cl_law a) T_law_2.scope.names []))])))) z := hz6.setL hs6
  clear hs6 hc6 pen6 t6 hx6 hy6 hz6
  generalize s6.set kd (some (Ct.lst ([(.lam 0 T_law_0 (L2.cloFrom (cl_law a) T_law_0.scope.names [])), (.lam 1 T_law_1 (L2.cloFrom (cl_law a) T_law_1.scope.names []))] ++ [(.lam 2 T_law_2 (L2.cloFrom (cl_law a) T_law_2.scope.names []))]))) = s7 at hs7 hc7 pen7 t7 hx7 hy7 hz7 ⊢
  wtm_at "s"
  repeat wtm_at "e"
  refine o_sliC2 hc7 ?_
  repeat wtm_at "e"
  refine q_first kf.range.1 (l := [x, y]) (.inl rfl) (by show 2 ≤ 100; decide) (th_two hx7 hy7) ?_
  repeat wtm_at "e"
  wtm_at "s"
  repeat wtm_at "e"
  refine ⟨⟨[(.lam 0 T_law_0 (L2.cloFrom (cl_law a) T_law_0.scope.names [])), (.lam 1 T_law_1 (L2.cloFrom (cl_law a) T_law_1.scope.names [])), (.lam 2 T_law_2 (L2.cloFrom (cl_law a) T_law_2.scope.names []))], some kd⟩, by unfold srcD; dsimp only; rw [hs7], ?_⟩
  refine w_forC (c := ⟨[(.lam 0 T_law_0 (L2.cloFrom (cl_law a) T_law_0.scope.names [])), (.lam 1 T_law_1 (L2.cloFrom (cl_law a) T_law_1.scope.names [])), (.lam 2 T_law_2 (L2.cloFrom (cl_law a) T_law_2.scope.names []))], some kd⟩) (fun j r s' => s' = s7 ∧ ∃ x7 x8 : Option D, r = [some (.rol (ns.map .int)), some (.cel 1), some (.int (0 + i)), some (.int P), x4, some (.cel kd), some (.lst (dueL s7 P [x, y])), x7, x8, some f, some (.cel kc), some (.int (10 ^ 100)), x12, some x, some y, some z]) (fun j r s' h => by rw [h.1]; exact hs7) ⟨rfl, _, _, rfl⟩ ?_ ?_
  · rintro j d r s' hd ⟨e, x7, x8, rfl⟩
    subst e
    match j, hd with
    | 0, hd =>
      cases hd
      refine ⟨_, rfl, ?_⟩
      wtm_at "s"
      repeat wtm_at "e"
      obtain ⟨v, hv, hm⟩ := t_plus (r := [some (.rol (ns.map .int)), some (.cel 1), some (.int (0 + i)), some (.int P), x4, some (.cel kd), some (.lst (dueL s' P [x, y])), some (.lam 0 T_law_0 (L2.cloFrom (cl_law a) T_law_0.scope.names [])), x8, some f, some (.cel kc), some (.int (10 ^ 100)), x12, some x, some y, some z]) kf rfl rfl rfl hx7 hy7
      refine w_lamC (k := 0) rfl rfl hv ?_
      dsimp only
      refine chk (by rfl) (by rfl) hm.due ?_
      exact ⟨rfl, _, _, rfl⟩
    | 1, hd =>
      cases hd
      refine ⟨_, rfl, ?_⟩
      wtm_at "s"
      repeat wtm_at "e"
      obtain ⟨v, hv, hm⟩ := t_minus (r := [some (.rol (ns.map .int)), some (.cel 1), some (.int (0 + i)), some (.int P), x4, some (.cel kd), some (.lst (dueL s' P [x, y])), some (.lam 1 T_law_1 (L2.cloFrom (cl_law a) T_law_1.scope.names [])), x8, some f, some (.cel kc), some (.int (10 ^ 100)), x12, some x, some y, some z]) kf rfl rfl rfl hx7 hy7
      refine w_lamC (k := 1) rfl rfl hv ?_
      dsimp only
      refine chk (by rfl) (by rfl) hm.due ?_
      exact ⟨rfl, _, _, rfl⟩
    | 2, hd =>
      cases hd
      refine ⟨_, rfl, ?_⟩
      wtm_at "s"
      repeat wtm_at "e"
      obtain ⟨v, hv, hm⟩ := t_times (r := [some (.rol (ns.map .int)), some (.cel 1), some (.int (0 + i)), some (.int P), x4, some (.cel kd), some (.lst (dueL s' P [x, y])), some (.lam 2 T_law_2 (L2.cloFrom (cl_law a) T_law_2.scope.names [])), x8, some f, some (.cel kc), some (.int (10 ^ 100)), x12, some x, some y, some z]) kf rfl rfl rfl hx7 hy7
      refine w_lamC (k := 2) rfl rfl hv ?_
      dsimp only
      refine chk (by rfl) (by rfl) hm.due ?_
      exact ⟨rfl, _, _, rfl⟩
    | j + 3, hd => cases hd
  rintro r s' ⟨e, x7, x8, rfl⟩
  subst e
  wtm_at "s"
  repeat wtm_at "e"
  obtain ⟨v, hv, hdue⟩ := t_over (r := [some (.rol (ns.map .int)), some (.cel 1), some (.int (0 + i)), some (.int P), x4, some (.cel kd), some (.lst (dueL s' P [x, y])), x7, x8, some f, some (.cel kc), some (.int (10 ^ 100)), x12, some x, some y, some z]) kf rfl rfl rfl hx7 hy7
  refine w_lamT t7 hv ?_
  repeat wtm_at "e"
  wtm_at "f"
  with_reducible refine w_mid (fun r s2 => s2 = s' ∧ r = [some (.rol (ns.map .int)), some (.cel 1), some (.int (0 + i)), some (.int P), x4, some (.cel kd), some (.lst (dueO s' P x y)), x7, some v, some f, some (.cel kc), some (.int (10 ^ 100)), x12, some x, some y, some z]) ?_ ?_
  · repeat wtm_at "e"
    refine o_eqL0 (l := dueL s' P [x, y]) rfl rfl ?_
    refine ⟨_, rfl, fun hk => ?_, fun hk => ?_⟩
    · have hn : wrg P [x, y] = [] := dueL_nil hk
      obtain ⟨b, eb, hb⟩ := q_eq0 (s := s') kf (wrg_none hn y (by simp))
      repeat wtm_at "e"
      refine RP.of eb ?_
      repeat wtm_at "e"
      have e0 : dueL s' P [x, y] = [] := by unfold dueL; rw [hn]; rfl
      cases b with
      | true =>
        refine o_repL (n := 1) rfl (by decide) (by decide) (by decide) ?_
        rw [e0]
        refine o_addL (by show 1 ≤ _; omega) ?_
        refine ⟨rfl, ?_⟩
        unfold dueO
        rw [if_pos ⟨hn, hb.mp rfl⟩]
        rfl
      | false =>
        refine o_rep0 ?_
        rw [e0]
        refine o_addL (by show 0 ≤ _; omega) ?_
        refine ⟨rfl, ?_⟩
        unfold dueO
        rw [if_neg fun w => (by have := hb.mpr w.2; cases this), e0]
        rfl
    · rw [hk]
      repeat wtm_at "e"
      refine o_rep0 ?_
      have hle : (dueL s' P [x, y]).length ≤ 1 := by unfold dueL; rw [List.length_take]; omega
      refine o_addL (by show _ + 0 ≤ _; omega) ?_
      refine ⟨rfl, ?_⟩
      unfold dueO
      rw [if_neg fun w => (by unfold dueL at hk; rw [w.1] at hk; cases hk), List.append_nil]
      rfl
  rintro r s2 ⟨e, rfl⟩
  subst e
  refine w_seq ?_
  refine chk (by rfl) (by rfl) hdue ?_
  wtm_at "s"
  repeat wtm_at "e"
  obtain ⟨v3, hv3, hm3⟩ := t_total (r := [some (.rol (ns.map .int)), some (.cel 1), some (.int (0 + i)), some (.int P), x4, some (.cel kd), some (.lst (dueO s2 P x y)), x7, some v, some f, some (.cel kc), some (.int (10 ^ 100)), x12, some x, some y, some z]) kf rfl rfl rfl rfl hx7 hy7 hz7
  refine w_lamT t7 hv3 ?_
  repeat wtm_at "e"
  refine q_first kf.range.1 (l := [x, y, z]) (.inr ⟨kc, rfl, hc7⟩) (by show 3 ≤ 100; decide) (th_three hx7 hy7 hz7) ?_
  refine w_nil ?_
  refine ⟨_, _, rfl, ?_⟩
  dsimp only
  refine chk (by rfl) (by rfl) hm3.due ?_
  exact ⟨pen7.mono (by omega), t7, _, _, _, _, _, _, _, _, _, _, _, _, _, _, rfl⟩
end
end G
set_option Elab.async false
set_option linter.all false
set_option maxRecDepth 100000
set_option maxHeartbeats 0
open PySem PySem.W PySem.Calls PyProof.Rows
theorem PySem.Challenge.cw_firstanswers_k06_numbers_refused_holds : PySem.Challenge.rw_firstanswers_k06_numbers_refused.Holds := by
  w_on; o_law
  refine HandSHeadRun.head_any (r := OpenLaw.row PySem.Challenge.rw_firstanswers_k06_numbers_refused) (q := view (OpenLaw.row PySem.Challenge.rw_firstanswers_k06_numbers_refused).prog [48]) (H := G.hk) (ob := G.ob) (M := 20000) (loose := G.loose) (d := HandSHeadRun.topDef (OpenLaw.row PySem.Challenge.rw_firstanswers_k06_numbers_refused).prog 48) (kwd := []) G.ob_eq
    (by kernel_rfl) (fun s => by kernel_rfl) G.run (by kernel_rfl) (by kernel_rfl) (by kernel_rfl) (by rfl) (by first | assumption | decide +kernel) (by decide +kernel) ⟨rfl, rfl, rfl, rfl, rfl, by decide +kernel⟩ ?hw ?hc
  case hw => w_witness2
  case hc =>
    refine Mp.walk_endT (tl := G.tl0) (l := PySem.Challenge.rw_firstanswers_k06_numbers_refused) (n := 63) (k := 9) (m := G.m_law) rfl (by decide) (by kernel_rfl) ⟨⟨rfl, by decide, by decide⟩, rfl⟩ ?F (fun ns _ _ => G.law_ok)
    intro w mg fa h Y N hmg0
    obtain ⟨K, KX, c, T⟩ := Y
    have hmg : mg ("law" : PySem.Str) = some (.ref fa) := by
      have e : (HandSHeadRun.topDef (OpenLaw.row PySem.Challenge.rw_firstanswers_k06_numbers_refused).prog 48).name = ("law" : PySem.Str) := by kernel_rfl
      rw [← e]
      exact hmg0
    have Z : G.FX K mg := ⟨c, h, KX, N⟩
    have e := hmg.symm.trans (G.z117 Z)
    cases e
    exact ⟨K, KX, T, fun base _ _ TB => G.f_law Z TB⟩
