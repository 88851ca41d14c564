import PyProof.Rows.All
import Wide.All
import OpenK.AllK
import Wide.FinOn
import HandS.ForMost
import HandS.ForExc
import HandS.Wide
import HandS.Zip
import HandS.CallSlots
import HandS.HeadHook1
import HandS.HeadHook2
import HandS.Lambda
import HandS.Flow
import HandS.TupAny
import HandS.IsInst
import HandS.Style
import HandS.Property
import HandS.Star
import HandS.ExcInit
import HandS.TryMany
import HandS.HeadWalk
import KE.KExcInit
import HandS.ExcField
import KE.KSuper
import HandS.NestedK
import HandS.RaiseMore
import HandS.Deep
import HandS.Ends
import HandS.EndBits
import HandS.Head0
import HandS.Head1
import HandS.Head2
import HandS.HeadEnd
import HandS.ExcIs
import HandS.DictComp
import HandS.SortInts
import HandS.More
import HandS.Dict
import HandS.Conv
import HandS.HeadNt
import PyProof.DictUpdate
import HandS.SlotsOwn
import HandS.TupMul
import HandS.DictEq
import PyProof.Rows.SortShellAny
import KE.SortKeyHeap
import HandS.Exc
import HandS.ExcValue
import HandS.TupLe
import HandS.ListItems
import KE.KDictList
import PyProof.Rows.StrOr
import PyProof.ReprRoads
import OpenK.KOwn
import KE.GoesRaise
import PyProof.EnumMake
import PyProof.Draws
import KE.GoesMore
import KE.GoesZip
import KE.GoesEnum
import HandS.Replace
import PyProof.ListStr
import KE.KDictZip
import HandS.FStr
import HandS.DeepEq
import PyProof.StrReplace2
import PyProof.FString
import HandS.DictTup
import KE.DataMinMax
import HandS.New0
import HandS.SetFor
import PySem.Challenge.RW_firstanswers_k00_errors
set_option Elab.async false
set_option linter.all false
set_option maxRecDepth 100000
set_option maxHeartbeats 4000000
/-! Mp: data trees over the hand layer. A def's text becomes a plain function on data; this part: data, worlds, what is wanted behind a computation. -/
namespace Mp
open PySem PySem.Spec PyProof.Rows L2
/-! ### data -/
/-- a lambda's text -/
structure LamT where
  q : Str
  params : Arguments
  body : Expr
  scope : Scope
inductive D where
  | non | bl (b : Bool) | int (i : Int) | str (z : Str)
  | ty (n : String)
  | glo (x : Str)
  | tup (l : List D) | lst (l : List D) | rol (l : List D)
  | dct (l : List (Key × D))
  | ins (C : Str) (fs : List (Str × D))
  | exn (a : Addr) (d : Option Addr) (C : Str) (fs : List (Str × D))
  | cel (n : Nat)
  | clo (f c : Addr) (q : Str) (t : L2.St) (r : List (Option D))
  | kot (l : List D)
  | lam (k : Nat) (T : LamT) (cl : List (Str × Addr))
  | err (C : Str)
/-- what a mutable cell holds -/
inductive Ct where
  | lst (l : List D) | dct (l : List (Key × D)) | ins (C : Str) (fs : List (Str × D)) | rod (l : List (Key × D)) | tab (x : Str) | dtt (l : List (List Key × D))
abbrev Sto := List (Option Ct)
abbrev En := List (Option D)
inductive Res (T : Type) where
  | ok (a : T) (s : Sto) | exc (C : Str) (fs : List (Str × D)) (s : Sto) | bad
abbrev DM (T : Type) := En → Sto → Res T
abbrev DE := DM D
inductive Fl where
  | nx (r : En) (s : Sto) | rt (d : D) (s : Sto) | bk (r : En) (s : Sto) | ct (r : En) (s : Sto)
  | exc (C : Str) (fs : List (Str × D)) (r : En) (s : Sto) | bad
abbrev DS := En → Sto → Fl
abbrev DG := D → En → Sto → Option (En × Sto)
def bindM {T U : Type} (m : DM T) (f : T → DM U) : DM U := fun r s => match m r s with
  | .ok a s' => f a r s'
  | .exc C fs s' => .exc C fs s'
  | .bad => .bad
def pureM {T : Type} (a : T) : DM T := fun _ s => .ok a s
/-! ### worlds -/
structure Wd where
  A : Nat → Option Addr
  Z : Addr → Prop
  P : Addr → Prop
  H : Hp
abbrev Frag := PySem.W.Frag
/-- a written list, tuple -/
def KL (K : Frag) (a : Addr) (xs : List V) : Prop := ∃ (o : Obj) (its : Array Value) (n : Nat), K.lookup a = some o ∧ o.cls = .type "list" ∧ o.dict = none ∧ o.data = .seq its n ∧ its.size ≤ sizeLine ∧ Vals xs its.toList
def KT (K : Frag) (a : Addr) (xs : List V) : Prop := ∃ (o : Obj) (its : Array Value) (n : Nat), K.lookup a = some o ∧ o.cls = .type "tuple" ∧ o.data = .seq its n ∧ its.size ≤ sizeLine ∧ Vals xs its.toList
def LAt (K : Frag) (w : Wd) (a : Addr) (xs : List V) : Prop := (w.Z a ∧ Rd w.H a (.lst xs)) ∨ KL K a xs
def TAt (_K : Frag) (w : Wd) (a : Addr) (xs : List V) : Prop := w.Z a ∧ w.H a = some (.tup xs)
theorem LAt.sq {K : Frag} {w : Wd} {a : Addr} {xs : List V} (h : LAt K w a xs) : SqL K w.H a xs := h.elim (fun h => .inl h.2) .inr
theorem TAt.sq {K : Frag} {w : Wd} {a : Addr} {xs : List V} (h : TAt K w a xs) : SqT K w.H a xs := .inl (Rd.of h.2)
/-- all that Rep leans on is kept -/
structure Ex0 (w w' : Wd) : Prop where
  A : ∀ n a, w.A n = some a → w'.A n = some a
  Z : ∀ a, w.Z a → w'.Z a
  H : ∀ a, w.Z a → w'.H a = w.H a
/-- .. and what is pinned -/
structure Ext (w w' : Wd) : Prop extends Ex0 w w' where
  P : ∀ a, w.P a → w'.P a
  HP : ∀ a, w.P a → w'.H a = w.H a
theorem Ext.refl (w : Wd) : Ext w w := ⟨⟨fun _ _ h => h, fun _ h => h, fun _ _ => rfl⟩, fun _ h => h, fun _ _ => rfl⟩
theorem Ext.trans {a b c : Wd} (h : Ext a b) (k : Ext b c) : Ext a c := ⟨⟨fun n x e => k.A n x (h.A n x e), fun x e => k.Z x (h.Z x e), fun x e => (k.H x (h.Z x e)).trans (h.H x e)⟩, fun x e => k.P x (h.P x e), fun x e => (k.HP x (h.P x e)).trans (h.HP x e)⟩
theorem Ex0.rd {w w' : Wd} (e : Ex0 w w') {a : Addr} {u : HO} (z : w.Z a) (h : Rd w.H a u) : Rd w'.H a u := by
  unfold Rd at h ⊢
  rw [e.H a z]
  exact h
theorem LAt.ex0 {K : Frag} {w w' : Wd} (e : Ex0 w w') {a : Addr} {xs : List V} (h : LAt K w a xs) : LAt K w' a xs := h.elim (fun h => .inl ⟨e.Z a h.1, e.rd h.1 h.2⟩) .inr
theorem TAt.ex0 {K : Frag} {w w' : Wd} (e : Ex0 w w') {a : Addr} {xs : List V} (h : TAt K w a xs) : TAt K w' a xs := ⟨e.Z a h.1, (e.H a h.1).trans h.2⟩
theorem LAt.ext {K : Frag} {w w' : Wd} (e : Ext w w') {a : Addr} {xs : List V} (h : LAt K w a xs) : LAt K w' a xs := h.ex0 e.toEx0
theorem TAt.ext {K : Frag} {w w' : Wd} (e : Ext w w') {a : Addr} {xs : List V} (h : TAt K w a xs) : TAt K w' a xs := h.ex0 e.toEx0
/-- a lambda that is kept: its object, closed over cells -/
abbrev lamOb (T : LamT) (cl : List (Str × Addr)) (pm : Value) (c : Addr) (ctv : Value) : Obj := PySem.W.kla_obj "<lambda>" T.q T.params T.body T.scope cl pm c ctv
mutual
inductive Rep (K : Frag) (w : Wd) : V → D → Prop
  | non : Rep K w .non .non
  | bl (b : Bool) : Rep K w (.bl b) (.bl b)
  | int (i : Int) : Rep K w (.int i) (.int i)
  | str (z : Str) : Rep K w (.str z) (.str z)
  | ty (n : String) : Rep K w (.ty n) (.ty n)
  | glo (x : Str) : Rep K w (.ref (He.ga K x)) (.glo x)
  | tup {a : Addr} {vs : List V} {ds : List D} : TAt K w a vs → Reps K w vs ds → Rep K w (.ref a) (.tup ds)
  | lst {a : Addr} {vs : List V} {ds : List D} : w.Z a → w.H a = some (.lst vs) → Reps K w vs ds → Rep K w (.ref a) (.lst ds)
  | rol {a : Addr} {vs : List V} {ds : List D} : LAt K w a vs → Reps K w vs ds → Rep K w (.ref a) (.rol ds)
  | dct {a : Addr} {o : Obj} {ks : List Key} {vs : List V} {ds : List D} : w.Z a → w.H a = some (.frz o (.dK (ks.zip vs))) → ks.length = vs.length → Reps K w vs ds → Rep K w (.ref a) (.dct (ks.zip ds))
  | ins {a dx : Addr} {C : Str} {ks : List Str} {vs : List V} {ds : List D} : w.Z a → w.H a = some (.ins (He.ga K C) dx (ks.zip vs)) → ks.length = vs.length → Reps K w vs ds → Rep K w (.ref a) (.ins C (ks.zip ds))
  | exn0 {a : Addr} {C : Str} : Rep K w (.ref a) (.exn a none C [])
  | exn {a dx : Addr} {C : Str} {ks : List Str} {vs : List V} {ds : List D} : w.Z dx → w.H dx = some (.xd (ks.zip vs)) → ks.length = vs.length → Reps K w vs ds → Rep K w (.ref a) (.exn a (some dx) C (ks.zip ds))
  | cel {n : Nat} {a : Addr} : w.A n = some a → Rep K w (.ref a) (.cel n)
  | clo {f c : Addr} {q : Str} {t : L2.St} {r : List (Option D)} : w.Z c → w.H c = some (LamX.CodeO c q) → RepE K w t r → Rep K w (.ref f) (.clo f c q t r)
  | kot {a : Addr} {vs : List V} {ds : List D} : KT K a vs → Reps K w vs ds → Rep K w (.ref a) (.kot ds)
  | lam {a c : Addr} {k : Nat} {T : LamT} {cl : List (Str × Addr)} {pm ctv : Value} {u : HO} : w.Z a → w.H a = some (.frz (lamOb T cl pm c ctv) u) → w.Z c → w.H c = some (LamX.CodeO c T.q) → Rep K w (.ref a) (.lam k T cl)
  | err {a : Addr} {oe : Obj} {vs : Array Value} {u : HO} {C : Str} : w.Z a → w.H a = some (.frz oe u) → oe.cls = .ref (He.ga K C) → oe.data = .fields vs → (∀ dx, oe.dict = some dx → w.Z dx ∧ ∃ l, w.H dx = some (.xd l)) → Rep K w (.ref a) (.err C)
inductive Reps (K : Frag) (w : Wd) : List V → List D → Prop
  | nil : Reps K w [] []
  | cons {v : V} {d : D} {vs : List V} {ds : List D} : Rep K w v d → Reps K w vs ds → Reps K w (v :: vs) (d :: ds)
inductive RepE (K : Frag) (w : Wd) : List (Option V) → List (Option D) → Prop
  | nil : RepE K w [] []
  | non {v : Option V} {t : List (Option V)} {r : List (Option D)} : RepE K w t r → RepE K w (v :: t) (none :: r)
  | som {v : V} {d : D} {t : List (Option V)} {r : List (Option D)} : Rep K w v d → RepE K w t r → RepE K w (some v :: t) (some d :: r)
end
mutual
theorem Rep.ex0 {K : Frag} {w w' : Wd} (e : Ex0 w w') : ∀ {v : V} {d : D}, Rep K w v d → Rep K w' v d
  | _, _, .non => .non
  | _, _, .bl b => .bl b
  | _, _, .int i => .int i
  | _, _, .str z => .str z
  | _, _, .ty n => .ty n
  | _, _, .glo x => .glo x
  | _, _, .tup h r => .tup (h.ex0 e) (r.ex0 e)
  | _, _, .lst z h r => .lst (e.Z _ z) ((e.H _ z).trans h) (r.ex0 e)
  | _, _, .rol h r => .rol (h.ex0 e) (r.ex0 e)
  | _, _, .dct z h l r => .dct (e.Z _ z) ((e.H _ z).trans h) l (r.ex0 e)
  | _, _, .ins z h l r => .ins (e.Z _ z) ((e.H _ z).trans h) l (r.ex0 e)
  | _, _, .exn0 => .exn0
  | _, _, .exn z h l r => .exn (e.Z _ z) ((e.H _ z).trans h) l (r.ex0 e)
  | _, _, .cel h => .cel (e.A _ _ h)
  | _, _, .clo z h r => .clo (e.Z _ z) ((e.H _ z).trans h) (r.ex0 e)
  | _, _, .kot h r => .kot h (r.ex0 e)
  | _, _, .lam z h z2 h2 => .lam (e.Z _ z) ((e.H _ z).trans h) (e.Z _ z2) ((e.H _ z2).trans h2)
  | _, _, .err z h hc hd hx => .err (e.Z _ z) ((e.H _ z).trans h) hc hd fun dx q => ⟨e.Z _ (hx dx q).1, (hx dx q).2.imp fun l y => (e.H _ (hx dx q).1).trans y⟩
theorem Reps.ex0 {K : Frag} {w w' : Wd} (e : Ex0 w w') : ∀ {vs : List V} {ds : List D}, Reps K w vs ds → Reps K w' vs ds
  | _, _, .nil => .nil
  | _, _, .cons h r => .cons (h.ex0 e) (r.ex0 e)
theorem RepE.ex0 {K : Frag} {w w' : Wd} (e : Ex0 w w') : ∀ {t : List (Option V)} {r : List (Option D)}, RepE K w t r → RepE K w' t r
  | _, _, .nil => .nil
  | _, _, .non h => .non (h.ex0 e)
  | _, _, .som h r => .som (h.ex0 e) (r.ex0 e)
end
theorem Rep.ext {K : Frag} {w w' : Wd} (e : Ext w w') {v : V} {d : D} (h : Rep K w v d) : Rep K w' v d := h.ex0 e.toEx0
theorem Reps.ext {K : Frag} {w w' : Wd} (e : Ext w w') {v : List V} {d : List D} (h : Reps K w v d) : Reps K w' v d := h.ex0 e.toEx0
theorem Reps.length {K : Frag} {w : Wd} : ∀ {vs : List V} {ds : List D}, Reps K w vs ds → vs.length = ds.length
  | _, _, .nil => rfl
  | _, _, .cons _ r => congrArg (· + 1) r.length
theorem Reps.get {K : Frag} {w : Wd} : ∀ {vs : List V} {ds : List D} {i : Nat} {d : D}, Reps K w vs ds → ds[i]? = some d → ∃ v, vs[i]? = some v ∧ Rep K w v d
  | _, _, _, _, .nil, h => by simp at h
  | _, _, 0, _, .cons h _, e => by
    simp at e
    subst e
    exact ⟨_, rfl, h⟩
  | _, _, i + 1, _, .cons _ r, e => by
    simp at e
    obtain ⟨v, h1, h2⟩ := r.get e
    exact ⟨v, by simpa using h1, h2⟩
theorem Reps.append {K : Frag} {w : Wd} : ∀ {vs us : List V} {ds es : List D}, Reps K w vs ds → Reps K w us es → Reps K w (vs ++ us) (ds ++ es)
  | _, _, _, _, .nil, r => r
  | _, _, _, _, .cons h t, r => .cons h (t.append r)
theorem Reps.set {K : Frag} {w : Wd} {v : V} {d : D} (r : Rep K w v d) : ∀ {vs : List V} {ds : List D} (i : Nat), Reps K w vs ds → Reps K w (vs.set i v) (ds.set i d)
  | _, _, _, .nil => .nil
  | _, _, 0, .cons _ t => .cons r t
  | _, _, i + 1, .cons h t => .cons h (t.set r i)
theorem Reps.drop {K : Frag} {w : Wd} : ∀ {vs : List V} {ds : List D} (n : Nat), Reps K w vs ds → Reps K w (vs.drop n) (ds.drop n)
  | _, _, 0, r => r
  | _, _, _ + 1, .nil => .nil
  | _, _, n + 1, .cons _ t => t.drop n
theorem Reps.take {K : Frag} {w : Wd} : ∀ {vs : List V} {ds : List D} (n : Nat), Reps K w vs ds → Reps K w (vs.take n) (ds.take n)
  | _, _, 0, _ => .nil
  | _, _, _ + 1, .nil => .nil
  | _, _, n + 1, .cons h t => .cons h (t.take n)
/-! ### pairs -/
inductive KVR (K : Frag) (w : Wd) {T : Type} : List (T × V) → List (T × D) → Prop
  | nil : KVR K w [] []
  | cons {k : T} {v : V} {d : D} {l : List (T × V)} {m : List (T × D)} : Rep K w v d → KVR K w l m → KVR K w ((k, v) :: l) ((k, d) :: m)
section
variable {K : Frag} {w w' : Wd} {T : Type}
theorem KVR.ex0 (e : Ex0 w w') : ∀ {l : List (T × V)} {m : List (T × D)}, KVR K w l m → KVR K w' l m
  | _, _, .nil => .nil
  | _, _, .cons h r => .cons (h.ex0 e) (r.ex0 e)
theorem KVR.ext (e : Ext w w') {l : List (T × V)} {m : List (T × D)} (h : KVR K w l m) : KVR K w' l m := h.ex0 e.toEx0
theorem KVR.of_zip : ∀ {ks : List T} {vs : List V} {ds : List D}, ks.length = vs.length → Reps K w vs ds → KVR K w (ks.zip vs) (ks.zip ds)
  | [], _, _, _, _ => .nil
  | k :: ks, _, _, hl, .nil => by cases hl
  | k :: ks, _, _, hl, .cons h r => .cons h (KVR.of_zip (by simpa using hl) r)
theorem KVR.length : ∀ {l : List (T × V)} {m : List (T × D)}, KVR K w l m → l.length = m.length
  | _, _, .nil => rfl
  | _, _, .cons _ r => congrArg (· + 1) r.length
theorem KVR.keys : ∀ {l : List (T × V)} {m : List (T × D)}, KVR K w l m → l.map (·.1) = m.map (·.1)
  | _, _, .nil => rfl
  | _, _, .cons _ r => by simp [r.keys]
theorem KVR.vals : ∀ {l : List (T × V)} {m : List (T × D)}, KVR K w l m → Reps K w (l.map (·.2)) (m.map (·.2))
  | _, _, .nil => .nil
  | _, _, .cons h r => .cons h r.vals
theorem Rep.dct_inv {v : V} {m : List (Key × D)} (h : Rep K w v (.dct m)) : ∃ a o l, v = .ref a ∧ w.Z a ∧ w.H a = some (.frz o (.dK l)) ∧ KVR K w l m := by
  cases h with
  | dct z h hl r => exact ⟨_, _, _, rfl, z, h, KVR.of_zip hl r⟩
end
/-! ### the store, the slots -/
/-- the code object of a def of the module, its table, the name of the lambdas in it -/
def codeV (K : Frag) (x : Str) : Value := match K.lookup (He.ga K x) with
  | some ⟨_, _, .func fd, _⟩ => fd.code
  | _ => .none
def codeA (K : Frag) (x : Str) : Addr := match codeV K x with
  | .ref c => c
  | _ => 0
def tabA (K : Frag) (x : Str) : Addr := match K.lookup (codeA K x) with
  | some ⟨_, _, .fields vs, _⟩ => (match (vs[11]? : Option Value) with
    | some (.ref P) => P
    | _ => 0)
  | _ => 0
def lamQ (x : Str) : Str := x ++ ".<locals>." ++ "<lambda>"
def CtR (K : Frag) (w : Wd) (a : Addr) : Ct → Prop
  | .lst ds => ∃ vs, w.H a = some (.lst vs) ∧ Reps K w vs ds
  | .dct m => ∃ l, w.H a = some (.dK l) ∧ KVR K w l m
  | .ins C m => ∃ (dx : Addr) (l : List (Str × V)), w.H a = some (.ins (He.ga K C) dx l) ∧ KVR K w l m
  | .rod m => ∃ (o : Obj) (l : List (Key × V)), w.Z a ∧ w.H a = some (.frz o (.dK l)) ∧ KVR K w l m
  | .dtt m => ∃ l, w.H a = some (.dT l) ∧ KVR K w l m
  | .tab x => a = tabA K x ∧ ∃ ps : Array Value, w.H a = some (.tbl ps) ∧ TriplesOk ps.toList ∧ ∀ (pos : Pos) (cv : Value), codeAmong pos ps.toList = some cv → ∃ c, cv = .ref c ∧ w.Z c ∧ w.H c = some (LamX.CodeO c (lamQ x))
/-- but for read-only ones, cells are not frozen -/
def NZ (w : Wd) (a : Addr) : Ct → Prop
  | .rod _ => True
  | _ => ¬ w.Z a
theorem NZ.mono {w w' : Wd} {a : Addr} (k : w'.Z a → w.Z a) : ∀ {c : Ct}, NZ w a c → NZ w' a c
  | .lst _, h => fun z => h (k z)
  | .dct _, h => fun z => h (k z)
  | .ins _ _, h => fun z => h (k z)
  | .tab _, h => fun z => h (k z)
  | .dtt _, h => fun z => h (k z)
  | .rod _, _ => trivial
theorem NZ.of {w : Wd} {a : Addr} (h : ¬ w.Z a) : ∀ {c : Ct}, NZ w a c
  | .lst _ => h
  | .dct _ => h
  | .ins _ _ => h
  | .tab _ => h
  | .dtt _ => h
  | .rod _ => trivial
structure StR (K : Frag) (w : Wd) (s : Sto) : Prop where
  at_ : ∀ n ct, s[n]? = some (some ct) → ∃ a, w.A n = some a ∧ NZ w a ct ∧ CtR K w a ct
  np : ∀ n ct a, s[n]? = some (some ct) → w.A n = some a → ¬ w.P a
  pz : ∀ a, w.P a → ¬ w.Z a ∧ w.H a ≠ none
  inj : ∀ n m a c d, s[n]? = some (some c) → s[m]? = some (some d) → w.A n = some a → w.A m = some a → n = m
  fz : ∀ a, w.Z a → w.H a ≠ none
  new : ∀ n, s.length ≤ n → w.A n = none
  pt : ∀ a, w.P a → ∀ xs, w.H a ≠ some (.tup xs)
theorem StR.ptk {K : Frag} {w w' : Wd} {s : Sto} (st : StR K w s) (hP : ∀ a, w'.P a → w.P a) (hH : ∀ a, w'.P a → w'.H a = w.H a) : ∀ a, w'.P a → ∀ xs, w'.H a ≠ some (.tup xs) := fun a z xs q => st.pt a (hP a z) xs ((hH a z).symm.trans q)
def EnvR (K : Frag) (w : Wd) (r : En) (t : L2.St) : Prop := r.length = t.length ∧ ∀ (i : Nat) (d : D), r[i]? = some (some d) → ∃ v, t[i]? = some (some v) ∧ Rep K w v d
theorem EnvR.ex0 {K : Frag} {w w' : Wd} (e : Ex0 w w') {r : En} {t : L2.St} (h : EnvR K w r t) : EnvR K w' r t := ⟨h.1, fun i d q => let ⟨v, h1, h2⟩ := h.2 i d q; ⟨v, h1, h2.ex0 e⟩⟩
theorem EnvR.ext {K : Frag} {w w' : Wd} (e : Ext w w') {r : En} {t : L2.St} (h : EnvR K w r t) : EnvR K w' r t := h.ex0 e.toEx0
theorem EnvR.set {K : Frag} {w : Wd} {r : En} {t : L2.St} (h : EnvR K w r t) {v : V} {d : D} (q : Rep K w v d) (i : Nat) : EnvR K w (r.set i (some d)) (t.set i (some v)) := by
  refine ⟨by rw [List.length_set, List.length_set, h.1], fun j e hj => ?_⟩
  by_cases hij : i = j
  · subst hij
    by_cases hl : i < r.length
    · rw [List.getElem?_set_self hl] at hj
      cases hj
      exact ⟨v, by rw [List.getElem?_set_self (h.1 ▸ hl)], q⟩
    · rw [List.getElem?_eq_none (by rw [List.length_set]; omega)] at hj
      cases hj
  · rw [List.getElem?_set_ne hij] at hj
    obtain ⟨u, h1, h2⟩ := h.2 j e hj
    exact ⟨u, by rw [List.getElem?_set_ne hij]; exact h1, h2⟩
theorem EnvR.unset {K : Frag} {w : Wd} {r : En} {t : L2.St} (h : EnvR K w r t) (i : Nat) : EnvR K w (r.set i none) (t.set i none) := by
  refine ⟨by rw [List.length_set, List.length_set, h.1], fun j e hj => ?_⟩
  by_cases hij : i = j
  · subst hij
    by_cases hl : i < r.length
    · rw [List.getElem?_set_self hl] at hj
      cases hj
    · rw [List.getElem?_eq_none (by rw [List.length_set]; omega)] at hj
      cases hj
  · rw [List.getElem?_set_ne hij] at hj
    obtain ⟨u, h1, h2⟩ := h.2 j e hj
    exact ⟨u, by rw [List.getElem?_set_ne hij]; exact h1, h2⟩
/-! ### worlds that go on -/
/-- a new object, frozen at once -/
def Wd.frz (w : Wd) (p : Addr) (o : HO) : Wd := ⟨w.A, fun a => w.Z a ∨ a = p, w.P, upd w.H p o⟩
theorem Wd.frz_ext {K : Frag} {w : Wd} {s : Sto} (st : StR K w s) {p : Addr} {o : HO} (h : w.H p = none) : Ext w (w.frz p o) :=
  ⟨⟨fun _ _ h => h, fun _ h => .inl h, fun a z => upd_ne fun e => st.fz a z (e ▸ h)⟩, fun _ h => h, fun a z => upd_ne fun e => (st.pz a z).2 (e ▸ h)⟩
theorem CtR.sam0 {K : Frag} {w w' : Wd} (e : Ex0 w w') {a : Addr} (h : w'.H a = w.H a) : ∀ {c : Ct}, CtR K w a c → CtR K w' a c
  | .lst _, ⟨vs, h1, h2⟩ => ⟨vs, h.trans h1, h2.ex0 e⟩
  | .dct _, ⟨l, h1, h2⟩ => ⟨l, h.trans h1, h2.ex0 e⟩
  | .ins _ _, ⟨dx, l, h1, h2⟩ => ⟨dx, l, h.trans h1, h2.ex0 e⟩
  | .rod _, ⟨o, l, z, h1, h2⟩ => ⟨o, l, e.Z _ z, h.trans h1, h2.ex0 e⟩
  | .dtt _, ⟨l, h1, h2⟩ => ⟨l, h.trans h1, h2.ex0 e⟩
  | .tab _, ⟨e0, ps, h1, h2, h3⟩ => ⟨e0, ps, h.trans h1, h2, fun pos cv hc => let ⟨c, c1, c2, c3⟩ := h3 pos cv hc; ⟨c, c1, e.Z _ c2, (e.H _ c2).trans c3⟩⟩
theorem CtR.same {K : Frag} {w w' : Wd} (e : Ext w w') {a : Addr} (h : w'.H a = w.H a) {c : Ct} (q : CtR K w a c) : CtR K w' a c := q.sam0 e.toEx0 h
theorem CtR.some {K : Frag} {w : Wd} {a : Addr} : ∀ {c : Ct}, CtR K w a c → ∃ o, w.H a = some o ∧ True
  | .lst _, ⟨_, h, _⟩ => ⟨_, h, trivial⟩
  | .dct _, ⟨_, h, _⟩ => ⟨_, h, trivial⟩
  | .ins _ _, ⟨_, _, h, _⟩ => ⟨_, h, trivial⟩
  | .rod _, ⟨_, _, _, h, _⟩ => ⟨_, h, trivial⟩
  | .dtt _, ⟨_, h, _⟩ => ⟨_, h, trivial⟩
  | .tab _, ⟨_, _, h, _⟩ => ⟨_, h, trivial⟩
theorem Wd.frz_st {K : Frag} {w : Wd} {s : Sto} (st : StR K w s) {p : Addr} {o : HO} (h : w.H p = none) : StR K (w.frz p o) s := by
  have e := Wd.frz_ext st (o := o) h
  refine ⟨fun n ct q => ?_, st.np, fun a z => ?_, st.inj, fun a z => ?_, st.new, st.ptk (fun _ h => h) e.HP⟩
  · obtain ⟨a, h1, h2, h3⟩ := st.at_ n ct q
    obtain ⟨ob, ho, _⟩ := h3.some
    have ne : a ≠ p := ne_of_none ho h
    exact ⟨a, h1, h2.mono (w' := w.frz p o) fun (z : w.Z a ∨ a = p) => Or.elim z id fun q => absurd q ne, h3.same e (upd_ne ne)⟩
  · have ne : a ≠ p := fun q => (st.pz a z).2 (q ▸ h)
    exact ⟨fun q => q.elim (st.pz a z).1 ne, by rw [show (w.frz p o).H a = w.H a from upd_ne ne]; exact (st.pz a z).2⟩
  · by_cases hp : a = p
    · show upd w.H p o a ≠ none
      rw [hp, upd_same]
      exact fun z => nomatch z
    · show upd w.H p o a ≠ none
      rw [upd_ne hp]
      exact st.fz a (z.elim id fun z => absurd z hp)
theorem Wd.frz_z {w : Wd} {p : Addr} {o : HO} : (w.frz p o).Z p := .inr rfl
theorem Wd.frz_h {w : Wd} {p : Addr} {o : HO} : (w.frz p o).H p = some o := upd_same
/-- a new object that is nobody's (an own dict) -/
def Wd.put (w : Wd) (p : Addr) (o : HO) : Wd := ⟨w.A, w.Z, w.P, upd w.H p o⟩
/-- a cell's object is changed -/
theorem Wd.mut_ext {w : Wd} {a : Addr} {o : HO} (h : ¬ w.Z a) (hP : ¬ w.P a) : Ext w (w.put a o) :=
  ⟨⟨fun _ _ h => h, fun _ h => h, fun b z => upd_ne fun e => h (e ▸ z)⟩, fun _ h => h, fun b z => upd_ne fun e => hP (e ▸ z)⟩
theorem Wd.mut_st {K : Frag} {w : Wd} {s : Sto} (st : StR K w s) {n : Nat} {c c' : Ct} {a : Addr} {o : HO} (hn : s[n]? = some (some c)) (ha : w.A n = some a) (hz : ¬ w.Z a) (hc : CtR K (w.put a o) a c') : StR K (w.put a o) (s.set n (some c')) := by
  obtain ⟨a', h1, h2, h3⟩ := st.at_ n c hn
  have ea : a' = a := Option.some.inj (h1.symm.trans ha)
  subst ea
  have hl : n < s.length := (List.getElem?_eq_some_iff.mp hn).1
  have hP := st.np n c a' hn ha
  have e : Ext w (w.put a' o) := Wd.mut_ext hz hP
  have back : ∀ m d, (s.set n (some c'))[m]? = some (some d) → ∃ d', s[m]? = some (some d') := fun m d q => by
    by_cases hm : n = m
    · subst hm
      exact ⟨c, hn⟩
    · rw [List.getElem?_set_ne hm] at q
      exact ⟨d, q⟩
  refine ⟨fun m ct q => ?_, fun m ct b q hb => (back m ct q).elim fun d' q' => st.np m d' b q' hb, fun b z => ⟨(st.pz b z).1, ?_⟩, fun m k b x y qm qk => ?_, fun b z => ?_, fun m hm => st.new m (by rw [List.length_set] at hm; exact hm), st.ptk (fun _ h => h) e.HP⟩
  · by_cases hm : n = m
    · subst hm
      rw [List.getElem?_set_self hl] at q
      cases q
      exact ⟨a', ha, NZ.of hz, hc⟩
    · rw [List.getElem?_set_ne hm] at q
      obtain ⟨b, k1, k2, k3⟩ := st.at_ m ct q
      have ne : b ≠ a' := fun z => hm (st.inj n m a' c ct hn q ha (z ▸ k1))
      exact ⟨b, k1, k2, k3.same e (upd_ne ne)⟩
  · rw [show (w.put a' o).H b = w.H b from upd_ne fun q => hP (q ▸ z)]
    exact (st.pz b z).2
  · obtain ⟨x', qx⟩ := back m x qm
    obtain ⟨y', qy⟩ := back k y qk
    exact st.inj m k b x' y' qx qy
  · show upd w.H a' o b ≠ none
    by_cases hb : b = a'
    · rw [hb, upd_same]
      exact fun z => nomatch z
    · rw [upd_ne hb]
      exact st.fz b z
/-- a new cell -/
def Wd.cell (w : Wd) (n : Nat) (p : Addr) (o : HO) : Wd := ⟨fun m => if m = n then some p else w.A m, w.Z, w.P, upd w.H p o⟩
theorem Wd.cell_ext {K : Frag} {w : Wd} {s : Sto} (st : StR K w s) {p : Addr} {o : HO} (h : w.H p = none) : Ext w (w.cell s.length p o) :=
  ⟨⟨fun m a q => by
    have ne : ¬ m = s.length := fun z => by
      rw [st.new m (by omega)] at q
      exact nomatch q
    show (if m = s.length then some p else w.A m) = some a
    rw [if_neg ne]
    exact q, fun _ h => h, fun a z => upd_ne fun e => st.fz a z (e ▸ h)⟩, fun _ h => h, fun a z => upd_ne fun e => (st.pz a z).2 (e ▸ h)⟩
theorem Wd.cell_st {K : Frag} {w : Wd} {s : Sto} (st : StR K w s) {p : Addr} {o : HO} {c : Ct} (h : w.H p = none) (hc : CtR K (w.cell s.length p o) p c) : StR K (w.cell s.length p o) (s ++ [some c]) := by
  have e := Wd.cell_ext st (o := o) h
  have old : ∀ m ct, m < s.length → s[m]? = some (some ct) → ∃ a, w.A m = some a ∧ NZ w a ct ∧ CtR K w a ct ∧ a ≠ p := fun m ct _ q => by
    obtain ⟨a, h1, h2, h3⟩ := st.at_ m ct q
    obtain ⟨ob, ho, _⟩ := h3.some
    exact ⟨a, h1, h2, h3, ne_of_none ho h⟩
  have at' : ∀ m ct, (s ++ [some c])[m]? = some (some ct) → (m < s.length ∧ s[m]? = some (some ct)) ∨ (m = s.length ∧ ct = c) := fun m ct q => by
    by_cases hm : m < s.length
    · rw [List.getElem?_append_left hm] at q
      exact .inl ⟨hm, q⟩
    · rw [List.getElem?_append_right (by omega)] at q
      by_cases h0 : m - s.length = 0
      · rw [h0] at q
        exact .inr ⟨by omega, by simpa using q.symm⟩
      · rw [List.getElem?_eq_none (by simp; omega)] at q
        cases q
  have nz : ¬ w.Z p := fun z => st.fz p z h
  have AtN : (w.cell s.length p o).A s.length = some p := if_pos rfl
  have AtO : ∀ m, m < s.length → (w.cell s.length p o).A m = w.A m := fun m hm => if_neg (by omega)
  refine ⟨fun m ct q => ?_, fun m ct b q hb => ?_, fun b z => ⟨(st.pz b z).1, ?_⟩, fun m k b x y qm qk hm hk => ?_, fun b z => ?_, fun m hm => ?_, st.ptk (fun _ h => h) e.HP⟩
  · rcases at' m ct q with ⟨hm, q⟩ | ⟨rfl, rfl⟩
    · obtain ⟨a, h1, h2, h3, ne⟩ := old m ct hm q
      exact ⟨a, (AtO m hm).trans h1, h2, h3.same e (upd_ne ne)⟩
    · exact ⟨p, AtN, NZ.of nz, hc⟩
  · rcases at' m ct q with ⟨lm, q'⟩ | ⟨rfl, rfl⟩
    · rw [AtO m lm] at hb
      exact st.np m ct b q' hb
    · rw [AtN] at hb
      cases hb
      exact fun z => (st.pz p z).2 h
  · rw [show (w.cell s.length p o).H b = w.H b from upd_ne fun q => (st.pz b z).2 (q ▸ h)]
    exact (st.pz b z).2
  · rcases at' m x qm with ⟨lm, qm'⟩ | ⟨rfl, rfl⟩
    · rcases at' k y qk with ⟨lk, qk'⟩ | ⟨rfl, rfl⟩
      · rw [AtO m lm] at hm
        rw [AtO k lk] at hk
        exact st.inj m k b x y qm' qk' hm hk
      · obtain ⟨a, h1, _, _, ne⟩ := old m x lm qm'
        rw [AtO m lm, h1] at hm
        rw [AtN] at hk
        exact absurd ((Option.some.inj hm).trans (Option.some.inj hk).symm) ne
    · rcases at' k y qk with ⟨lk, qk'⟩ | ⟨rfl, rfl⟩
      · obtain ⟨a, h1, _, _, ne⟩ := old k y lk qk'
        rw [AtO k lk, h1] at hk
        rw [AtN] at hm
        exact absurd ((Option.some.inj hk).trans (Option.some.inj hm).symm) ne
      · rfl
  · show upd w.H p o b ≠ none
    by_cases hb : b = p
    · rw [hb, upd_same]
      exact fun z => nomatch z
    · rw [upd_ne hb]
      exact st.fz b z
  · have hm' : s.length + 1 ≤ m := by
      rw [List.length_append] at hm
      exact hm
    show (if m = s.length then some p else w.A m) = none
    rw [if_neg (by omega)]
    exact st.new m (by omega)
/-- a cell is frozen -/
def Wd.ice (w : Wd) (a : Addr) : Wd := ⟨w.A, fun b => w.Z b ∨ b = a, w.P, w.H⟩
theorem Wd.ice_ext {w : Wd} {a : Addr} : Ext w (w.ice a) := ⟨⟨fun _ _ h => h, fun _ h => .inl h, fun _ _ => rfl⟩, fun _ h => h, fun _ _ => rfl⟩
theorem Wd.ice_st {K : Frag} {w : Wd} {s : Sto} (st : StR K w s) {n : Nat} {c : Ct} {a : Addr} (hn : s[n]? = some (some c)) (ha : w.A n = some a) : StR K (w.ice a) (s.set n none) := by
  obtain ⟨a', h1, h2, h3⟩ := st.at_ n c hn
  have ea : a' = a := Option.some.inj (h1.symm.trans ha)
  subst ea
  have hl : n < s.length := (List.getElem?_eq_some_iff.mp hn).1
  have back : ∀ m d, (s.set n none)[m]? = some (some d) → m ≠ n ∧ s[m]? = some (some d) := fun m d q => by
    by_cases hm : n = m
    · subst hm
      rw [List.getElem?_set_self hl] at q
      cases q
    · rw [List.getElem?_set_ne hm] at q
      exact ⟨fun z => hm z.symm, q⟩
  refine ⟨fun m ct q => ?_, fun m ct b q => st.np m ct b (back m ct q).2, fun b z => ⟨fun q => q.elim (st.pz b z).1 fun e => st.np n c a' hn ha (e ▸ z), (st.pz b z).2⟩, fun m k b x y qm qk => st.inj m k b x y (back m x qm).2 (back k y qk).2, fun b z => ?_, fun m hm => st.new m (by rw [List.length_set] at hm; exact hm), st.ptk (fun _ h => h) (fun _ _ => rfl)⟩
  · obtain ⟨hm, q⟩ := back m ct q
    obtain ⟨b, k1, k2, k3⟩ := st.at_ m ct q
    have ne : b ≠ a' := fun z => hm (st.inj m n a' ct c q hn (z ▸ k1) ha)
    exact ⟨b, k1, k2.mono (w' := w.ice a') fun (z : w.Z b ∨ b = a') => Or.elim z id fun q => absurd q ne, k3.same Wd.ice_ext rfl⟩
  · rcases z with z | z
    · exact st.fz b z
    · obtain ⟨ob, ho, _⟩ := h3.some
      show w.H b ≠ none
      rw [z, ho]
      exact fun z => nomatch z
/-- a cell is locked: read by everybody, written by nobody -/
def Wd.lock (w : Wd) (a : Addr) (o : HO) : Wd := ⟨w.A, fun b => w.Z b ∨ b = a, w.P, upd w.H a o⟩
theorem Wd.lock_ext {w : Wd} {a : Addr} {o : HO} (h : ¬ w.Z a) (hP : ¬ w.P a) : Ext w (w.lock a o) :=
  ⟨⟨fun _ _ h => h, fun _ h => .inl h, fun b z => upd_ne fun e => h (e ▸ z)⟩, fun _ h => h, fun b z => upd_ne fun e => hP (e ▸ z)⟩
theorem Wd.lock_st {K : Frag} {w : Wd} {s : Sto} (st : StR K w s) {n : Nat} {c : Ct} {m : List (Key × D)} {a : Addr} {o : HO} (hn : s[n]? = some (some c)) (ha : w.A n = some a) (hz : ¬ w.Z a) (hc : CtR K (w.lock a o) a (.rod m)) : StR K (w.lock a o) (s.set n (some (.rod m))) := by
  have hl : n < s.length := (List.getElem?_eq_some_iff.mp hn).1
  have hP := st.np n c a hn ha
  have e : Ext w (w.lock a o) := Wd.lock_ext hz hP
  have back : ∀ m' d, (s.set n (some (.rod m)))[m']? = some (some d) → ∃ d', s[m']? = some (some d') := fun m' d q => by
    by_cases hm : n = m'
    · subst hm
      exact ⟨c, hn⟩
    · rw [List.getElem?_set_ne hm] at q
      exact ⟨d, q⟩
  refine ⟨fun m' ct q => ?_, fun m' ct b q hb => (back m' ct q).elim fun d' q' => st.np m' d' b q' hb, fun b z => ⟨fun q => Or.elim q (st.pz b z).1 fun e => hP (e ▸ z), ?_⟩, fun m' k b x y qm qk => ?_, fun b z => ?_, fun m' hm => st.new m' (by rw [List.length_set] at hm; exact hm), st.ptk (fun _ h => h) e.HP⟩
  · by_cases hm : n = m'
    · subst hm
      rw [List.getElem?_set_self hl] at q
      cases q
      exact ⟨a, ha, trivial, hc⟩
    · rw [List.getElem?_set_ne hm] at q
      obtain ⟨b, k1, k2, k3⟩ := st.at_ m' ct q
      have ne : b ≠ a := fun z => hm (st.inj n m' a c ct hn q ha (z ▸ k1))
      exact ⟨b, k1, k2.mono (w' := w.lock a o) fun (z : w.Z b ∨ b = a) => Or.elim z id fun q => absurd q ne, k3.same e (upd_ne ne)⟩
  · rw [show (w.lock a o).H b = w.H b from upd_ne fun q => hP (q ▸ z)]
    exact (st.pz b z).2
  · obtain ⟨x', qx⟩ := back m' x qm
    obtain ⟨y', qy⟩ := back k y qk
    exact st.inj m' k b x' y' qx qy
  · show upd w.H a o b ≠ none
    by_cases hb : b = a
    · rw [hb, upd_same]
      exact fun z => nomatch z
    · rw [upd_ne hb]
      exact st.fz b (Or.elim z id fun q => absurd q hb)
/-! ### what is wanted behind -/
/-- an exception's own dict: its fields -/
def ExR (K : Frag) (w : Wd) : Option Addr → List (Str × D) → Prop
  | none, fs => fs = []
  | some a, fs => w.Z a ∧ ∃ l, w.H a = some (.xd l) ∧ KVR K w l fs
def Post {T U : Type} (K : Frag) (R : Wd → U → T → Prop) (w : Wd) (E : XK) (Q : U → Hp → Prop) : Res T → Prop
  | .ok a s' => ∀ x w', Ext w w' → StR K w' s' → R w' x a → Q x w'.H
  | .exc C fs s' => ∀ ed w', Ext w w' → StR K w' s' → ExR K w' ed fs → E (.ref (He.ga K C)) ed w'.H
  | .bad => False
theorem Post.ext {T U : Type} {K : Frag} {R : Wd → U → T → Prop} {w w1 : Wd} {E : XK} {Q : U → Hp → Prop} (e : Ext w w1) : ∀ {r : Res T}, Post K R w E Q r → Post K R w1 E Q r
  | .ok _ _, h => fun x w' e' => h x w' (e.trans e')
  | .exc _ _ _, h => fun x w' e' => h x w' (e.trans e')
  | .bad, h => h
def tM {T U : Type} (K : Frag) (R : Wd → U → T → Prop) (W : WX) (m : DM T) : L2.St → Hp → (U → Hp → Prop) → Prop := fun t H Q =>
  ∃ r s w, w.H = H ∧ EnvR K w r t ∧ StR K w s ∧ Post K R w (fun c d H' => W c d t H') Q (m r s)
abbrev tE (K : Frag) (W : WX) (m : DE) : TE := tM K (Rep K) W m
abbrev tT (K : Frag) (W : WX) (m : DM Bool) : TT := tM K (fun _ (b c : Bool) => b = c) W m
abbrev tA (K : Frag) (W : WX) (m : DM (List D)) : TA := tM K (Reps K) W m
theorem Post.bind {T T' U U' : Type} {K : Frag} {R : Wd → U → T → Prop} {R' : Wd → U' → T' → Prop} {w : Wd} {r : En} {t : L2.St} {s : Sto} {W : WX} {Q : U' → Hp → Prop} {P : U → Hp → Prop} {m : DM T} {f : T → DM T'}
    (hp : Post K R' w (fun c d H' => W c d t H') Q (bindM m f r s)) (env : EnvR K w r t) (st : StR K w s)
    (k : ∀ x a s1 w1, Ext w w1 → StR K w1 s1 → R w1 x a → Post K R' w1 (fun c d H' => W c d t H') Q (f a r s1) → P x w1.H) : tM K R W m t w.H P := by
  refine ⟨r, s, w, rfl, env, st, ?_⟩
  unfold bindM at hp
  cases e : m r s with
  | ok a s1 =>
    rw [e] at hp
    exact fun x w1 e1 st1 r1 => k x a s1 w1 e1 st1 r1 (Post.ext e1 hp)
  | exc C fs s1 =>
    rw [e] at hp
    exact hp
  | bad =>
    rw [e] at hp
    exact hp
theorem Post.pure {T U : Type} {K : Frag} {R : Wd → U → T → Prop} {w : Wd} {E : XK} {Q : U → Hp → Prop} {a : T} {s : Sto} {x : U} (hp : Post K R w E Q (.ok a s)) (st : StR K w s) (h : R w x a) : Q x w.H := hp x w (Ext.refl w) st h
section
variable {X : Cx} {e : Expr} {es : List Expr}
theorem PE.imp {t t' : TE} (h : PE X e t) (i : ∀ σ H Q, t' σ H Q → t σ H Q) : PE X e t' := ⟨fun pins s σ H Q I q => h.run pins s σ H Q I (i _ _ _ q)⟩
theorem PT.imp {t t' : TT} (h : PT X e t) (i : ∀ σ H Q, t' σ H Q → t σ H Q) : PT X e t' := ⟨fun pins s σ H Q I q => h.run pins s σ H Q I (i _ _ _ q)⟩
theorem PA.imp {t t' : TA} (h : PA X es t) (i : ∀ σ H Q, t' σ H Q → t σ H Q) : PA X es t' := ⟨fun pos pins s σ H Q I q => h.run pos pins s σ H Q I (i _ _ _ q)⟩
theorem PS.imp {st : Stmt} {t t' : TS} (h : PS X st t) (i : ∀ D σ H, t' D σ H → t D σ H) : PS X st t' := ⟨fun pins s σ H D I q => h.run pins s σ H D I (i _ _ _ q)⟩
theorem PSs.imp {st : List Stmt} {t t' : TS} (h : PSs X st t) (i : ∀ D σ H, t' D σ H → t D σ H) : PSs X st t' := ⟨fun pins s σ H D I q => h.run pins s σ H D I (i _ _ _ q)⟩
theorem OpR.or {f : Value → Value → Sem Value} {r1 r2 : R2} (h1 : OpR X f r1) (h2 : OpR X f r2) : OpR X f (fun x y H Q => r1 x y H Q ∨ r2 x y H Q) := fun pins s σ H x y v u Q I rx ry h =>
  h.elim (h1 pins s σ H x y v u Q I rx ry) (h2 pins s σ H x y v u Q I rx ry)
theorem CallR.or {f : Value} {r1 r2 : List V → Hp → VK → Prop} (h1 : CallR X f r1) (h2 : CallR X f r2) : CallR X f (fun x H Q => r1 x H Q ∨ r2 x H Q) := fun pins s σ H x v Q I rx h =>
  h.elim (h1 pins s σ H x v Q I rx) (h2 pins s σ H x v Q I rx)
theorem PE.or {t1 t2 : TE} (h1 : PE X e t1) (h2 : PE X e t2) : PE X e (fun σ H Q => t1 σ H Q ∨ t2 σ H Q) := ⟨fun pins s σ H Q I q => q.elim (h1.run pins s σ H Q I) (h2.run pins s σ H Q I)⟩
end
/-! ### statements -/
def PostS (K : Frag) (w : Wd) (W : WX) (E : Ends) : Fl → Prop
  | .nx r' s' => ∀ t' w', Ext w w' → EnvR K w' r' t' → StR K w' s' → E.nx t' w'.H
  | .rt d s' => ∀ v w', Ext w w' → StR K w' s' → Rep K w' v d → E.rt v w'.H
  | .bk r' s' => ∀ t' w', Ext w w' → EnvR K w' r' t' → StR K w' s' → E.bk t' w'.H
  | .ct r' s' => ∀ t' w', Ext w w' → EnvR K w' r' t' → StR K w' s' → E.ct t' w'.H
  | .exc C fs r' s' => ∀ t' ed w', Ext w w' → EnvR K w' r' t' → StR K w' s' → ExR K w' ed fs → W (.ref (He.ga K C)) ed t' w'.H
  | .bad => False
theorem PostS.ext {K : Frag} {w w1 : Wd} {W : WX} {E : Ends} (e : Ext w w1) : ∀ {r : Fl}, PostS K w W E r → PostS K w1 W E r
  | .nx _ _, h => fun x w' e' => h x w' (e.trans e')
  | .rt _ _, h => fun x w' e' => h x w' (e.trans e')
  | .bk _ _, h => fun x w' e' => h x w' (e.trans e')
  | .ct _ _, h => fun x w' e' => h x w' (e.trans e')
  | .exc _ _ _ _, h => fun x y w' e' => h x y w' (e.trans e')
  | .bad, h => h
def tS (K : Frag) (W : WX) (m : DS) : TS := fun E t H => ∃ r s w, w.H = H ∧ EnvR K w r t ∧ StR K w s ∧ PostS K w W E (m r s)
/-- a statement that goes on with what an expression gives -/
def thenS {T : Type} (m : DM T) (f : T → DS) : DS := fun r s => match m r s with
  | .ok a s' => f a r s'
  | .exc C fs s' => .exc C fs r s'
  | .bad => .bad
theorem PostS.bind {T U : Type} {K : Frag} {R : Wd → U → T → Prop} {w : Wd} {r : En} {t : L2.St} {s : Sto} {W : WX} {E : Ends} {P : U → Hp → Prop} {m : DM T} {f : T → DS}
    (hp : PostS K w W E (thenS m f r s)) (env : EnvR K w r t) (st : StR K w s)
    (k : ∀ x a s1 w1, Ext w w1 → StR K w1 s1 → R w1 x a → PostS K w1 W E (f a r s1) → P x w1.H) : tM K R W m t w.H P := by
  refine ⟨r, s, w, rfl, env, st, ?_⟩
  unfold thenS at hp
  cases e : m r s with
  | ok a s1 =>
    rw [e] at hp
    exact fun x w1 e1 st1 r1 => k x a s1 w1 e1 st1 r1 (PostS.ext e1 hp)
  | exc C fs s1 =>
    rw [e] at hp
    exact fun ed w1 e1 st1 x1 => hp t ed w1 e1 (env.ext e1) st1 x1
  | bad =>
    rw [e] at hp
    exact hp
end Mp
set_option Elab.async false
set_option linter.all false
set_option maxRecDepth 100000
set_option maxHeartbeats 4000000
/-! Mp: expressions without own objects. -/
namespace Mp
open PySem PySem.Spec PyProof.Rows L2
/-! ### on data -/
def vM (i : Nat) : DE := fun r s => match r[i]? with
  | some (some d) => .ok d s
  | _ => .bad
def cM (d : D) : DE := fun _ s => .ok d s
def binM (f : D → D → Sto → Res D) (a b : DE) : DE := bindM a fun x => bindM b fun y => fun _ s => f x y s
def unM (f : D → Sto → Res D) (a : DE) : DE := bindM a fun x => fun _ s => f x s
/-- a list of one's own: frozen, a cell's -/
def lstX (s : Sto) : D → Option (List D)
  | .lst l => some l
  | .cel n => (match s[n]? with
    | some (some (.lst l)) => some l
    | _ => none)
  | _ => none
/-- a list that is read -/
def lstOf (s : Sto) : D → Option (List D)
  | .rol l => some l
  | x => lstX s x
def dctOf (s : Sto) : D → Option (List (Key × D))
  | .dct l => some l
  | .cel n => (match s[n]? with
    | some (some (.dct l)) => some l
    | some (some (.rod l)) => some l
    | _ => none)
  | _ => none
def insOf (s : Sto) : D → Option (Str × List (Str × D))
  | .ins C l => some (C, l)
  | .cel n => (match s[n]? with
    | some (some (.ins C l)) => some (C, l)
    | _ => none)
  | _ => none
def addD (x y : D) (s : Sto) : Res D := match x with
  | .int i => (match y with
    | .int j => .ok (.int (i + j)) s
    | _ => .bad)
  | .str i => (match y with
    | .str j => if i.length + j.length ≤ sizeLine then .ok (.str (i ++ j)) s else .bad
    | _ => .bad)
  | .tup i => (match y with
    | .tup j => if i.length + j.length ≤ sizeLine then .ok (.tup (i ++ j)) s else .bad
    | _ => .bad)
  | x => (match lstX s x with
    | some i => (match lstX s y with
      | some j => if i.length + j.length ≤ sizeLine then .ok (.lst (i ++ j)) s else .bad
      | none => .bad)
    | none => .bad)
def subD (x y : D) (s : Sto) : Res D := match x with
  | .int i => (match y with
    | .int j => .ok (.int (i - j)) s
    | _ => .bad)
  | _ => .bad
def mulC (i j : Int) : Bool := decide (i.natAbs.log2 + j.natAbs.log2 < 1000000)
@[irreducible] def mulD (x y : D) (s : Sto) : Res D := match x with
  | .int i => (match y with
    | .int j => if mulC i j = true then .ok (.int (i * j)) s else .bad
    | _ => .bad)
  | x => (match lstX s x with
    | none => .bad
    | some l => match y with
    | .int k => if 0 ≤ k ∧ k < 2 ^ 62 ∧ l.length * k.toNat ≤ sizeLine then .ok (.lst (List.replicate k.toNat l).flatten) s else .bad
    | _ => .bad)
@[irreducible] def divD (x y : D) (s : Sto) : Res D := match x with
  | .int i => (match y with
    | .int j => if 0 < j ∧ j.natAbs.log2 < 9000 then .ok (.int (i / j)) s else if j < 0 ∧ j.natAbs.log2 < 9000 then .ok (.int (i.fdiv j)) s else .bad
    | _ => .bad)
  | _ => .bad
def modD (x y : D) (s : Sto) : Res D := match x with
  | .int i => (match y with
    | .int j => if 0 < j then .ok (.int (i % j)) s else if j < 0 then .ok (.int (i.fmod j)) s else .bad
    | _ => .bad)
  | _ => .bad
@[irreducible] def powD (x y : D) (s : Sto) : Res D := match x with
  | .int i => (match y with
    | .int j => if 0 ≤ j ∧ j ≤ 1000000 ∧ i.natAbs < 2 ^ 64 then .ok (.int (i ^ j.toNat)) s else .bad
    | _ => .bad)
  | _ => .bad
def negD (x : D) (s : Sto) : Res D := match x with
  | .int i => .ok (.int (-i)) s
  | _ => .bad
/-- truth -/
def truD (s : Sto) : D → Option Bool
  | .non => some false
  | .bl b => some b
  | .int i => some (i != 0)
  | .str z => if z.length ≤ sizeLine then some ((z.length : Int) != 0) else none
  | .tup l => some (!l.isEmpty)
  | x => (lstOf s x).map fun l => !l.isEmpty
def truM (a : DE) : DM Bool := bindM a fun x => fun _ s => match truD s x with
  | some b => .ok b s
  | none => .bad
def notV (a : DE) : DE := bindM (truM a) fun b => pureM (.bl (!b))
def andV (a b : DE) : DE := bindM a fun x => bindM (truM (cM x)) fun k => if k = true then b else pureM x
def orV (a b : DE) : DE := bindM a fun x => bindM (truM (cM x)) fun k => if k = true then pureM x else b
def notT (a : DM Bool) : DM Bool := bindM a fun b => pureM (!b)
def andT (a b : DM Bool) : DM Bool := bindM a fun k => if k = true then b else pureM false
def orT (a b : DM Bool) : DM Bool := bindM a fun k => if k = true then pureM true else b
def ifM (c : DM Bool) (a b : DE) : DE := bindM c fun k => if k = true then a else b
/-- a test that a value's own bool makes -/
def blM (a : DE) : DM Bool := bindM a fun x => fun _ s => match x with
  | .bl b => .ok b s
  | _ => .bad
def ltD (g : Int → Int → Bool) (h : List Nat → List Nat → Bool) (x y : D) (s : Sto) : Res D := match x with
  | .int i => (match y with
    | .int j => .ok (.bl (g i j)) s
    | _ => .bad)
  | .str i => (match y with
    | .str j => .ok (.bl (h i.cps.toList j.cps.toList)) s
    | _ => .bad)
  | _ => .bad
abbrev ltI : D → D → Sto → Res D := ltD (fun i j => decide (i < j)) (fun i j => decide (i < j))
abbrev leI : D → D → Sto → Res D := ltD (fun i j => decide (i ≤ j)) (fun i j => !decide (j < i))
abbrev gtI : D → D → Sto → Res D := ltD (fun i j => decide (j < i)) (fun i j => decide (j < i))
abbrev geI : D → D → Sto → Res D := ltD (fun i j => decide (j ≤ i)) (fun i j => !decide (i < j))
/-! ### soundness -/
section
variable {K : Frag} {w : Wd} {s : Sto} {x : V} {d : D}
theorem lstX_ok {l : List D} (st : StR K w s) (r : Rep K w x d) (h : lstX s d = some l) : ∃ p vs, x = .ref p ∧ w.H p = some (.lst vs) ∧ Reps K w vs l := by
  cases r with
  | lst z hh rs =>
    cases h
    exact ⟨_, _, rfl, hh, rs⟩
  | @cel n a0 ha =>
    have h' : (match s[n]? with
      | some (some (.lst l)) => some l
      | _ => none) = some l := h
    cases e : s[n]? with
    | none => rw [e] at h'; cases h'
    | some o =>
      rw [e] at h'
      cases o with
      | none => cases h'
      | some c =>
        cases c with
        | lst l1 =>
          cases h'
          obtain ⟨a1, h1, _, vs, hh, rs⟩ := st.at_ n _ e
          have ea : a1 = a0 := Option.some.inj (h1.symm.trans ha)
          subst ea
          exact ⟨_, vs, rfl, hh, rs⟩
        | _ => cases h'
  | _ => cases h
theorem lstOf_ok {l : List D} (st : StR K w s) (r : Rep K w x d) (h : lstOf s d = some l) : ∃ p vs, x = .ref p ∧ SqL K w.H p vs ∧ Reps K w vs l := by
  have key : lstX s d = some l → ∃ p vs, x = .ref p ∧ SqL K w.H p vs ∧ Reps K w vs l := fun h => by
    obtain ⟨p, vs, h1, h2, h3⟩ := lstX_ok st r h
    exact ⟨p, vs, h1, SqL.of h2, h3⟩
  cases d with
  | rol l1 =>
    cases h
    cases r with
    | rol hh rs => exact ⟨_, _, rfl, hh.sq, rs⟩
  | _ => exact key h
theorem dctOf_ok {m : List (Key × D)} (st : StR K w s) (r : Rep K w x d) (h : dctOf s d = some m) : ∃ p l, x = .ref p ∧ Rd w.H p (.dK l) ∧ KVR K w l m := by
  cases d with
  | dct m1 =>
    cases h
    obtain ⟨a, o, l, rfl, _, h1, h2⟩ := r.dct_inv
    exact ⟨a, l, rfl, .inr ⟨o, h1⟩, h2⟩
  | cel n =>
    have h' : (match s[n]? with
      | some (some (.dct l)) => some l
      | some (some (.rod l)) => some l
      | _ => none) = some m := h
    cases r with
    | cel ha =>
      cases e : s[n]? with
      | none => rw [e] at h'; cases h'
      | some o =>
        rw [e] at h'
        cases o with
        | none => cases h'
        | some c =>
          cases c with
          | dct l1 =>
            cases h'
            obtain ⟨a1, h1, _, l, hh, rs⟩ := st.at_ n _ e
            have ea := Option.some.inj (h1.symm.trans ha)
            subst ea
            exact ⟨_, l, rfl, .inl hh, rs⟩
          | rod l1 =>
            cases h'
            obtain ⟨a1, h1, _, o, l, _, hh, rs⟩ := st.at_ n _ e
            have ea := Option.some.inj (h1.symm.trans ha)
            subst ea
            exact ⟨_, l, rfl, .inr ⟨o, hh⟩, rs⟩
          | _ => cases h'
  | _ => cases h
end
section
variable {X : Cx} {W : WX} {a b c : Expr} {pos : Pos} {ma mb mc : DE}
theorem e_var {i : Nat} {x : Str} (hN : X.N[i]? = some x) (hv : Vis X.env.scope x) (hd : (x == ("__debug__" : Str)) = false) (hcd : (x == ("__classdict__" : Str)) = false) : PE X (.Name x pos) (tE X.K W (vM i)) :=
  PE.imp (pe_var hN hv hd hcd) fun t H Q h => by
    obtain ⟨r, s, w, rfl, env, st, hp⟩ := h
    unfold vM at hp
    cases e : r[i]? with
    | none =>
      rw [e] at hp
      exact hp.elim
    | some o =>
      cases o with
      | none =>
        rw [e] at hp
        exact hp.elim
      | some d =>
        rw [e] at hp
        obtain ⟨v, h1, h2⟩ := env.2 i d e
        exact ⟨v, h1, hp.pure st h2⟩
theorem ev (i : Nat) {x : Str} (hN : X.N[i]? = some x := by rfl) (hv : Vis X.env.scope x := by first | exact Or.inl rfl | exact Or.inr (Or.inl rfl) | exact Or.inr (Or.inr rfl)) (hd : (x == ("__debug__" : Str)) = false := by decide)
    (hcd : (x == ("__classdict__" : Str)) = false := by decide) : PE X (.Name x pos) (tE X.K W (vM i)) := e_var hN hv hd hcd
theorem e_c {e : Expr} {v : V} {d : D} (h : PE X e (tC v)) (hr : ∀ w, Rep X.K w v d) : PE X e (tE X.K W (cM d)) := PE.imp h fun t H Q h => by
  obtain ⟨r, s, w, rfl, env, st, hp⟩ := h
  exact hp.pure st (hr w)
theorem e_int {i : Int} {j : Nat} : PE X (.Constant (.int i) j pos) (tE X.K W (cM (.int i))) := e_c pe_int fun _ => .int i
theorem e_bl {i : Bool} {j : Nat} : PE X (.Constant (.bool i) j pos) (tE X.K W (cM (.bl i))) := e_c pe_bl fun _ => .bl i
theorem e_non {j : Nat} : PE X (.Constant .none j pos) (tE X.K W (cM .non)) := e_c pe_non fun _ => .non
theorem e_str {z : Str} {j : Nat} : PE X (.Constant (.str z) j pos) (tE X.K W (cM (.str z))) := e_c pe_str fun _ => .str z
theorem e_glo {x : Str} (hg : Gl X x) (hm : X.mg x = some (.ref (He.ga X.K x))) (hd : (x == ("__debug__" : Str)) = false := by decide) : PE X (.Name x pos) (tE X.K W (cM (.glo x))) :=
  e_c (pe_glob (v := .ref (He.ga X.K x)) hg hm rfl hd) fun _ => .glo x
/-- a built-in class as a value -/
theorem e_ty {x : Str} {n : String} (hg : Gl X x) (hm : X.mg x = none) (hv : bootBuiltins x = some (.type n)) (hn : x ≠ "__name__" := by decide) (hd : (x == ("__debug__" : Str)) = false := by decide) : PE X (.Name x pos) (tE X.K W (cM (.ty n))) :=
  e_c (pe_bltn (v := .ty n) hg hm hv rfl hn hd) fun _ => .ty n
/-- what an operation on values asks, from what the data's operation gives -/
def VR2 (K : Frag) (r : R2) (f : D → D → Sto → Res D) : Prop := ∀ w s x y a b Q E, StR K w s → Rep K w x a → Rep K w y b → Post K (Rep K) w E Q (f a b s) → r x y w.H Q
theorem e_bin {op : Operator} {f : D → D → Sto → Res D} {r : R2} (ho : OpR X (binaryOp op) r) (hv : VR2 X.K r f) (ha : PE X a (tE X.K W ma)) (hb : PE X b (tE X.K W mb)) : PE X (.BinOp a op b pos) (tE X.K W (binM f ma mb)) :=
  PE.imp (pe_op ho ha hb) fun t H Q h => by
    obtain ⟨r, s, w, rfl, env, st, hp⟩ := h
    exact hp.bind env st fun x d s1 w1 e1 st1 r1 hp1 => hp1.bind (env.ext e1) st1 fun y d2 s2 w2 e2 st2 r2 hp2 => hv w2 s2 x y d d2 Q _ st2 (r1.ext e2) r2 hp2
/-- the value of a comparison is a bool -/
theorem Post.toBl {K : Frag} {w : Wd} {E : XK} {Q : Bool → Hp → Prop} {x : D} {s : Sto} (hp : Post K (fun _ (b c : Bool) => b = c) w E Q (match x with | .bl b => .ok b s | _ => .bad)) : Post K (Rep K) w E (fun v H' => ∃ k, v = V.bl k ∧ Q k H') (.ok x s) := fun v w' e st r => by
  cases r with
  | bl b => exact ⟨b, rfl, hp b w' e st rfl⟩
  | _ => exact hp.elim
theorem bind_assoc {T U Z : Type} (m : DM T) (f : T → DM U) (g : U → DM Z) : bindM (bindM m f) g = bindM m fun x => bindM (f x) g := by
  funext r s
  unfold bindM
  cases m r s <;> rfl
theorem t_cmp {op : CmpOp} {f : D → D → Sto → Res D} {r : R2} (ho : OpR X (compareOp op) r) (hv : VR2 X.K r f) (ha : PE X a (tE X.K W ma)) (hb : PE X b (tE X.K W mb)) (hm : behindInMarks op b = false) : PT X (.Compare a [op] [b] pos) (tT X.K W (blM (binM f ma mb))) :=
  PT.imp (pt_cmpR ho ha hb hm) fun t H Q h => by
    obtain ⟨r, s, w, rfl, env, st, hp⟩ := h
    have hp' : Post X.K (fun _ (b c : Bool) => b = c) w (fun c d H' => W c d t H') Q (bindM ma (fun x => bindM mb fun y => bindM (fun _ s => f x y s) fun z => fun _ s => match z with | .bl b => .ok b s | _ => .bad) r s) := by
      have e : blM (binM f ma mb) = bindM ma (fun x => bindM mb fun y => bindM (fun _ s => f x y s) fun z => fun _ s => match z with | .bl b => .ok b s | _ => .bad) := by
        unfold blM binM
        rw [bind_assoc]
        congr 1
        funext x
        rw [bind_assoc]
      rw [← e]
      exact hp
    exact hp'.bind env st fun x d s1 w1 e1 st1 r1 hp1 => hp1.bind (env.ext e1) st1 fun y d2 s2 w2 e2 st2 r2 hp2 => hv w2 s2 x y d d2 _ (fun c d H' => W c d t H') st2 (r1.ext e2) r2 (by
      unfold bindM at hp2
      dsimp only at hp2
      cases e : f d d2 s2 with
      | ok z s3 =>
        rw [e] at hp2
        exact Post.toBl hp2
      | exc C fs s3 =>
        rw [e] at hp2
        exact hp2
      | bad =>
        rw [e] at hp2
        exact hp2)
theorem tru_ok {w : Wd} {s : Sto} {x : V} {d : D} {k : Bool} (st : StR X.K w s) (r : Rep X.K w x d) (h : truD s d = some k) : TruV X.K x w.H k := by
  have seq : (lstOf s d).map (fun l => !l.isEmpty) = some k → TruV X.K x w.H k := fun h => by
    cases e : lstOf s d with
    | none => rw [e] at h; cases h
    | some l =>
      rw [e] at h
      obtain ⟨p, vs, rfl, hs, rs⟩ := lstOf_ok st r e
      refine .inl ⟨vs, hs, ?_⟩
      rw [← Option.some.inj h]
      cases rs <;> rfl
  cases d with
  | non =>
    cases r
    exact (Option.some.inj h).symm
  | bl b =>
    cases r
    exact (Option.some.inj h).symm
  | int i =>
    cases r
    exact (Option.some.inj h).symm
  | str z =>
    cases r
    have h' : (if z.length ≤ sizeLine then some ((z.length : Int) != 0) else none) = some k := h
    by_cases hl : z.length ≤ sizeLine
    · rw [if_pos hl] at h'
      exact ⟨hl, (Option.some.inj h').symm⟩
    · rw [if_neg hl] at h'
      cases h'
  | tup l =>
    cases r with
    | tup hh rs =>
      refine .inr (.inl ⟨_, hh.sq, ?_⟩)
      rw [← Option.some.inj h]
      cases rs <;> rfl
  | _ => exact seq h
theorem truM_bind {w : Wd} {r : En} {s : Sto} {t : L2.St} {d : D} {x : V} {T U : Type} {R : Wd → U → T → Prop} {E : XK} {Q : U → Hp → Prop} {f : Bool → DM T} (st : StR X.K w s) (hr : Rep X.K w x d) (hp : Post X.K R w E Q (bindM (truM (cM d)) f r s)) :
    ∃ k, TruV X.K x w.H k ∧ Post X.K R w E Q (f k r s) := by
  unfold truM bindM cM at hp
  dsimp only at hp
  cases e : truD s d with
  | none =>
    rw [e] at hp
    exact hp.elim
  | some k =>
    rw [e] at hp
    exact ⟨k, tru_ok st hr e, hp⟩
theorem t_truth (ha : PE X a (tE X.K W ma)) (he : ∀ whole, isTrue a X.env whole = (do let v ← whole; standAt a.pos; holding [v] (truthy v)) := by intro _; rfl) : PT X a (tT X.K W (truM ma)) :=
  PT.imp (pt_truth ha he) fun t H Q h => by
    obtain ⟨r, s, w, rfl, env, st, hp⟩ := h
    exact hp.bind env st fun x d s1 w1 e1 st1 r1 hp1 => by
      cases e : truD s1 d with
      | none =>
        rw [e] at hp1
        exact hp1.elim
      | some k =>
        rw [e] at hp1
        exact ⟨k, tru_ok st1 r1 e, hp1 k w1 (Ext.refl w1) st1 rfl⟩
theorem w_and1 {mt : DM Bool} (ha : PT X a (tT X.K W mt)) : PW X (.BoolOp .And [a] pos) (tT X.K W mt) := pw_and1 ha
theorem w_or1 {mt : DM Bool} (ha : PT X a (tT X.K W mt)) : PW X (.BoolOp .Or [a] pos) (tT X.K W mt) := pw_or1 ha
theorem PW.imp {e : Expr} {t t' : TT} (h : PW X e t) (i : ∀ σ H Q, t' σ H Q → t σ H Q) : PW X e t' := ⟨fun whole pins s σ H Q I q => h.run whole pins s σ H Q I (i _ _ _ q)⟩
theorem w_and {rest : List Expr} {mt mu : DM Bool} (ha : PT X a (tT X.K W mt)) (hb : PW X (.BoolOp .And (b :: rest) pos) (tT X.K W mu)) : PW X (.BoolOp .And (a :: b :: rest) pos) (tT X.K W (andT mt mu)) := PW.imp (pw_and ha hb) fun t H Q h => by
  obtain ⟨r, s, w, rfl, env, st, hp⟩ := h
  exact hp.bind env st fun x d s1 w1 e1 st1 r1 hp1 => by
    subst r1
    cases x with
    | true => exact ⟨r, s1, w1, rfl, env.ext e1, st1, hp1⟩
    | false => exact hp1 _ w1 (Ext.refl w1) st1 rfl
theorem w_or {rest : List Expr} {mt mu : DM Bool} (ha : PT X a (tT X.K W mt)) (hb : PW X (.BoolOp .Or (b :: rest) pos) (tT X.K W mu)) : PW X (.BoolOp .Or (a :: b :: rest) pos) (tT X.K W (orT mt mu)) := PW.imp (pw_or ha hb) fun t H Q h => by
  obtain ⟨r, s, w, rfl, env, st, hp⟩ := h
  exact hp.bind env st fun x d s1 w1 e1 st1 r1 hp1 => by
    subst r1
    cases x with
    | true => exact hp1 _ w1 (Ext.refl w1) st1 rfl
    | false => exact ⟨r, s1, w1, rfl, env.ext e1, st1, hp1⟩
theorem e_not (ha : PE X a (tE X.K W ma)) : PE X (.UnaryOp .Not a pos) (tE X.K W (notV ma)) := PE.imp (pe_notT ha) fun t H Q h => by
  obtain ⟨r, s, w, rfl, env, st, hp⟩ := h
  have e : notV ma = bindM ma fun x => bindM (truM (cM x)) fun b => pureM (.bl (!b)) := by
    unfold notV truM
    rw [bind_assoc]
    rfl
  rw [e] at hp
  exact hp.bind env st fun x d s1 w1 e1 st1 r1 hp1 => by
    obtain ⟨k, h1, h2⟩ := truM_bind (t := t) st1 r1 hp1
    exact ⟨k, h1, h2.pure st1 (.bl _)⟩
theorem e_one {op : BoolOp} (ha : PE X a (tE X.K W ma)) : PE X (.BoolOp op [a] pos) (tE X.K W ma) := pe_one ha
theorem e_and {rest : List Expr} (ha : PE X a (tE X.K W ma)) (hb : PE X (.BoolOp .And (b :: rest) pos) (tE X.K W mb)) : PE X (.BoolOp .And (a :: b :: rest) pos) (tE X.K W (andV ma mb)) := PE.imp (pe_andT ha hb) fun t H Q h => by
  obtain ⟨r, s, w, rfl, env, st, hp⟩ := h
  exact hp.bind env st fun x d s1 w1 e1 st1 r1 hp1 => by
    obtain ⟨k, h1, h2⟩ := truM_bind (t := t) st1 r1 hp1
    refine ⟨k, h1, ?_⟩
    cases k with
    | true => exact ⟨r, s1, w1, rfl, env.ext e1, st1, h2⟩
    | false => exact h2.pure st1 r1
theorem e_or {rest : List Expr} (ha : PE X a (tE X.K W ma)) (hb : PE X (.BoolOp .Or (b :: rest) pos) (tE X.K W mb)) : PE X (.BoolOp .Or (a :: b :: rest) pos) (tE X.K W (orV ma mb)) := PE.imp (pe_orT ha hb) fun t H Q h => by
  obtain ⟨r, s, w, rfl, env, st, hp⟩ := h
  exact hp.bind env st fun x d s1 w1 e1 st1 r1 hp1 => by
    obtain ⟨k, h1, h2⟩ := truM_bind (t := t) st1 r1 hp1
    refine ⟨k, h1, ?_⟩
    cases k with
    | true => exact h2.pure st1 r1
    | false => exact ⟨r, s1, w1, rfl, env.ext e1, st1, h2⟩
end
end Mp
set_option Elab.async false
set_option linter.all false
set_option maxRecDepth 100000
set_option maxHeartbeats 4000000
/-! Mp: operators on data. -/
namespace Mp
open PySem PySem.Spec PyProof.Rows L2
section
variable {X : Cx} {W : WX} {a b c : Expr} {pos : Pos} {ma mb mc : DE}
/-- a new frozen object -/
theorem Post.frz {K : Frag} {w : Wd} {s : Sto} {E : XK} {Q : VK} {d : D} (hp : Post K (Rep K) w E Q (.ok d s)) (st : StR K w s) {o : HO} (h : ∀ p, w.H p = none → Rep K (w.frz p o) (.ref p) d) : ∀ p, w.H p = none → Q (.ref p) (upd w.H p o) :=
  fun p np => hp (.ref p) (w.frz p o) (Wd.frz_ext st np) (Wd.frz_st st np) (h p np)
theorem rep_newL {K : Frag} {w : Wd} {s : Sto} (st : StR K w s) {vs : List V} {ds : List D} (r : Reps K w vs ds) {p : Addr} (np : w.H p = none) : Rep K (w.frz p (.lst vs)) (.ref p) (.lst ds) :=
  .lst Wd.frz_z Wd.frz_h (r.ext (Wd.frz_ext st np))
theorem rep_newT {K : Frag} {w : Wd} {s : Sto} (st : StR K w s) {vs : List V} {ds : List D} (r : Reps K w vs ds) {p : Addr} (np : w.H p = none) : Rep K (w.frz p (.tup vs)) (.ref p) (.tup ds) :=
  .tup ⟨Wd.frz_z, Wd.frz_h⟩ (r.ext (Wd.frz_ext st np))
theorem v_add : VR2 X.K (fun x y H Q => (rI0 fun i j => .int (i + j)) x y H Q ∨ (∃ i j, x = .str i ∧ y = .str j ∧ i.length + j.length ≤ sizeLine ∧ Q (.str (i ++ j)) H) ∨ rCat x y H Q ∨ rCatA X.K x y H Q) addD := fun w s x y d e Q E st rx ry hp => by
  unfold addD at hp
  cases d with
  | int i =>
    cases rx
    cases ry with
    | int j => exact .inl ⟨i, j, rfl, rfl, hp.pure st (.int _)⟩
    | _ => exact hp.elim
  | str i =>
    cases rx
    cases ry with
    | str j =>
      dsimp only at hp
      split at hp
      · exact .inr (.inl ⟨i, j, rfl, rfl, by assumption, hp.pure st (.str _)⟩)
      · exact hp.elim
    | _ => exact hp.elim
  | tup l1 =>
    cases rx with | tup h1 r1 =>
    cases ry with
    | tup h2 r2 =>
      dsimp only at hp
      split at hp
      · rename_i hl
        rw [← r1.length, ← r2.length] at hl
        refine .inr (.inr (.inr ⟨_, _, _, _, rfl, rfl, h1.sq, h2.sq, hl, fun e => ?_, fun e0 e => ?_, fun e1 e2 => ?_⟩))
        · subst e
          cases r1
          exact hp.pure st (.tup h2 r2)
        · subst e
          cases r2
          exact hp.pure st (by rw [List.append_nil]; exact .tup h1 r1)
        · exact hp.frz st fun p np => rep_newT st (r1.append r2) np
      · exact hp.elim
    | _ => exact hp.elim
  | _ =>
    dsimp only at hp
    split at hp
    · rename_i e1
      split at hp
      · rename_i e2
        split at hp
        · rename_i hl
          obtain ⟨p1, v1, rfl, h1, r1⟩ := lstX_ok st rx e1
          obtain ⟨p2, v2, rfl, h2, r2⟩ := lstX_ok st ry e2
          rw [← r1.length, ← r2.length] at hl
          exact .inr (.inr (.inl ⟨_, _, _, _, rfl, rfl, h1, h2, hl, hp.frz st fun p np => rep_newL st (r1.append r2) np⟩))
        · exact hp.elim
      · exact hp.elim
    · exact hp.elim
theorem e_add (ha : PE X a (tE X.K W ma)) (hb : PE X b (tE X.K W mb)) : PE X (.BinOp a .Add b pos) (tE X.K W (binM addD ma mb)) := e_bin (OpR.or op_add (OpR.or op_add_str (OpR.or op_cat op_catA))) v_add ha hb
theorem v_sub : VR2 X.K (rI0 fun i j => .int (i - j)) subD := fun w s x y d e Q E st rx ry hp => by
  unfold subD at hp
  cases rx with
  | int i =>
    cases ry with
    | int j => exact ⟨i, j, rfl, rfl, hp.pure st (.int _)⟩
    | _ => exact hp.elim
  | _ => exact hp.elim
theorem e_sub (ha : PE X a (tE X.K W ma)) (hb : PE X b (tE X.K W mb)) : PE X (.BinOp a .Sub b pos) (tE X.K W (binM subD ma mb)) := e_bin op_sub v_sub ha hb
theorem reps_rep {K : Frag} {w : Wd} {vs : List V} {ds : List D} (r : Reps K w vs ds) : ∀ n : Nat, Reps K w (List.replicate n vs).flatten (List.replicate n ds).flatten
  | 0 => .nil
  | n + 1 => by
    rw [List.replicate_succ, List.replicate_succ, List.flatten_cons, List.flatten_cons]
    exact r.append (reps_rep r n)
theorem v_mul : VR2 X.K (fun x y H Q => (rI CMulW fun i j => .int (i * j)) x y H Q ∨ rRep x y H Q) mulD := fun w s x y d e Q E st rx ry hp => by
  unfold mulD at hp
  cases d with
  | int i =>
    cases rx
    cases ry with
    | int j =>
      dsimp only at hp
      split at hp
      · rename_i hc
        exact .inl ⟨i, j, rfl, rfl, of_decide_eq_true (p := i.natAbs.log2 + j.natAbs.log2 < 1000000) hc, hp.pure st (.int _)⟩
      · exact hp.elim
    | _ => exact hp.elim
  | _ =>
    dsimp only at hp
    split at hp
    · exact hp.elim
    · rename_i e1
      obtain ⟨p1, v1, rfl, h1, r1⟩ := lstX_ok st rx e1
      cases ry with
      | int k =>
        dsimp only at hp
        split at hp
        · rename_i hc
          rw [← r1.length] at hc
          exact .inr ⟨_, k, _, rfl, rfl, h1, by omega, by omega, hc.2.2, hp.frz st fun p np => rep_newL st (reps_rep r1 _) np⟩
        · exact hp.elim
      | _ => exact hp.elim
theorem e_mul (ha : PE X a (tE X.K W ma)) (hb : PE X b (tE X.K W mb)) : PE X (.BinOp a .Mult b pos) (tE X.K W (binM mulD ma mb)) := e_bin (OpR.or op_mulW op_rep) v_mul ha hb
def CDivX (_ j : Int) : Prop := j ≠ 0 ∧ j.natAbs.log2 < 9000
theorem op_fdivX : OpR X (binaryOp .FloorDiv) (rI CDivX fun i j => .int (i.fdiv j)) := opI fun _ _ _ _ _ _ _ hc q => floordiv_int hc.1 q (.inl (PyProof.noPylong_of_log2 hc.2))
theorem v_div : VR2 X.K (fun x y H Q => (rI CDivW fun i j => .int (i / j)) x y H Q ∨ (rI CDivX fun i j => .int (i.fdiv j)) x y H Q) divD := fun w s x y d e Q E st rx ry hp => by
  unfold divD at hp
  cases rx with
  | int i =>
    cases ry with
    | int j =>
      dsimp only at hp
      split at hp
      · rename_i hc
        exact .inl ⟨i, j, rfl, rfl, hc, hp.pure st (.int _)⟩
      · split at hp
        · rename_i hc
          exact .inr ⟨i, j, rfl, rfl, ⟨by omega, hc.2⟩, hp.pure st (.int _)⟩
        · exact hp.elim
    | _ => exact hp.elim
  | _ => exact hp.elim
theorem e_div (ha : PE X a (tE X.K W ma)) (hb : PE X b (tE X.K W mb)) : PE X (.BinOp a .FloorDiv b pos) (tE X.K W (binM divD ma mb)) := e_bin (OpR.or op_fdivW op_fdivX) v_div ha hb
theorem v_mod : VR2 X.K (fun x y H Q => (rI (fun _ j => 0 < j) fun i j => .int (i % j)) x y H Q ∨ (rI (fun _ j => j ≠ 0) fun i j => .int (i.fmod j)) x y H Q) modD := fun w s x y d e Q E st rx ry hp => by
  unfold modD at hp
  cases rx with
  | int i =>
    cases ry with
    | int j =>
      dsimp only at hp
      split at hp
      · rename_i hc
        exact .inl ⟨i, j, rfl, rfl, hc, hp.pure st (.int _)⟩
      · split at hp
        · rename_i hc
          exact .inr ⟨i, j, rfl, rfl, (by omega), hp.pure st (.int _)⟩
        · exact hp.elim
    | _ => exact hp.elim
  | _ => exact hp.elim
theorem e_mod (ha : PE X a (tE X.K W ma)) (hb : PE X b (tE X.K W mb)) : PE X (.BinOp a .Mod b pos) (tE X.K W (binM modD ma mb)) := e_bin (OpR.or op_mod op_modN) v_mod ha hb
theorem v_pow : VR2 X.K (rI CPow fun i j => .int (i ^ j.toNat)) powD := fun w s x y d e Q E st rx ry hp => by
  unfold powD at hp
  cases rx with
  | int i =>
    cases ry with
    | int j =>
      dsimp only at hp
      split at hp
      · rename_i hc
        exact ⟨i, j, rfl, rfl, hc, hp.pure st (.int _)⟩
      · exact hp.elim
    | _ => exact hp.elim
  | _ => exact hp.elim
theorem e_pow (ha : PE X a (tE X.K W ma)) (hb : PE X b (tE X.K W mb)) : PE X (.BinOp a .Pow b pos) (tE X.K W (binM powD ma mb)) := e_bin op_pow v_pow ha hb
theorem e_neg (ha : PE X a (tE X.K W ma)) : PE X (.UnaryOp .USub a pos) (tE X.K W (unM negD ma)) := PE.imp (pe_un un_neg ha) fun t H Q h => by
  obtain ⟨r, s, w, rfl, env, st, hp⟩ := h
  exact hp.bind env st fun x d s1 w1 e1 st1 r1 hp1 => by
    unfold negD at hp1
    cases r1 with
    | int i => exact ⟨i, rfl, hp1.pure st1 (.int _)⟩
    | _ => exact hp1.elim
/-! ### order -/
theorem v_ord {g : Int → Int → Bool} {k : List Nat → List Nat → Bool} : VR2 X.K (fun x y H Q => (rI0 fun i j => .bl (g i j)) x y H Q ∨ ∃ i j, x = .str i ∧ y = .str j ∧ Q (.bl (k i.cps.toList j.cps.toList)) H) (ltD g k) := fun w s x y d e Q E st rx ry hp => by
  unfold ltD at hp
  cases rx with
  | int i =>
    cases ry with
    | int j => exact .inl ⟨i, j, rfl, rfl, hp.pure st (.bl _)⟩
    | _ => exact hp.elim
  | str i =>
    cases ry with
    | str j => exact .inr ⟨i, j, rfl, rfl, hp.pure st (.bl _)⟩
    | _ => exact hp.elim
  | _ => exact hp.elim
theorem o_lt : OpR X (compareOp .Lt) (fun x y H Q => (rI0 fun i j => .bl (decide (i < j))) x y H Q ∨ ∃ i j, x = .str i ∧ y = .str j ∧ Q (.bl (decide (i.cps.toList < j.cps.toList))) H) := OpR.or op_lt op_lt_str
theorem o_le : OpR X (compareOp .LtE) (fun x y H Q => (rI0 fun i j => .bl (decide (i ≤ j))) x y H Q ∨ ∃ i j, x = .str i ∧ y = .str j ∧ Q (.bl (!decide (j.cps.toList < i.cps.toList))) H) := OpR.or op_le op_le_str
theorem o_gt : OpR X (compareOp .Gt) (fun x y H Q => (rI0 fun i j => .bl (decide (j < i))) x y H Q ∨ ∃ i j, x = .str i ∧ y = .str j ∧ Q (.bl (decide (j.cps.toList < i.cps.toList))) H) := OpR.or op_gt op_gt_str
theorem o_ge : OpR X (compareOp .GtE) (fun x y H Q => (rI0 fun i j => .bl (decide (j ≤ i))) x y H Q ∨ ∃ i j, x = .str i ∧ y = .str j ∧ Q (.bl (!decide (i.cps.toList < j.cps.toList))) H) := OpR.or op_ge op_ge_str
theorem t_lt (ha : PE X a (tE X.K W ma)) (hb : PE X b (tE X.K W mb)) : PT X (.Compare a [.Lt] [b] pos) (tT X.K W (blM (binM ltI ma mb))) := t_cmp o_lt v_ord ha hb (nomark _)
theorem t_gt (ha : PE X a (tE X.K W ma)) (hb : PE X b (tE X.K W mb)) : PT X (.Compare a [.Gt] [b] pos) (tT X.K W (blM (binM gtI ma mb))) := t_cmp o_gt v_ord ha hb (nomark _)
theorem t_ge (ha : PE X a (tE X.K W ma)) (hb : PE X b (tE X.K W mb)) : PT X (.Compare a [.GtE] [b] pos) (tT X.K W (blM (binM geI ma mb))) := t_cmp o_ge v_ord ha hb (nomark _)
/-! ### None -/
end
/-! ### equality of plain data -/
mutual
def toPy : D → Option PyData
  | .non => some .none
  | .bl b => some (.bool b)
  | .int i => some (.int i)
  | .str z => some (.str z)
  | .tup l => (toPys l).map .tuple
  | .lst l => (toPys l).map .list
  | .rol l => (toPys l).map .list
  | .ty _ => none
  | .glo _ => none
  | .dct _ => none
  | .ins _ _ => none
  | .exn _ _ _ _ => none
  | .cel _ => none
  | .clo _ _ _ _ _ => none
  | .kot _ => none
  | .lam _ _ _ => none
  | .err _ => none
def toPys : List D → Option (List PyData)
  | [] => some []
  | d :: r => (toPy d).bind fun x => (toPys r).map fun y => x :: y
end
mutual
theorem Rep.dp {K : Frag} {w : Wd} : ∀ {d : D} {v : V} {p : PyData}, Rep K w v d → toPy d = some p → Dp K w.H v p
  | .non, _, _, h, e => by
    cases h
    rw [toPy] at e
    cases e
    exact .non
  | .bl b, _, _, h, e => by
    cases h
    rw [toPy] at e
    cases e
    exact .bl b
  | .int i, _, _, h, e => by
    cases h
    rw [toPy] at e
    cases e
    exact .int i
  | .str z, _, _, h, e => by
    cases h
    rw [toPy] at e
    cases e
    exact .str z
  | .tup l, _, _, h, e => by
    cases h with
    | tup h1 r =>
      rw [toPy] at e
      cases q : toPys l with
      | none => rw [q] at e; cases e
      | some ps =>
        rw [q] at e
        cases e
        exact .tup h1.sq (Reps.dp r q)
  | .lst l, _, _, h, e => by
    cases h with
    | lst z h1 r =>
      rw [toPy] at e
      cases q : toPys l with
      | none => rw [q] at e; cases e
      | some ps =>
        rw [q] at e
        cases e
        exact .lst (SqL.of h1) (Reps.dp r q)
  | .rol l, _, _, h, e => by
    cases h with
    | rol h1 r =>
      rw [toPy] at e
      cases q : toPys l with
      | none => rw [q] at e; cases e
      | some ps =>
        rw [q] at e
        cases e
        exact .lst h1.sq (Reps.dp r q)
  | .ty _, _, _, _, e => by rw [toPy] at e; cases e
  | .glo _, _, _, _, e => by rw [toPy] at e; cases e
  | .dct _, _, _, _, e => by rw [toPy] at e; cases e
  | .ins _ _, _, _, _, e => by rw [toPy] at e; cases e
  | .exn _ _ _ _, _, _, _, e => by rw [toPy] at e; cases e
  | .cel _, _, _, _, e => by rw [toPy] at e; cases e
  | .clo _ _ _ _ _, _, _, _, e => by rw [toPy] at e; cases e
  | .kot _, _, _, _, e => by rw [toPy] at e; cases e
  | .lam _ _ _, _, _, _, e => by rw [toPy] at e; cases e
  | .err _, _, _, _, e => by rw [toPy] at e; cases e
theorem Reps.dp {K : Frag} {w : Wd} : ∀ {ds : List D} {vs : List V} {ps : List PyData}, Reps K w vs ds → toPys ds = some ps → DpAll K w.H vs ps
  | [], _, _, h, e => by
    cases h
    rw [toPys] at e
    cases e
    exact .nil
  | d :: r, _, _, h, e => by
    cases h with
    | cons h1 h2 =>
      rw [toPys] at e
      cases q1 : toPy d with
      | none => rw [q1] at e; cases e
      | some p =>
        cases q2 : toPys r with
        | none => rw [q1, q2] at e; cases e
        | some ps =>
          rw [q1, q2] at e
          cases e
          exact .cons (Rep.dp h1 q1) (Reps.dp h2 q2)
end
def eqG0 (neg : Bool) (x y : D) (s : Sto) : Res D := match toPy x with
  | none => .bad
  | some p => match toPy y with
    | none => .bad
    | some q => if (SeqAt.shaped p && SeqAt.shaped q) = true then .ok (.bl (if neg then !PyData.eqv p q else PyData.eqv p q)) s else .bad
def eqG (neg : Bool) (x y : D) (s : Sto) : Res D := match x with
  | .int i => (match y with
    | .int j => .ok (.bl (if neg then !decide (i = j) else decide (i = j))) s
    | y => eqG0 neg (.int i) y s)
  | .str i => (match y with
    | .str j => .ok (.bl (if neg then !decide (i = j) else decide (i = j))) s
    | y => eqG0 neg (.str i) y s)
  | .cel n => (match s[n]? with
    | some (some (.lst l)) => eqG0 neg (.lst l) y s
    | _ => .bad)
  | x => eqG0 neg x y s
abbrev eqD : D → D → Sto → Res D := eqG false
abbrev neD : D → D → Sto → Res D := eqG true
section
variable {X : Cx} {W : WX} {a b c : Expr} {pos : Pos} {ma mb mc : DE}
theorem v_eqG0 {neg : Bool} : VR2 X.K (fun x y H Q => ∃ d e, Dp X.K H x d ∧ Dp X.K H y e ∧ SeqAt.shaped d = true ∧ SeqAt.shaped e = true ∧ Q (.bl (if neg then !PyData.eqv d e else PyData.eqv d e)) H) (eqG0 neg) := fun w s x y d e Q E st rx ry hp => by
  unfold eqG0 at hp
  cases e1 : toPy d with
  | none => rw [e1] at hp; exact hp.elim
  | some p =>
    rw [e1] at hp
    dsimp only at hp
    cases e2 : toPy e with
    | none => rw [e2] at hp; exact hp.elim
    | some q =>
      rw [e2] at hp
      dsimp only at hp
      split at hp
      · rename_i hs
        obtain ⟨h1, h2⟩ := Bool.and_eq_true_iff.mp hs
        exact ⟨p, q, Rep.dp rx e1, Rep.dp ry e2, h1, h2, hp.pure st (.bl _)⟩
      · exact hp.elim
theorem v_eqG {neg : Bool} : VR2 X.K (fun x y H Q => (scal x y = true ∧ Q (.bl (if neg then !decide (x = y) else decide (x = y))) H) ∨ ∃ d e, Dp X.K H x d ∧ Dp X.K H y e ∧ SeqAt.shaped d = true ∧ SeqAt.shaped e = true ∧ Q (.bl (if neg then !PyData.eqv d e else PyData.eqv d e)) H) (eqG neg) := fun w s x y d e Q E st rx ry hp => by
  have key : Post X.K (Rep X.K) w E Q (eqG0 neg d e s) → _ := fun h => v_eqG0 w s x y d e Q E st rx ry h
  unfold eqG at hp
  cases d with
  | int i =>
    cases e with
    | int j =>
      cases rx
      cases ry
      refine .inl ⟨rfl, ?_⟩
      rw [show decide (V.int i = V.int j) = decide (i = j) from decide_eq_decide.mpr ⟨fun z => by cases z; rfl, fun z => by rw [z]⟩]
      exact hp.pure st (.bl _)
    | _ => exact .inr (key hp)
  | str i =>
    cases e with
    | str j =>
      cases rx
      cases ry
      refine .inl ⟨rfl, ?_⟩
      rw [show decide (V.str i = V.str j) = decide (i = j) from decide_eq_decide.mpr ⟨fun z => by cases z; rfl, fun z => by rw [z]⟩]
      exact hp.pure st (.bl _)
    | _ => exact .inr (key hp)
  | cel n =>
    dsimp only at hp
    split at hp
    · rename_i _ l el
      cases rx with
      | @cel _ a0 hA =>
        obtain ⟨a1, h1, _, vs, hh, rs⟩ := st.at_ n _ el
        have ea : a1 = a0 := Option.some.inj (h1.symm.trans hA)
        subst ea
        unfold eqG0 at hp
        cases e1 : toPys l with
        | none => rw [toPy, e1] at hp; exact hp.elim
        | some ps =>
          rw [toPy, e1] at hp
          dsimp only [Option.map] at hp
          cases e2 : toPy e with
          | none => rw [e2] at hp; exact hp.elim
          | some q =>
            rw [e2] at hp
            dsimp only at hp
            split at hp
            · rename_i hs
              obtain ⟨k1, k2⟩ := Bool.and_eq_true_iff.mp hs
              exact .inr ⟨.list ps, q, .lst (SqL.of hh) (Reps.dp rs e1), Rep.dp ry e2, k1, k2, hp.pure st (.bl _)⟩
            · exact hp.elim
    · exact hp.elim
  | _ => exact .inr (key hp)
theorem t_ne (hu : X.A.units + 64 < cLine) (ha : PE X a (tE X.K W ma)) (hb : PE X b (tE X.K W mb)) : PT X (.Compare a [.NotEq] [b] pos) (tT X.K W (blM (binM neD ma mb))) := t_cmp (OpR.or op_ne (op_neD hu)) v_eqG ha hb (nomark _)
end
end Mp
set_option Elab.async false
set_option linter.all false
set_option maxRecDepth 100000
set_option maxHeartbeats 4000000
/-! Mp: displays, subscripts, slices, membership, built-in calls. -/
namespace Mp
open PySem PySem.Spec PyProof.Rows L2
/-! ### new lists: frozen, or a cell -/
def newL (c : Bool) (ds : List D) (s : Sto) : Res D := if c = true then .ok (.cel s.length) (s ++ [some (.lst ds)]) else .ok (.lst ds) s
theorem Post.newL {K : Frag} {w : Wd} {s : Sto} {E : XK} {Q : VK} {c : Bool} {ds : List D} {vs : List V} (hp : Post K (Rep K) w E Q (newL c ds s)) (st : StR K w s) (r : Reps K w vs ds) : ∀ p, w.H p = none → Q (.ref p) (upd w.H p (.lst vs)) := by
  cases c with
  | false => exact Post.frz (d := .lst ds) hp st fun p np => rep_newL st r np
  | true =>
    intro p np
    have e := Wd.cell_ext st (o := .lst vs) np
    have hp' : Post K (Rep K) w E Q (.ok (.cel s.length) (s ++ [some (.lst ds)])) := hp
    exact hp' (.ref p) (w.cell s.length p (.lst vs)) e (Wd.cell_st st np ⟨vs, upd_same, r.ext e⟩) (.cel (if_pos rfl))
def argM (f : List D → Sto → Res D) (a : DM (List D)) : DE := bindM a fun ds => fun _ s => f ds s
def nilA : DM (List D) := pureM []
def consA (a : DE) (b : DM (List D)) : DM (List D) := bindM a fun x => bindM b fun r => pureM (x :: r)
def lstD (c : Bool) (ds : List D) (s : Sto) : Res D := if ds.length ≤ sizeLine then newL c ds s else .bad
def tupD (ds : List D) (s : Sto) : Res D := if ds.length ≤ sizeLine then .ok (.tup ds) s else .bad
def getK {T U : Type} [DecidableEq T] (l : List (T × U)) (k : T) : Option U := (l.find? fun p => decide (p.1 = k)).map (·.2)
def keyD : D → Option Key
  | .int i => some (.inl i)
  | .str z => some (.inr z)
  | _ => none
def okO {T : Type} (s : Sto) : Option T → Res T
  | some d => .ok d s
  | none => .bad
def idxD (x y : D) (s : Sto) : Res D := match dctOf s x with
  | some m => (match keyD y with
    | some k => okO s (getK m k)
    | none => .bad)
  | none => (match y with
    | .int i => (match x with
      | .str z => if z.length ≤ sizeLine then okO s ((atI z.cps.toList i).map fun c => .str ⟨#[c]⟩) else .bad
      | .tup l => okO s (atI l i)
      | x => (match lstOf s x with
        | some l => okO s (atI l i)
        | none => .bad))
    | _ => .bad)
def optM (a : DE) : DM (Option Int) := bindM a fun x => fun _ s => match x with
  | .int i => .ok (some i) s
  | _ => .bad
def cutD (xs : List D) (lo hi : Option Int) : List D := (xs.drop (HT.sIx xs.length 0 lo)).take (HT.sIx xs.length xs.length hi - HT.sIx xs.length 0 lo)
def sliD (c : Bool) (x : D) (lo hi : Option Int) (s : Sto) : Res D := match x with
  | .str z => if z.length ≤ sizeLine then .ok (.str (cutS z lo hi)) s else .bad
  | .tup l => .ok (.tup (cutD l lo hi)) s
  | x => (match lstOf s x with
    | some l => newL c (cutD l lo hi) s
    | none => .bad)
def sliM (c : Bool) (a : DE) (l h : DM (Option Int)) : DE := bindM a fun x => bindM l fun lo => bindM h fun hi => fun _ s => sliD c x lo hi s
def seqOf (s : Sto) : D → Option (List D)
  | .tup l => some l
  | x => lstOf s x
/-! ### soundness -/
section
variable {K : Frag} {w : Wd}
theorem getK_ok {T : Type} [DecidableEq T] {k : T} : ∀ {l : List (T × V)} {m : List (T × D)}, KVR K w l m → (match getK m k with | some d => ∃ v, valV l k = some v ∧ Rep K w v d | none => valV l k = none)
  | _, _, .nil => rfl
  | _, _, .cons (k := j) h r => by
    have ih := getK_ok (k := k) r
    by_cases e : j = k
    · rw [valV_pos e]
      simp only [getK, List.find?_cons, e, decide_true, Option.map_some]
      exact ⟨_, rfl, h⟩
    · rw [valV_neg e]
      simp only [getK, List.find?_cons, e, decide_false]
      exact ih
theorem cutD_ok {xs : List V} {ds : List D} (r : Reps K w xs ds) (lo hi : Option Int) : Reps K w (cutV xs lo hi) (cutD ds lo hi) := by
  unfold cutV cutD
  rw [r.length]
  exact (r.drop _).take _
theorem atI_ok {xs : List V} {ds : List D} (r : Reps K w xs ds) {i : Int} {d : D} (h : atI ds i = some d) : ∃ v, atI xs i = some v ∧ Rep K w v d := by
  unfold atI at h ⊢
  rw [r.length]
  cases e : ixN ds.length i with
  | none => rw [e] at h; cases h
  | some j =>
    rw [e] at h
    exact r.get h
theorem seqOf_ok {s : Sto} {x : V} {d : D} {l : List D} (st : StR K w s) (r : Rep K w x d) (h : seqOf s d = some l) : ∃ p vs, x = .ref p ∧ (SqL K w.H p vs ∨ SqT K w.H p vs) ∧ Reps K w vs l := by
  have key : lstOf s d = some l → ∃ p vs, x = .ref p ∧ (SqL K w.H p vs ∨ SqT K w.H p vs) ∧ Reps K w vs l := fun h => by
    obtain ⟨p, vs, h1, h2, h3⟩ := lstOf_ok st r h
    exact ⟨p, vs, h1, .inl h2, h3⟩
  cases d with
  | tup l1 =>
    cases h
    cases r with
    | tup hh rs => exact ⟨_, _, rfl, .inr hh.sq, rs⟩
  | _ => exact key h
theorem keyD_ok {y : V} {d : D} {k : Key} (r : Rep K w y d) (h : keyD d = some k) : y = kV k := by
  cases r <;> first | (cases h; done) | (cases h; rfl)
end
section
variable {X : Cx} {W : WX} {a b c : Expr} {es : List Expr} {pos : Pos} {ma mb mc : DE} {mr : DM (List D)}
theorem a_nil : PA X [] (tA X.K W nilA) := PA.imp pa_nil fun t H Q h => by
  obtain ⟨r, s, w, rfl, env, st, hp⟩ := h
  exact hp.pure st .nil
theorem a_cons (ha : PE X a (tE X.K W ma)) (hr : PA X es (tA X.K W mr)) (hs : starEach (a :: es) X.env = (false, eval a X.env) :: starEach es X.env := by rfl) : PA X (a :: es) (tA X.K W (consA ma mr)) := PA.imp (pa_cons ha hr hs) fun t H Q h => by
  obtain ⟨r, s, w, rfl, env, st, hp⟩ := h
  exact hp.bind env st fun x d s1 w1 e1 st1 r1 hp1 => hp1.bind (env.ext e1) st1 fun y d2 s2 w2 e2 st2 r2 hp2 => hp2.pure st2 (.cons (r1.ext e2) r2)
theorem e_tup {x1 : Nat} (hr : PA X es (tA X.K W mr)) : PE X (.Tuple es x1 pos) (tE X.K W (argM tupD mr)) := PE.imp (pe_tup hr) fun t H Q h => by
  obtain ⟨r, s, w, rfl, env, st, hp⟩ := h
  exact hp.bind env st fun x d s1 w1 e1 st1 r1 hp1 => by
    unfold tupD at hp1
    split at hp1
    · rename_i hl
      exact ⟨by rw [r1.length]; exact hl, hp1.frz st1 fun p np => rep_newT st1 r1 np⟩
    · exact hp1.elim
theorem e_lst (k : Bool) (hr : PA X es (tA X.K W mr)) : PE X (.List es pos) (tE X.K W (argM (lstD k) mr)) := PE.imp (pe_lst hr) fun t H Q h => by
  obtain ⟨r, s, w, rfl, env, st, hp⟩ := h
  exact hp.bind env st fun x d s1 w1 e1 st1 r1 hp1 => by
    unfold lstD at hp1
    split at hp1
    · rename_i hl
      exact ⟨by rw [r1.length]; exact hl, hp1.newL st1 r1⟩
    · exact hp1.elim
theorem ix_dict (hu : X.A.units + 1 < cLine) : IxR X (fun x y H Q => ∃ a v, x = .ref a ∧ DGet H a y (some v) ∧ Q v H) := fun value slice pins s t H x y v u Q I rx ry h hs => by
  obtain ⟨p, v', rfl, g, q⟩ := h
  obtain rfl : v = Value.ref p := rx
  exact tail_any (dict_typeIs I g) PySem.F.slot_dict_getitem.lookup (d_getItem hu I g ry fun z s3 I3 rz => ⟨v', H, I3, rz, q⟩) hs
theorem v_idx : VR2 X.K (fun x y H Q => rIx X.K x y H Q ∨ ∃ a v, x = .ref a ∧ DGet H a y (some v) ∧ Q v H) idxD := fun w s x y d e Q E st rx ry hp => by
  unfold idxD at hp
  split at hp
  · rename_i m hm
    obtain ⟨p, l, rfl, hd, kv⟩ := dctOf_ok st rx hm
    split at hp
    · rename_i k hk
      have ey := keyD_ok ry hk
      have g := getK_ok (k := k) kv
      cases eg : getK m k with
      | none => rw [eg] at hp; exact hp.elim
      | some d3 =>
        rw [eg] at g hp
        obtain ⟨v, hv, rv⟩ := g
        exact .inr ⟨p, v, rfl, .inl ⟨l, k, hd, ey, hv.symm⟩, hp.pure st rv⟩
    · exact hp.elim
  · rename_i nd
    cases ry with
    | int i =>
      dsimp only at hp
      cases d with
      | str z =>
        cases rx
        dsimp only at hp
        split at hp
        · rename_i hl
          cases ec : atI z.cps.toList i with
          | none => rw [ec] at hp; exact hp.elim
          | some c0 =>
            rw [ec] at hp
            exact .inl (.inr (.inr ⟨z, i, c0, rfl, rfl, hl, ec, hp.pure st (.str _)⟩))
        · exact hp.elim
      | tup l =>
        cases rx with
        | tup hh rs =>
          dsimp only at hp
          cases ec : atI l i with
          | none => rw [ec] at hp; exact hp.elim
          | some d3 =>
            rw [ec] at hp
            obtain ⟨v, hv, rv⟩ := atI_ok rs ec
            exact .inl (.inr (.inl ⟨_, _, i, v, rfl, rfl, hh.sq, hv, hp.pure st rv⟩))
      | _ =>
        dsimp only at hp
        split at hp
        · rename_i l el
          obtain ⟨p, vs, rfl, hh, rs⟩ := lstOf_ok st rx el
          cases ec : atI l i with
          | none => rw [ec] at hp; exact hp.elim
          | some d3 =>
            rw [ec] at hp
            obtain ⟨v, hv, rv⟩ := atI_ok rs ec
            exact .inl (.inl ⟨_, _, i, v, rfl, rfl, hh, hv, hp.pure st rv⟩)
        · exact hp.elim
    | _ => exact hp.elim
theorem e_idx (hu : X.A.units + 1 < cLine) (ha : PE X a (tE X.K W ma)) (hb : PE X b (tE X.K W mb)) (hs : PlainIx b := by exact fun _ _ => rfl) : PE X (.Subscript a b pos) (tE X.K W (binM idxD ma mb)) :=
  PE.imp (pe_ix (IxR.or ix_seq (ix_dict hu)) ha hb hs) fun t H Q h => by
    obtain ⟨r, s, w, rfl, env, st, hp⟩ := h
    exact hp.bind env st fun x d s1 w1 e1 st1 r1 hp1 => hp1.bind (env.ext e1) st1 fun y d2 s2 w2 e2 st2 r2 hp2 => v_idx w2 s2 x y d d2 Q _ st2 (r1.ext e2) r2 hp2
/-! ### slices -/
abbrev tO (K : Frag) (W : WX) (m : DM (Option Int)) : TO := tM K (fun _ (b c : Option Int) => b = c) W m
theorem PO.imp {e : Option Expr} {t t' : TO} (h : PO X e t) (i : ∀ σ H Q, t' σ H Q → t σ H Q) : PO X e t' := ⟨fun pins s σ H Q I q => h.run pins s σ H Q I (i _ _ _ q)⟩
theorem o_none : PO X none (tO X.K W (pureM none)) := PO.imp po_none fun t H Q h => by
  obtain ⟨r, s, w, rfl, env, st, hp⟩ := h
  exact hp.pure st rfl
theorem o_some (ha : PE X a (tE X.K W ma)) : PO X (some a) (tO X.K W (optM ma)) := PO.imp (po_some ha) fun t H Q h => by
  obtain ⟨r, s, w, rfl, env, st, hp⟩ := h
  exact hp.bind env st fun x d s1 w1 e1 st1 r1 hp1 => by
    cases r1 with
    | int i => exact ⟨i, rfl, hp1.pure st1 rfl⟩
    | _ => exact hp1.elim
theorem SlR.or {r r' : V → Option Int → Option Int → Hp → VK → Prop} (h : SlR X r) (h' : SlR X r') : SlR X (fun x l u H Q => r x l u H Q ∨ r' x l u H Q) := by
  unfold SlR at h h' ⊢
  intros
  rename_i q
  rcases q with q | q
  · apply h <;> assumption
  · apply h' <;> assumption
theorem e_sli {lo hi : Option Expr} {p2 : Pos} {ml mh : DM (Option Int)} (k : Bool) (ha : PE X a (tE X.K W ma)) (hl : PO X lo (tO X.K W ml)) (hh : PO X hi (tO X.K W mh)) : PE X (.Subscript a (.Slice lo hi none p2) pos) (tE X.K W (sliM k ma ml mh)) :=
  PE.imp (pe_slice (SlR.or sl_list (SlR.or sl_tupA sl_str)) ha hl hh) fun t H Q h => by
    obtain ⟨r, s, w, rfl, env, st, hp⟩ := h
    exact hp.bind env st fun x d s1 w1 e1 st1 r1 hp1 => hp1.bind (env.ext e1) st1 fun lo1 lo2 s2 w2 e2 st2 r2 hp2 => hp2.bind ((env.ext e1).ext e2) st2 fun hi1 hi2 s3 w3 e3 st3 r3 hp3 => by
      subst r2 r3
      have rx := (r1.ext e2).ext e3
      unfold sliD at hp3
      cases d with
      | str z =>
        cases rx
        dsimp only at hp3
        split at hp3
        · rename_i hl
          exact .inr (.inr ⟨z, rfl, hl, hp3.pure st3 (.str _)⟩)
        · exact hp3.elim
      | tup l =>
        cases rx with
        | tup hq rs =>
          refine .inr (.inl ⟨_, _, rfl, hq.sq, fun e => ?_, fun e => ?_⟩)
          · refine hp3.pure st3 (.tup hq ?_)
            have q := cutD_ok rs lo1 hi1
            unfold cutV at q
            rw [e.1, e.2, Nat.sub_zero, List.drop_zero, List.take_length] at q
            exact q
          · exact hp3.frz st3 fun p np => rep_newT st3 (cutD_ok rs lo1 hi1) np
      | _ =>
        dsimp only at hp3
        split at hp3
        · rename_i l el
          obtain ⟨p, vs, rfl, hq, rs⟩ := lstOf_ok st3 rx el
          exact .inl ⟨p, vs, rfl, hq, hp3.newL st3 (cutD_ok rs lo1 hi1)⟩
        · exact hp3.elim
/-! ### in, not in -/
end
end Mp
set_option Elab.async false
set_option linter.all false
set_option maxRecDepth 100000
set_option maxHeartbeats 4000000
/-! Mp: statements, loops. -/
namespace Mp
open PySem PySem.Spec PyProof.Rows L2
/-! ### on data -/
def seqS (a b : DS) : DS := fun r s => match a r s with
  | .nx r' s' => b r' s'
  | f => f
def skipS : DS := fun r s => .nx r s
def brkS : DS := fun r s => .bk r s
def cntS : DS := fun r s => .ct r s
def setS (i : Nat) (m : DE) : DS := thenS m fun d => fun r s => .nx (r.set i (some d)) s
def exprS (m : DE) : DS := thenS m fun _ => fun r s => .nx r s
def retS (m : DE) : DS := thenS m fun d => fun _ s => .rt d s
def retN : DS := fun _ s => .rt .non s
def ifS (c : DM Bool) (a b : DS) : DS := thenS c fun k => if k = true then a else b
def nameG (i : Nat) : DG := fun d r s => some (r.set i (some d), s)
abbrev DGs := List D → En → Sto → Option (En × Sto)
def nilG : DGs := fun ds r s => match ds with
  | [] => some (r, s)
  | _ => none
def consG (g : DG) (h : DGs) : DGs := fun ds r s => match ds with
  | d :: l => (g d r s).bind fun p => h l p.1 p.2
  | [] => none
def tupG (n : Nat) (h : DGs) : DG := fun d r s => match seqOf s d with
  | some l => if l.length = n then h l r s else none
  | none => none
def asgS (m : DE) (g : DG) : DS := thenS m fun d => fun r s => match g d r s with
  | some p => .nx p.1 p.2
  | none => .bad
def par2S (i j : Nat) (m : DM (List D)) : DS := thenS m fun ds => fun r s => match ds with
  | [a, b] => .nx ((r.set i (some a)).set j (some b)) s
  | _ => .bad
def par3S (i j l : Nat) (m : DM (List D)) : DS := thenS m fun ds => fun r s => match ds with
  | [a, b, c] => .nx (((r.set i (some a)).set j (some b)).set l (some c)) s
  | _ => .bad
def augS (i : Nat) (f : D → D → Sto → Res D) (m : DE) : DS := thenS (binM f (vM i) m) fun d => fun r s => .nx (r.set i (some d)) s
/-- what a loop walks: its items; a cell that must stay as it is meanwhile -/
structure Src where
  its : List D
  cel : Option Nat
def SrcOk (c : Src) (s : Sto) : Prop := match c.cel with
  | none => True
  | some n => s[n]? = some (some (.lst c.its))
open Classical in
noncomputable def forF (c : Src) (g : DG) (b : DS) : List D → DS
  | [] => fun r s => if SrcOk c s then .nx r s else .bad
  | d :: l => fun r s => if SrcOk c s then (match g d r s with
    | none => .bad
    | some p => (match b p.1 p.2 with
      | .nx r' s' => forF c g b l r' s'
      | .ct r' s' => forF c g b l r' s'
      | .bk r' s' => .nx r' s'
      | .rt d s' => .rt d s'
      | .exc C fs r' s' => .exc C fs r' s'
      | .bad => .bad)) else .bad
noncomputable def forS (m : DM Src) (g : DG) (b : DS) : DS := thenS m fun c => forF c g b c.its
/-! ### soundness -/
section
variable {X : Cx} {W : WX} {a b c : Expr} {es : List Expr} {pos : Pos} {ma mb mc : DE} {mr : DM (List D)} {st st2 : Stmt} {rest : List Stmt} {m1 m2 : DS}
theorem s_nil : PSs X [] (tS X.K W skipS) := PSs.imp pss_nil fun E t H h => by
  obtain ⟨r, s, w, rfl, env, st, hp⟩ := h
  exact hp t w (Ext.refl w) env st
theorem seq_imp {E : Ends} {t : L2.St} {H : Hp} {K : Frag} (h : tS K W (seqS m1 m2) E t H) : tSeq (tS K W m1) (tS K W m2) E t H := by
  obtain ⟨r, s, w, rfl, env, st, hp⟩ := h
  refine ⟨r, s, w, rfl, env, st, ?_⟩
  unfold seqS at hp
  cases e : m1 r s with
  | nx r' s' =>
    rw [e] at hp
    exact fun t' w' e' env' st' => ⟨r', s', w', rfl, env', st', hp.ext e'⟩
  | rt d s' => rw [e] at hp; exact hp
  | bk r' s' => rw [e] at hp; exact hp
  | ct r' s' => rw [e] at hp; exact hp
  | exc C fs r' s' => rw [e] at hp; exact hp
  | bad => rw [e] at hp; exact hp
theorem s_cons (h1 : PS X st (tS X.K W m1)) (h2 : PSs X rest (tS X.K W m2)) : PSs X (st :: rest) (tS X.K W (seqS m1 m2)) := PSs.imp (pss_cons h1 h2) fun E t H h => seq_imp h
theorem s_one (h1 : PS X st (tS X.K W m1)) : PSs X [st] (tS X.K W m1) := pss_one h1
theorem s_expr (he : PE X a (tE X.K W ma)) (hs : swapsWith a none pos.line X.env = pure false := by rfl) : PS X (.Expr a pos) (tS X.K W (exprS ma)) := PS.imp (ps_expr he hs) fun E t H h => by
  obtain ⟨r, s, w, rfl, env, st, hp⟩ := h
  exact hp.bind env st fun x d s1 w1 e1 st1 r1 hp1 => hp1 t w1 (Ext.refl w1) (env.ext e1) st1
theorem s_ret (he : PE X a (tE X.K W ma)) : PS X (.Return (some a) pos) (tS X.K W (retS ma)) := PS.imp (ps_ret he) fun E t H h => by
  obtain ⟨r, s, w, rfl, env, st, hp⟩ := h
  exact hp.bind env st fun x d s1 w1 e1 st1 r1 hp1 => hp1 x w1 (Ext.refl w1) st1 r1
theorem s_if {mt : DM Bool} {s1 s2 : List Stmt} (hc : PT X c (tT X.K W mt)) (ha : PSs X s1 (tS X.K W m1)) (hb : PSs X s2 (tS X.K W m2)) : PS X (.If c s1 s2 pos) (tS X.K W (ifS mt m1 m2)) := PS.imp (ps_if hc ha hb) fun E t H h => by
  obtain ⟨r, s, w, rfl, env, st, hp⟩ := h
  exact hp.bind env st fun x d s1 w1 e1 st1 r1 hp1 => by
    subst r1
    cases x with
    | true => exact ⟨r, s1, w1, rfl, env.ext e1, st1, hp1⟩
    | false => exact ⟨r, s1, w1, rfl, env.ext e1, st1, hp1⟩
theorem s_set {i : Nat} {x : Str} {pos' : Pos} (hN : X.N.Nodup) (hi : X.N[i]? = some x) (hx : Loc X.env.scope x) (he : PE X a (tE X.K W ma)) (hs : swapsWith a (some (.Name x pos')) pos.line X.env = pure false := by rfl)
    (hf : X.fn x = true ∨ X.env.scope.names.lookup x = some .local := by first | exact .inl rfl | exact .inr rfl | assumption) : PS X (.Assign [.Name x pos'] a pos) (tS X.K W (setS i ma)) := PS.imp (ps_set hN hi hx he hs hf) fun E t H h => by
  obtain ⟨r, s, w, rfl, env, st, hp⟩ := h
  exact hp.bind env st fun x d s1 w1 e1 st1 r1 hp1 => hp1 _ w1 (Ext.refl w1) ((env.ext e1).set r1 i) st1
/-! targets -/
def tG (K : Frag) (g : DG) : TG := fun v t H Q => ∃ r s w d, w.H = H ∧ EnvR K w r t ∧ StR K w s ∧ Rep K w v d ∧ (match g d r s with
  | some p => ∀ t' w', Ext w w' → EnvR K w' p.1 t' → StR K w' p.2 → Q t' w'.H
  | none => False)
def tGs (K : Frag) (g : DGs) : TGs := fun vs t H Q => ∃ r s w ds, w.H = H ∧ EnvR K w r t ∧ StR K w s ∧ Reps K w vs ds ∧ (match g ds r s with
  | some p => ∀ t' w', Ext w w' → EnvR K w' p.1 t' → StR K w' p.2 → Q t' w'.H
  | none => False)
theorem PG.imp {tg : Expr} {t t' : TG} (h : PG X tg t) (i : ∀ v σ H Q, t' v σ H Q → t v σ H Q) : PG X tg t' := ⟨fun pins s σ H v u Q I r q => h.run pins s σ H v u Q I r (i _ _ _ _ q)⟩
theorem PGs.imp {tg : List Expr} {t t' : TGs} (h : PGs X tg t) (i : ∀ v σ H Q, t' v σ H Q → t v σ H Q) : PGs X tg t' := ⟨fun pins s σ H v u Q I r q => h.run pins s σ H v u Q I r (i _ _ _ _ q)⟩
theorem PG.or {tg : Expr} {t t' : TG} (h : PG X tg t) (h' : PG X tg t') : PG X tg (fun v σ H Q => t v σ H Q ∨ t' v σ H Q) := ⟨fun pins s σ H v u Q I r q => q.elim (h.run pins s σ H v u Q I r) (h'.run pins s σ H v u Q I r)⟩
theorem g_name {i : Nat} {x : Str} (hN : X.N.Nodup) (hi : X.N[i]? = some x) (hx : Loc X.env.scope x) (hf : X.fn x = true ∨ X.env.scope.names.lookup x = some .local := by first | exact .inl rfl | exact .inr rfl | assumption) : PG X (.Name x pos) (tG X.K (nameG i)) :=
  PG.imp (pg_name hN hi hx hf) fun v t H Q h => by
    obtain ⟨r, s, w, d, rfl, env, st, rv, hp⟩ := h
    exact hp _ w (Ext.refl w) (env.set rv i) st
theorem gs_nil : PGs X [] (tGs X.K nilG) := PGs.imp pgs_nil fun v t H Q h => by
  obtain ⟨r, s, w, ds, rfl, env, st, rv, hp⟩ := h
  cases rv with
  | nil => exact ⟨rfl, hp _ w (Ext.refl w) env st⟩
  | cons _ _ => exact hp.elim
theorem gs_cons {g : DG} {g2 : DGs} (h1 : PG X a (tG X.K g)) (h2 : PGs X es (tGs X.K g2)) (hs : (assignEach (a :: es) X.env).map (·.2) = assign a X.env :: (assignEach es X.env).map (·.2) := by rfl) : PGs X (a :: es) (tGs X.K (consG g g2)) :=
  PGs.imp (pgs_cons h1 h2 hs) fun v t H Q h => by
    obtain ⟨r, s, w, ds, rfl, env, st, rv, hp⟩ := h
    cases rv with
    | nil => exact hp.elim
    | @cons v d vs ds r1 r2 =>
      refine ⟨v, vs, rfl, r, s, w, d, rfl, env, st, r1, ?_⟩
      unfold consG at hp
      dsimp only at hp
      cases e : g d r s with
      | none => rw [e] at hp; exact hp.elim
      | some p =>
        rw [e] at hp
        refine fun t' w' e' env' st' => ⟨p.1, p.2, w', ds, rfl, env', st', r2.ext e', ?_⟩
        have hp' : (match g2 ds p.1 p.2 with
          | some p => ∀ t' w', Ext w w' → EnvR X.K w' p.1 t' → StR X.K w' p.2 → Q t' w'.H
          | none => False) := hp
        cases e2 : g2 ds p.1 p.2 with
        | none => rw [e2] at hp'; exact hp'.elim
        | some p2 =>
          rw [e2] at hp'
          exact fun t2 w2 x2 => hp' t2 w2 (e'.trans x2)
theorem g_tup {k n : Nat} {g : DGs} (hc : X.calm = true) (h : PGs X es (tGs X.K g)) (hn : (assignEach es X.env).length = n := by rfl) (hst : (assignEach es X.env).findIdx? (·.1) = none := by rfl) : PG X (.Tuple es k pos) (tG X.K (tupG n g)) :=
  PG.imp (PG.or (pg_tup hc h hn hst) (pg_lst hc h hn hst)) fun v t H Q h => by
    obtain ⟨r, s, w, d, rfl, env, st, rv, hp⟩ := h
    unfold tupG at hp
    cases e : seqOf s d with
    | none => rw [e] at hp; exact hp.elim
    | some l =>
      rw [e] at hp
      dsimp only at hp
      obtain ⟨p, vs, rfl, hq, rs⟩ := seqOf_ok st rv e
      by_cases hl : l.length = n
      · rw [if_pos hl] at hp
        have hin : tGs X.K g vs t w.H Q := ⟨r, s, w, l, rfl, env, st, rs, hp⟩
        rcases hq with hq | hq
        · exact .inr ⟨p, vs, rfl, hq, by rw [rs.length, hl], hin⟩
        · exact .inl ⟨p, vs, rfl, hq, by rw [rs.length, hl], hin⟩
      · rw [if_neg hl] at hp
        exact hp.elim
/-! while -/
/-! for -/
/-- an iterator that yields these -/
structure ItR (K : Frag) (w0 : Wd) (J : It) (c : Src) : Prop where
  go : ∀ (i : Nat) (d : D) (w : Wd) (s : Sto), c.its[i]? = some d → Ext w0 w → StR K w s → SrcOk c s → J.go i w.H ∧ ∀ x H', J.yld i w.H x H' → ∃ w', Ext w w' ∧ w'.H = H' ∧ StR K w' s ∧ Rep K w' x d
  stop : ∀ (w : Wd) (s : Sto), Ext w0 w → StR K w s → SrcOk c s → J.stop c.its.length w.H
abbrev tI (K : Frag) (W : WX) (m : DM Src) : TI := tM K (ItR K) W m
theorem PI.imp {tg iter : Expr} {t t' : TI} (h : PI X tg iter t) (i : ∀ σ H Q, t' σ H Q → t σ H Q) : PI X tg iter t' := ⟨fun pins s σ H Q I q => h.run pins s σ H Q I (i _ _ _ q)⟩
theorem PI.or {tg iter : Expr} {t t' : TI} (h : PI X tg iter t) (h' : PI X tg iter t') : PI X tg iter (fun σ H Q => t σ H Q ∨ t' σ H Q) := ⟨fun pins s σ H Q I q => q.elim (h.run pins s σ H Q I) (h'.run pins s σ H Q I)⟩
theorem s_for {tg iter : Expr} {body : List Stmt} {mi : DM Src} {g : DG} {mb : DS} (hp : PassesOwn (model X.prog X.w) X.A X.env X.xe) (hc : X.calm = true) (hi : PI X tg iter (tI X.K W mi)) (hg : PG X tg (tG X.K g)) (hb : PSs X body (tS X.K W mb))
    (hs : ∀ x, foldedSetIterable iter X.env x = pure x := by intro _; rfl) : PS X (.For tg iter body [] pos) (tS X.K W (forS mi g mb)) := PS.imp (ps_for hp hc hi hg hb hs) fun E t H h => by
  obtain ⟨r, s, w, rfl, env, st, hp⟩ := h
  exact hp.bind env st fun J sc s1 w1 e1 st1 r1 hp1 => by
    obtain ⟨its, cl⟩ := sc
    refine ⟨fun i m t H => i + m = its.length ∧ ∃ r s w, w.H = H ∧ Ext w1 w ∧ EnvR X.K w r t ∧ StR X.K w s ∧ PostS X.K w W E (forF ⟨its, cl⟩ g mb (its.drop i) r s), ⟨its.length, Nat.zero_add _, r, s1, w1, rfl, Ext.refl w1, env.ext e1, st1, hp1⟩, fun i m t H h => ?_⟩
    obtain ⟨him, r, s, w, rfl, ex, env, st, hp⟩ := h
    cases m with
    | zero =>
      have hi : i = its.length := by omega
      subst hi
      rw [List.drop_length] at hp
      unfold forF at hp
      by_cases ck : SrcOk ⟨its, cl⟩ s
      · rw [if_pos ck] at hp
        exact .inl ⟨r1.stop w s ex st ck, hp t w (Ext.refl w) env st⟩
      · rw [if_neg ck] at hp
        exact hp.elim
    | succ m =>
      have hlt : i < its.length := by omega
      have hd : its[i]? = some its[i] := List.getElem?_eq_getElem hlt
      rw [List.drop_eq_getElem_cons hlt] at hp
      unfold forF at hp
      by_cases ck : SrcOk ⟨its, cl⟩ s
      rotate_left
      · rw [if_neg ck] at hp
        exact hp.elim
      rw [if_pos ck] at hp
      obtain ⟨hgo, hy⟩ := r1.go i _ w s hd ex st ck
      refine .inr ⟨hgo, fun t' H' => i + 1 + m = its.length ∧ ∃ r s w, w.H = H' ∧ Ext w1 w ∧ EnvR X.K w r t' ∧ StR X.K w s ∧ PostS X.K w W E (forF ⟨its, cl⟩ g mb (its.drop (i + 1)) r s), fun t' H' q => ⟨m, Nat.lt_succ_self m, q⟩, fun x H' yl => ?_⟩
      obtain ⟨w2, x2, rfl, st2, rx⟩ := hy x H' yl
      refine ⟨r, s, w2, its[i], rfl, env.ext x2, st2, rx, ?_⟩
      cases eg : g its[i] r s with
      | none => rw [eg] at hp; exact hp.elim
      | some p =>
        rw [eg] at hp
        have hp3 := hp.ext x2
        refine fun t3 w3 x3 env3 st3 => ⟨p.1, p.2, w3, rfl, env3, st3, ?_⟩
        have hp4 := hp3.ext x3
        dsimp only at hp4
        cases e : mb p.1 p.2 with
        | nx r' s' =>
          rw [e] at hp4
          exact fun t' w' x' env' st' => ⟨by omega, r', s', w', rfl, ((ex.trans x2).trans x3).trans x', env', st', hp4.ext x'⟩
        | ct r' s' =>
          rw [e] at hp4
          exact fun t' w' x' env' st' => ⟨by omega, r', s', w', rfl, ((ex.trans x2).trans x3).trans x', env', st', hp4.ext x'⟩
        | bk r' s' => rw [e] at hp4; exact hp4
        | rt d s' => rw [e] at hp4; exact hp4
        | exc C fs r' s' => rw [e] at hp4; exact hp4
        | bad => rw [e] at hp4; exact hp4
end
end Mp
set_option Elab.async false
set_option linter.all false
set_option maxRecDepth 100000
set_option maxHeartbeats 4000000
/-! Mp: what is walked; comprehensions. -/
namespace Mp
open PySem PySem.Spec PyProof.Rows L2
def chars (z : Str) : List D := z.cps.toList.map fun c => .str ⟨#[c]⟩
def keyV : Key → D
  | .inl i => .int i
  | .inr z => .str z
/-- what a plain value yields -/
def srcD (s : Sto) : D → Option Src
  | .tup l => some ⟨l, none⟩
  | .kot l => some ⟨l, none⟩
  | .lst l => some ⟨l, none⟩
  | .rol l => some ⟨l, none⟩
  | .str z => some ⟨chars z, none⟩
  | .dct m => some ⟨m.map fun p => keyV p.1, none⟩
  | .cel n => (match s[n]? with
    | some (some (.lst l)) => some ⟨l, some n⟩
    | _ => none)
  | _ => none
/-- a dict that is walked is locked from now on -/
def lockD (s : Sto) : D → Option (List (Key × D) × Sto)
  | .dct m => some (m, s)
  | .cel n => (match s[n]? with
    | some (some (.dct m)) => some (m, s.set n (some (.rod m)))
    | some (some (.rod m)) => some (m, s)
    | _ => none)
  | _ => none
def srcM (s : Sto) (x : D) : Res Src := match lockD s x with
  | some p => .ok ⟨p.1.map fun p => keyV p.1, none⟩ p.2
  | none => okO s (srcD s x)
def seqI (a : DE) : DM Src := bindM a fun x => fun _ s => srcM s x
def intL (lo : Int) (n : Nat) : List D := (List.range n).map fun k => .int (lo + (k : Nat))
@[irreducible] def rangeD1 (ds : List D) (s : Sto) : Res Src := match ds with
  | [.int j] => if -(2 ^ 62) ≤ j ∧ j < 2 ^ 62 then .ok ⟨intL 0 j.toNat, none⟩ s else .bad
  | _ => .bad
def argI (f : List D → Sto → Res Src) (m : DM (List D)) : DM Src := bindM m fun ds => fun _ s => f ds s
def frzL : D → Option (Bool × List D)
  | .tup l => some (false, l)
  | .lst l => some (true, l)
  | .rol l => some (true, l)
  | _ => none
def zipD (ds : List D) (s : Sto) : Res Src := match ds with
  | [x, y] => (match frzL x, frzL y with
    | some (k, l), some (j, m) => if k = j then .ok ⟨(l.zip m).map fun p => .tup [p.1, p.2], none⟩ s else .bad
    | _, _ => .bad)
  | _ => .bad
/-! ### soundness -/
section
variable {X : Cx} {tg : Expr} {pins : List (Addr × Obj)} {t : L2.St} {H : Hp} {s1 : Shared} {R : It → Hp → Prop} {E : Value → Shared → Prop}
theorem it_list {p : Addr} {xs : List V} (I : Inv X pins t H s1) (hq : SqL X.K H p xs) (q : R (Itl X.K p) H) : wpAny (model X.prog X.w) X.A (pyIter (.ref p)) (PIE X pins t tg R) E s1 := by
  obtain ⟨vs, _, pl, _⟩ := I.list hq
  refine wpAny_pyIter_list pl.isList ⟨s1.heap.objs.size, [s1.heap.objs.size], _, _, H, rfl, I.kept (t' := s1.toks) fun _ _ z => Heap.get?_push_of_some _ z, turn_list p _, ⟨_, Heap.get?_push_size _ rfl, rfl, rfl⟩, fun z hz => ?_, q⟩
  cases List.mem_singleton.mp hz
  exact I.fpOk (Nat.le_refl _) (I.hok.fresh (Nat.le_refl _))
theorem it_tup {p : Addr} {xs : List V} (I : Inv X pins t H s1) (hq : SqT X.K H p xs) (q : R (Itt X.K p) H) : wpAny (model X.prog X.w) X.A (pyIter (.ref p)) (PIE X pins t tg R) E s1 := by
  obtain ⟨vs, _, pl, _⟩ := I.tuple hq
  refine wpAny_pyIter_tuple (show s1.heap.IsTuple p vs.toArray from pl) ⟨s1.heap.objs.size, [s1.heap.objs.size], _, _, H, rfl, I.kept (t' := s1.toks) fun _ _ z => Heap.get?_push_of_some _ z, turn_tuple p _, ⟨_, Heap.get?_push_size _ rfl, rfl, rfl⟩, fun z hz => ?_, q⟩
  cases List.mem_singleton.mp hz
  exact I.fpOk (Nat.le_refl _) (I.hok.fresh (Nat.le_refl _))
theorem it_str {x : Str} {k : Tok} (I : Inv X pins t H s1) (q : R (Its x) H) : wpAny (model X.prog X.w) X.A (pyIter (.str x k)) (PIE X pins t tg R) E s1 := by
  cases ha : x.cps.all (· < 128)
  · refine wpAny_pyIter_wide ha (pi_one (tk := s1.toks) I _ (turn_str _ x k "str_iterator" (Or.inr rfl)) ⟨_, Heap.get?_push_size _ rfl, rfl, rfl⟩ q)
  · refine wpAny_pyIter_ascii ha (pi_one (tk := s1.toks) I _ (turn_str _ x k "str_ascii_iterator" (Or.inl rfl)) ⟨_, Heap.get?_push_size _ rfl, rfl, rfl⟩ q)
end
theorem it_keys {X : Cx} {tg : Expr} {pins : List (Addr × Obj)} {t : L2.St} {H : Hp} {s1 : Shared} {R : It → Hp → Prop} {E : Value → Shared → Prop} {p : Addr} {o : Obj} {l : List (Key × V)} (I : Inv X pins t H s1) (hd : H p = some (.frz o (.dK l))) (q : R (Itk p o l) H) : wpAny (model X.prog X.w) X.A (pyIter (.ref p)) (PIE X pins t tg R) E s1 := by
  obtain ⟨hs, hg, hx, es, ep, vs, hdt, hsz, _, _⟩ := I.frzK hd
  refine iter_keys hs hg hx hdt (pi_one (tk := s1.toks) I _ (turn_keys _ hdt) ⟨_, Heap.get?_push_size _ rfl, rfl, by rw [hsz] <;> rfl⟩ q)
section
variable {K : Frag} {w : Wd}
theorem itR_list {p : Addr} {vs : List V} {ds : List D} (h : LAt K w p vs) (rs : Reps K w vs ds) : ItR K w (Itl K p) ⟨ds, none⟩ where
  go := fun i d w' s hd e st _ => by
    obtain ⟨v, hv, rv⟩ := rs.get hd
    refine ⟨⟨vs, v, (h.ext e).sq, hv⟩, fun x H' y => ?_⟩
    obtain ⟨rfl, y⟩ := y
    have e2 := (y vs (h.ext e).sq).symm.trans hv
    cases e2
    exact ⟨w', Ext.refl w', rfl, st, rv.ext e⟩
  stop := fun w' s e st _ => ⟨vs, (h.ext e).sq, by rw [rs.length]; exact Nat.le_refl _⟩
theorem itR_cell {p : Addr} {n : Nat} {ds : List D} (h : w.A n = some p) : ItR K w (Itl K p) ⟨ds, some n⟩ where
  go := fun i d w' s hd e st ck => by
    obtain ⟨a1, h1, _, vs, hh, rs⟩ := st.at_ n _ ck
    have ea : a1 = p := Option.some.inj (h1.symm.trans (e.A n p h))
    subst ea
    obtain ⟨v, hv, rv⟩ := rs.get hd
    refine ⟨⟨vs, v, SqL.of hh, hv⟩, fun x H' y => ?_⟩
    obtain ⟨rfl, y⟩ := y
    have e2 := (y vs (SqL.of hh)).symm.trans hv
    cases e2
    exact ⟨w', Ext.refl w', rfl, st, rv⟩
  stop := fun w' s e st ck => by
    obtain ⟨a1, h1, _, vs, hh, rs⟩ := st.at_ n _ ck
    have ea : a1 = p := Option.some.inj (h1.symm.trans (e.A n p h))
    subst ea
    exact ⟨vs, SqL.of hh, by rw [rs.length]; exact Nat.le_refl _⟩
theorem itR_kot {p : Addr} {vs : List V} {ds : List D} (h : KT K p vs) (rs : Reps K w vs ds) : ItR K w (Itt K p) ⟨ds, none⟩ where
  go := fun i d w' s hd e st _ => by
    obtain ⟨v, hv, rv⟩ := rs.get hd
    refine ⟨⟨vs, v, .inr h, hv⟩, fun x H' y => ?_⟩
    obtain ⟨rfl, y⟩ := y
    have e2 := (y vs (.inr h)).symm.trans hv
    cases e2
    exact ⟨w', Ext.refl w', rfl, st, rv.ext e⟩
  stop := fun w' s e st _ => ⟨vs, .inr h, by rw [rs.length]; exact Nat.le_refl _⟩
theorem itR_tup {p : Addr} {vs : List V} {ds : List D} (h : TAt K w p vs) (rs : Reps K w vs ds) : ItR K w (Itt K p) ⟨ds, none⟩ where
  go := fun i d w' s hd e st _ => by
    obtain ⟨v, hv, rv⟩ := rs.get hd
    refine ⟨⟨vs, v, (h.ext e).sq, hv⟩, fun x H' y => ?_⟩
    obtain ⟨rfl, y⟩ := y
    have e2 := (y vs (h.ext e).sq).symm.trans hv
    cases e2
    exact ⟨w', Ext.refl w', rfl, st, rv.ext e⟩
  stop := fun w' s e st _ => ⟨vs, (h.ext e).sq, by rw [rs.length]; exact Nat.le_refl _⟩
theorem itR_str {x : Str} : ItR K w (Its x) ⟨chars x, none⟩ where
  go := fun i d w' s hd e st _ => by
    have hd' : (x.cps.toList.map fun c => D.str ⟨#[c]⟩)[i]? = some d := hd
    rw [List.getElem?_map, Array.getElem?_toList] at hd'
    cases q : x.cps[i]? with
    | none => rw [q] at hd'; cases hd'
    | some c =>
      rw [q] at hd'
      have hl : i < x.cps.size := (Array.getElem?_eq_some_iff.mp q).1
      refine ⟨hl, fun y H' yl => ?_⟩
      obtain ⟨rfl, c2, q2, rfl⟩ := yl
      rw [q] at q2
      cases q2
      cases hd'
      exact ⟨w', Ext.refl w', rfl, st, .str _⟩
  stop := fun w' s e st _ => by
    show x.cps.size ≤ (x.cps.toList.map _).length
    rw [List.length_map, Array.length_toList]
    exact Nat.le_refl _
theorem itR_range {lo : Int} {n : Nat} : ItR K w (Itr lo n) ⟨intL lo n, none⟩ where
  go := fun i d w' s hd e st _ => by
    have hd' : ((List.range n).map fun k => D.int (lo + (k : Nat)))[i]? = some d := hd
    rw [List.getElem?_map] at hd'
    by_cases hi : i < n
    · rw [List.getElem?_range hi] at hd'
      cases hd'
      refine ⟨hi, fun x H' y => ?_⟩
      obtain ⟨rfl, rfl⟩ := y
      exact ⟨w', Ext.refl w', rfl, st, .int _⟩
    · rw [List.getElem?_eq_none (by rw [List.length_range]; omega)] at hd'
      cases hd'
  stop := fun w' s e st _ => by
    show n ≤ ((List.range n).map _).length
    rw [List.length_map, List.length_range]
    exact Nat.le_refl _
theorem rep_key {k : Key} : Rep K w (kV k) (keyV k) := by
  cases k with
  | inl i => exact .int i
  | inr z => exact .str z
theorem KVR.get {T : Type} : ∀ {l : List (T × V)} {m : List (T × D)} {i : Nat} {p : T × D}, KVR K w l m → m[i]? = some p → ∃ v, l[i]? = some (p.1, v) ∧ Rep K w v p.2
  | _, _, _, _, .nil, h => by simp at h
  | _, _, 0, _, .cons h _, e => by
    simp at e
    subst e
    exact ⟨_, rfl, h⟩
  | _, _, i + 1, _, .cons _ r, e => by
    simp at e
    obtain ⟨v, h1, h2⟩ := r.get e
    exact ⟨v, by simpa using h1, h2⟩
theorem itR_keys {p : Addr} {o : Obj} {l : List (Key × V)} {m : List (Key × D)} (z : w.Z p) (h : w.H p = some (.frz o (.dK l))) (r : KVR K w l m) : ItR K w (Itk p o l) ⟨m.map fun q => keyV q.1, none⟩ where
  go := fun i d w' s hd e st _ => by
    have hd' : (m.map fun q => keyV q.1)[i]? = some d := hd
    rw [List.getElem?_map] at hd'
    cases q : m[i]? with
    | none => rw [q] at hd'; cases hd'
    | some kd =>
      rw [q] at hd'
      cases hd'
      obtain ⟨v, hv, _⟩ := r.get q
      have hl : i < l.length := (List.getElem?_eq_some_iff.mp hv).1
      refine ⟨⟨(e.H p z).trans h, hl⟩, fun x H' y => ?_⟩
      obtain ⟨rfl, k2, v2, q2, rfl⟩ := y
      rw [hv] at q2
      cases q2
      exact ⟨w', Ext.refl w', rfl, st, rep_key⟩
  stop := fun w' s e st _ => ⟨(e.H p z).trans h, by
    show l.length ≤ (m.map _).length
    rw [List.length_map, r.length]
    exact Nat.le_refl _⟩
theorem zip_get {T U : Type} : ∀ {l : List T} {m : List U} {i : Nat} {p : T × U}, (l.zip m)[i]? = some p → l[i]? = some p.1 ∧ m[i]? = some p.2
  | [], _, _, _, h => by simp at h
  | _ :: _, [], _, _, h => by simp at h
  | a :: l, b :: m, 0, p, h => by
    simp at h
    subst h
    exact ⟨rfl, rfl⟩
  | a :: l, b :: m, i + 1, p, h => by
    simp only [List.zip_cons_cons, List.getElem?_cons_succ] at h ⊢
    exact zip_get h
theorem itR_zipL {p q : Addr} {vs us : List V} {ds es : List D} (h1 : LAt K w p vs) (h2 : LAt K w q us) (r1 : Reps K w vs ds) (r2 : Reps K w us es) : ItR K w (Itz K p q) ⟨(ds.zip es).map fun z => .tup [z.1, z.2], none⟩ where
  go := fun i d w' s hd e st _ => by
    have hd' : ((ds.zip es).map fun z => D.tup [z.1, z.2])[i]? = some d := hd
    rw [List.getElem?_map] at hd'
    cases qq : (ds.zip es)[i]? with
    | none => rw [qq] at hd'; cases hd'
    | some z =>
      rw [qq] at hd'
      cases hd'
      obtain ⟨z1, z2⟩ := zip_get qq
      obtain ⟨x1, hx1, rx1⟩ := r1.get z1
      obtain ⟨x2, hx2, rx2⟩ := r2.get z2
      refine ⟨⟨vs, us, x1, x2, (h1.ext e).sq, (h2.ext e).sq, hx1, hx2⟩, fun x H' y => ?_⟩
      obtain ⟨T, y1, y2, rfl, nT, rfl, g1, g2⟩ := y
      have e1 := (g1 vs (h1.ext e).sq).symm.trans hx1
      have e2 := (g2 us (h2.ext e).sq).symm.trans hx2
      cases e1
      cases e2
      exact ⟨w'.frz T (.tup [x1, x2]), Wd.frz_ext st nT, rfl, Wd.frz_st st nT, rep_newT st (.cons (rx1.ext e) (.cons (rx2.ext e) .nil)) nT⟩
  stop := fun w' s e st _ => ⟨vs, us, (h1.ext e).sq, (h2.ext e).sq, by
    show vs.length ≤ ((ds.zip es).map _).length ∨ us.length ≤ ((ds.zip es).map _).length
    rw [List.length_map, List.length_zip, r1.length, r2.length]
    omega⟩
theorem itR_zipT {p q : Addr} {vs us : List V} {ds es : List D} (h1 : TAt K w p vs) (h2 : TAt K w q us) (r1 : Reps K w vs ds) (r2 : Reps K w us es) : ItR K w (RZ.ItzT K p q) ⟨(ds.zip es).map fun z => .tup [z.1, z.2], none⟩ where
  go := fun i d w' s hd e st _ => by
    have hd' : ((ds.zip es).map fun z => D.tup [z.1, z.2])[i]? = some d := hd
    rw [List.getElem?_map] at hd'
    cases qq : (ds.zip es)[i]? with
    | none => rw [qq] at hd'; cases hd'
    | some z =>
      rw [qq] at hd'
      cases hd'
      obtain ⟨z1, z2⟩ := zip_get qq
      obtain ⟨x1, hx1, rx1⟩ := r1.get z1
      obtain ⟨x2, hx2, rx2⟩ := r2.get z2
      refine ⟨⟨vs, us, x1, x2, (h1.ext e).sq, (h2.ext e).sq, hx1, hx2⟩, fun x H' y => ?_⟩
      obtain ⟨T, y1, y2, rfl, nT, rfl, g1, g2⟩ := y
      have e1 := (g1 vs (h1.ext e).sq).symm.trans hx1
      have e2 := (g2 us (h2.ext e).sq).symm.trans hx2
      cases e1
      cases e2
      exact ⟨w'.frz T (.tup [x1, x2]), Wd.frz_ext st nT, rfl, Wd.frz_st st nT, rep_newT st (.cons (rx1.ext e) (.cons (rx2.ext e) .nil)) nT⟩
  stop := fun w' s e st _ => ⟨vs, us, (h1.ext e).sq, (h2.ext e).sq, by
    show vs.length ≤ ((ds.zip es).map _).length ∨ us.length ≤ ((ds.zip es).map _).length
    rw [List.length_map, List.length_zip, r1.length, r2.length]
    omega⟩
end
section
variable {X : Cx} {W : WX} {tg a b c : Expr} {es : List Expr} {pos p : Pos} {ma mb mc : DE} {mr : DM (List D)}
/-- a dict that is locked -/
theorem lock_ok {w : Wd} {s s' : Sto} {x : V} {d : D} {m : List (Key × D)} (st : StR X.K w s) (r : Rep X.K w x d) (h : lockD s d = some (m, s')) :
    ∃ a l, x = .ref a ∧ ((∃ o, w.Z a ∧ w.H a = some (.frz o (.dK l)) ∧ KVR X.K w l m ∧ s' = s) ∨ (w.H a = some (.dK l) ∧ ∀ o, Ext w (w.lock a (.frz o (.dK l))) ∧ StR X.K (w.lock a (.frz o (.dK l))) s' ∧ KVR X.K (w.lock a (.frz o (.dK l))) l m)) := by
  cases d with
  | dct m1 =>
    cases h
    obtain ⟨a, o, l, rfl, z, h1, h2⟩ := r.dct_inv
    exact ⟨a, l, rfl, .inl ⟨o, z, h1, h2, rfl⟩⟩
  | cel n =>
    unfold lockD at h
    dsimp only at h
    cases r with
    | cel ha =>
      cases e : s[n]? with
      | none => rw [e] at h; cases h
      | some oc =>
        rw [e] at h
        cases oc with
        | none => cases h
        | some c =>
          cases c with
          | dct l1 =>
            cases h
            obtain ⟨a1, h1, hz, l, hh, rs⟩ := st.at_ n _ e
            have ea := Option.some.inj (h1.symm.trans ha)
            subst ea
            refine ⟨_, l, rfl, .inr ⟨hh, fun o => ?_⟩⟩
            have ex : Ext w (w.lock a1 (.frz o (.dK l))) := Wd.lock_ext hz (st.np n _ a1 e h1)
            exact ⟨ex, Wd.lock_st st e h1 hz ⟨o, l, .inr rfl, upd_same, rs.ext ex⟩, rs.ext ex⟩
          | rod l1 =>
            cases h
            obtain ⟨a1, h1, _, o, l, z, hh, rs⟩ := st.at_ n _ e
            have ea := Option.some.inj (h1.symm.trans ha)
            subst ea
            exact ⟨_, l, rfl, .inl ⟨o, z, hh, rs, rfl⟩⟩
          | _ => cases h
  | _ => cases h
theorem i_seq (ha : PE X a (tE X.K W ma)) : PI X tg a (tI X.K W (seqI ma)) := by
  refine ⟨fun pins s t H R I h => ?_⟩
  obtain ⟨r, so, w, rfl, env, st, hp⟩ := h
  refine thn (ha.run pins s t w.H (fun x H1 => ∃ d s1 w1, w1.H = H1 ∧ Ext w w1 ∧ StR X.K w1 s1 ∧ Rep X.K w1 x d ∧ Post X.K (ItR X.K) w1 (fun c d H' => W c d t H') R (srcM s1 d)) I (hp.bind env st fun x d s1 w1 e1 st1 r1 hp1 => ⟨d, s1, w1, rfl, e1, st1, r1, hp1⟩)) fun v s1 h => ?_
  obtain ⟨x, H1, I1, rx, d, so1, w1, rfl, e1, st1, r1, hp1⟩ := h
  unfold srcM at hp1
  cases el : lockD so1 d with
  | some ms =>
    obtain ⟨m, so2⟩ := ms
    rw [el] at hp1
    obtain ⟨a, l, rfl, q⟩ := lock_ok st1 r1 el
    cases rx
    rcases q with ⟨o, z, hh, kv, rfl⟩ | ⟨hh, q⟩
    · exact it_keys I1 hh (hp1.pure st1 (itR_keys z hh kv))
    · obtain ⟨od, I2⟩ := I1.lock hh trivial
      obtain ⟨ex, st2, kv⟩ := q od
      exact it_keys I2 upd_same (hp1 _ (w1.lock a (.frz od (.dK l))) ex st2 (itR_keys (.inr rfl) upd_same kv))
  | none =>
  rw [el] at hp1
  dsimp only at hp1
  cases r1 with
  | tup hh rs =>
    cases rx
    exact it_tup I1 hh.sq (hp1.pure st1 (itR_tup hh rs))
  | kot hh rs =>
    cases rx
    exact it_tup I1 (.inr hh) (hp1.pure st1 (itR_kot hh rs))
  | lst z hh rs =>
    cases rx
    exact it_list I1 (SqL.of hh) (hp1.pure st1 (itR_list (.inl ⟨z, .inl hh⟩) rs))
  | rol hh rs =>
    cases rx
    exact it_list I1 hh.sq (hp1.pure st1 (itR_list hh rs))
  | str z =>
    obtain ⟨k, rfl⟩ := rx
    exact it_str I1 (hp1.pure st1 itR_str)
  | dct z hh hl rs => cases el
  | @cel n a0 hA =>
    cases rx
    unfold srcD at hp1
    dsimp only at hp1
    cases e : so1[n]? with
    | none => rw [e] at hp1; exact hp1.elim
    | some o =>
      cases o with
      | none => rw [e] at hp1; exact hp1.elim
      | some ct =>
        cases ct with
        | lst l =>
          rw [e] at hp1
          obtain ⟨a1, h1, _, vs, hh, rs⟩ := st1.at_ n _ e
          have ea : a1 = a0 := Option.some.inj (h1.symm.trans hA)
          subst ea
          exact it_list I1 (SqL.of hh) (hp1.pure st1 (itR_cell hA))
        | _ => rw [e] at hp1; exact hp1.elim
  | _ => exact hp1.elim
theorem i_range1 (hg : Gl X "range") (hm : X.mg "range" = none) (ha : PA X [a] (tA X.K W mr)) (hs : starEach [a] X.env = [(false, eval a X.env)] := by rfl) : PI X tg (.Call (.Name "range" p) [a] [] pos) (tI X.K W (argI rangeD1 mr)) :=
  PI.imp (pi_range1 hg hm ha hs) fun t H Q h => by
    obtain ⟨r, s, w, rfl, env, st, hp⟩ := h
    exact hp.bind env st fun vs ds s1 w1 e1 st1 r1 hp1 => by
      unfold rangeD1 at hp1
      split at hp1
      · rename_i j
        cases r1 with
        | cons q1 r2 =>
          cases q1
          cases r2
          split at hp1
          · rename_i hb
            exact ⟨j, rfl, hb.1, hb.2, hp1.pure st1 itR_range⟩
          · exact hp1.elim
      · exact hp1.elim
theorem frzL_ok {K : Frag} {w : Wd} {x : V} {d : D} {k : Bool} {l : List D} (r : Rep K w x d) (h : frzL d = some (k, l)) : ∃ q vs, x = .ref q ∧ Reps K w vs l ∧ (if k = true then LAt K w q vs else TAt K w q vs) := by
  cases r with
  | tup hh rs =>
    cases h
    exact ⟨_, _, rfl, rs, hh⟩
  | lst z hh rs =>
    cases h
    exact ⟨_, _, rfl, rs, .inl ⟨z, .inl hh⟩⟩
  | rol hh rs =>
    cases h
    exact ⟨_, _, rfl, rs, hh⟩
  | _ => cases h
theorem i_zip {elts : List Expr} {kk : Nat} {tpos : Pos} (hg : Gl X "zip") (hm : X.mg "zip" = none) (ha : PA X [a, b] (tA X.K W mr)) (hs : starEach [a, b] X.env = (false, eval a X.env) :: starEach [b] X.env := by rfl) (hpl : (backTo pos (starEach [b] X.env)).any (·.1) = false := by rfl) :
    PI X (.Tuple elts kk tpos) (.Call (.Name "zip" p) [a, b] [] pos) (tI X.K W (argI zipD mr)) :=
  PI.imp (RZ.pi_zipA hg hm ha hs hpl) fun t H Q h => by
    obtain ⟨r, s, w, rfl, env, st, hp⟩ := h
    exact hp.bind env st fun vs ds s1 w1 e1 st1 r1 hp1 => by
      unfold zipD at hp1
      split at hp1
      · cases r1 with
        | cons q1 r2 =>
          cases r2 with
          | cons q2 r3 =>
            cases r3
            rename_i x y _ _
            cases h1 : frzL x with
            | none => rw [h1] at hp1; exact hp1.elim
            | some kl =>
              cases h2 : frzL y with
              | none => rw [h1, h2] at hp1; exact hp1.elim
              | some jm =>
                rw [h1, h2] at hp1
                obtain ⟨k, l⟩ := kl
                obtain ⟨j, m⟩ := jm
                obtain ⟨a1, v1, rfl, rs1, k1⟩ := frzL_ok q1 h1
                obtain ⟨a2, v2, rfl, rs2, k2⟩ := frzL_ok q2 h2
                dsimp only at hp1
                by_cases hk : k = j
                · rw [if_pos hk] at hp1
                  subst hk
                  cases k with
                  | true => exact ⟨a1, a2, v1, v2, rfl, .inl ⟨LAt.sq k1, LAt.sq k2, hp1.pure st1 (itR_zipL k1 k2 rs1 rs2)⟩⟩
                  | false => exact ⟨a1, a2, v1, v2, rfl, .inr ⟨TAt.sq k1, TAt.sq k2, hp1.pure st1 (itR_zipT k1 k2 rs1 rs2)⟩⟩
                · rw [if_neg hk] at hp1
                  exact hp1.elim
      · exact hp1.elim
end
end Mp
set_option Elab.async false
set_option linter.all false
set_option maxRecDepth 100000
set_option maxHeartbeats 4000000
/-! Mp: comprehensions. -/
namespace Mp
open PySem PySem.Spec PyProof.Rows L2
def wipeE (r : En) : List Nat → En
  | [] => r
  | v :: vs => (wipeE r vs).set v none
open Classical in
noncomputable def lcF (c : Src) (g : DG) (tt : DM Bool) (te : DE) (r : En) : List D → List D → Sto → Res (List D)
  | [], acc, s => if SrcOk c s then .ok acc s else .bad
  | d :: l, acc, s => if SrcOk c s then (match g d r s with
    | none => .bad
    | some p => (match tt p.1 p.2 with
      | .ok k s1 => if k = true then (match te p.1 s1 with
        | .ok y s2 => if acc.length < sizeLine then lcF c g tt te r l (acc ++ [y]) s2 else .bad
        | _ => .bad) else lcF c g tt te r l acc s1
      | _ => .bad)) else .bad
noncomputable def lcM (k : Bool) (mi : DM Src) (g : DG) (tt : DM Bool) (te : DE) (vs : List Nat) : DE := bindM mi fun c => fun r s => match lcF c g tt te (wipeE r vs) c.its [] s with
  | .ok acc s' => newL k acc s'
  | _ => .bad
abbrev W0 : WX := fun _ _ _ _ => False
/-! ### targets that keep the rest -/
def tGw (K : Frag) (g : DG) (ns : List Nat) : TG := fun v t H Q => ∃ r s w d, w.H = H ∧ EnvR K w r t ∧ StR K w s ∧ Rep K w v d ∧ (match g d r s with
  | some p => ∀ t' w', Ext w w' → EnvR K w' p.1 t' → StR K w' p.2 → wipe t' ns = wipe t ns → Q t' w'.H
  | none => False)
def tGsw (K : Frag) (g : DGs) (ns : List Nat) : TGs := fun vs t H Q => ∃ r s w ds, w.H = H ∧ EnvR K w r t ∧ StR K w s ∧ Reps K w vs ds ∧ (match g ds r s with
  | some p => ∀ t' w', Ext w w' → EnvR K w' p.1 t' → StR K w' p.2 → wipe t' ns = wipe t ns → Q t' w'.H
  | none => False)
theorem set_comm' {T : Type} {l : List T} {i j : Nat} {x y : T} (h : i ≠ j) : (l.set i x).set j y = (l.set j y).set i x := List.set_comm x y h
theorem wipe_set {t : L2.St} {i : Nat} {x : Option V} : ∀ {ns : List Nat}, i ∈ ns → wipe (t.set i x) ns = wipe t ns
  | [], h => by simp at h
  | n :: ns, h => by
    unfold wipe
    by_cases hn : i ∈ ns
    · rw [wipe_set hn]
    · have e : i = n := by
        rcases List.mem_cons.mp h with h | h
        · exact h
        · exact absurd h hn
      subst e
      have key : ∀ {ms : List Nat}, i ∉ ms → wipe (t.set i x) ms = (wipe t ms).set i x := by
        intro ms
        induction ms with
        | nil => intro _; rfl
        | cons m ms ih =>
          intro hm
          have h1 : m ≠ i := fun z => hm (z ▸ List.mem_cons_self)
          have h2 : i ∉ ms := fun z => hm (List.mem_cons_of_mem _ z)
          unfold wipe
          rw [ih h2, set_comm' h1.symm]
      rw [key hn, List.set_set]
theorem wipe_env {K : Frag} {w : Wd} {r : En} {t : L2.St} (h : EnvR K w r t) : ∀ ns : List Nat, EnvR K w (wipeE r ns) (wipe t ns)
  | [] => h
  | n :: ns => (wipe_env h ns).unset n
section
variable {X : Cx} {a : Expr} {es : List Expr} {pos : Pos} {ns : List Nat}
theorem gw_name {i : Nat} {x : Str} (hN : X.N.Nodup) (hi : X.N[i]? = some x) (hx : Loc X.env.scope x) (hm : i ∈ ns) (hf : X.fn x = true ∨ X.env.scope.names.lookup x = some .local := by first | exact .inl rfl | exact .inr rfl | assumption) : PG X (.Name x pos) (tGw X.K (nameG i) ns) :=
  PG.imp (pg_name hN hi hx hf) fun v t H Q h => by
    obtain ⟨r, s, w, d, rfl, env, st, rv, hp⟩ := h
    exact hp _ w (Ext.refl w) (env.set rv i) st (wipe_set hm)
theorem gsw_nil : PGs X [] (tGsw X.K nilG ns) := PGs.imp pgs_nil fun v t H Q h => by
  obtain ⟨r, s, w, ds, rfl, env, st, rv, hp⟩ := h
  cases rv with
  | nil => exact ⟨rfl, hp _ w (Ext.refl w) env st rfl⟩
  | cons _ _ => exact hp.elim
theorem gsw_cons {g : DG} {g2 : DGs} (h1 : PG X a (tGw X.K g ns)) (h2 : PGs X es (tGsw X.K g2 ns)) (hs : (assignEach (a :: es) X.env).map (·.2) = assign a X.env :: (assignEach es X.env).map (·.2) := by rfl) : PGs X (a :: es) (tGsw X.K (consG g g2) ns) :=
  PGs.imp (pgs_cons h1 h2 hs) fun v t H Q h => by
    obtain ⟨r, s, w, ds, rfl, env, st, rv, hp⟩ := h
    cases rv with
    | nil => exact hp.elim
    | @cons v d vs ds r1 r2 =>
      refine ⟨v, vs, rfl, r, s, w, d, rfl, env, st, r1, ?_⟩
      unfold consG at hp
      dsimp only at hp
      cases e : g d r s with
      | none => rw [e] at hp; exact hp.elim
      | some p =>
        rw [e] at hp
        refine fun t' w' e' env' st' wi => ⟨p.1, p.2, w', ds, rfl, env', st', r2.ext e', ?_⟩
        have hp' : (match g2 ds p.1 p.2 with
          | some p => ∀ t' w', Ext w w' → EnvR X.K w' p.1 t' → StR X.K w' p.2 → wipe t' ns = wipe t ns → Q t' w'.H
          | none => False) := hp
        cases e2 : g2 ds p.1 p.2 with
        | none => rw [e2] at hp'; exact hp'.elim
        | some p2 =>
          rw [e2] at hp'
          exact fun t2 w2 x2 env2 st2 wi2 => hp' t2 w2 (e'.trans x2) env2 st2 (wi2.trans wi)
theorem gw_tup {k n : Nat} {g : DGs} (hc : X.calm = true) (h : PGs X es (tGsw X.K g ns)) (hn : (assignEach es X.env).length = n := by rfl) (hst : (assignEach es X.env).findIdx? (·.1) = none := by rfl) : PG X (.Tuple es k pos) (tGw X.K (tupG n g) ns) :=
  PG.imp (PG.or (pg_tup hc h hn hst) (pg_lst hc h hn hst)) fun v t H Q h => by
    obtain ⟨r, s, w, d, rfl, env, st, rv, hp⟩ := h
    unfold tupG at hp
    cases e : seqOf s d with
    | none => rw [e] at hp; exact hp.elim
    | some l =>
      rw [e] at hp
      dsimp only at hp
      obtain ⟨p, vs, rfl, hq, rs⟩ := seqOf_ok st rv e
      by_cases hl : l.length = n
      · rw [if_pos hl] at hp
        have hin : tGsw X.K g ns vs t w.H Q := ⟨r, s, w, l, rfl, env, st, rs, hp⟩
        rcases hq with hq | hq
        · exact .inr ⟨p, vs, rfl, hq, by rw [rs.length, hl], hin⟩
        · exact .inl ⟨p, vs, rfl, hq, by rw [rs.length, hl], hin⟩
      · rw [if_neg hl] at hp
        exact hp.elim
theorem ts_one {W : WX} {mt : DM Bool} (h : PT X a (tT X.K W mt)) : PTs X [a] (tT X.K W mt) := pts_one h
end
/-! ### a pinned list -/
def Wd.pin (w : Wd) (p : Addr) (o : HO) : Wd := ⟨w.A, w.Z, fun a => w.P a ∨ a = p, upd w.H p o⟩
section
variable {K : Frag} {w w0 : Wd} {s : Sto} {p : Addr} {o : HO}
theorem Wd.pin_ext (st : StR K w s) (h : w.H p = none) : Ext w (w.pin p o) :=
  ⟨⟨fun _ _ h => h, fun _ h => h, fun a z => upd_ne fun e => st.fz a z (e ▸ h)⟩, fun _ h => .inl h, fun a z => upd_ne fun e => (st.pz a z).2 (e ▸ h)⟩
theorem Wd.pin_st (st : StR K w s) (h : w.H p = none) (ht : ∀ xs, o ≠ .tup xs := by exact fun _ h => nomatch h) : StR K (w.pin p o) s := by
  have e := Wd.pin_ext (o := o) st h
  refine ⟨fun n ct q => ?_, fun n ct a q ha z => ?_, fun a z => ?_, st.inj, fun a z => ?_, st.new, fun a z xs q => ?_⟩
  rotate_right
  · by_cases ha : a = p
    · rw [ha, show (w.pin p o).H p = some o from upd_same] at q
      exact ht xs (Option.some.inj q)
    · rw [show (w.pin p o).H a = w.H a from upd_ne ha] at q
      exact st.pt a (z.resolve_right ha) xs q
  · obtain ⟨a, h1, h2, h3⟩ := st.at_ n ct q
    obtain ⟨ob, ho, _⟩ := h3.some
    exact ⟨a, h1, h2, h3.same e (upd_ne (ne_of_none ho h))⟩
  · obtain ⟨b, h1, h2, h3⟩ := st.at_ n ct q
    obtain ⟨ob, ho, _⟩ := h3.some
    have eb : b = a := Option.some.inj (h1.symm.trans ha)
    subst eb
    exact z.elim (st.np n ct b q ha) (ne_of_none ho h)
  · rcases z with z | z
    · have ne : a ≠ p := fun q => (st.pz a z).2 (q ▸ h)
      exact ⟨(st.pz a z).1, by rw [show (w.pin p o).H a = w.H a from upd_ne ne]; exact (st.pz a z).2⟩
    · subst z
      exact ⟨fun q => st.fz a q h, by rw [show (w.pin a o).H a = some o from upd_same]; exact fun q => nomatch q⟩
  · have ne : a ≠ p := fun q => st.fz a z (q ▸ h)
    rw [show (w.pin p o).H a = w.H a from upd_ne ne]
    exact st.fz a z
theorem Wd.turn_ex0 (st : StR K w s) (hP : w.P p) : Ex0 w (w.put p o) := ⟨fun _ _ h => h, fun _ h => h, fun a z => upd_ne fun e => (st.pz p hP).1 (e ▸ z)⟩
theorem Wd.turn_ext (e : Ext w0 w) (h1 : ¬ w0.Z p) (h2 : ¬ w0.P p) : Ext w0 (w.put p o) :=
  ⟨⟨e.A, e.Z, fun a z => (show upd w.H p o a = w.H a from upd_ne fun q => h1 (q ▸ z)).trans (e.H a z)⟩, e.P, fun a z => (show upd w.H p o a = w.H a from upd_ne fun q => h2 (q ▸ z)).trans (e.HP a z)⟩
theorem Wd.turn_st (st : StR K w s) (hP : w.P p) (ht : ∀ xs, o ≠ .tup xs := by exact fun _ h => nomatch h) : StR K (w.put p o) s := by
  have e := Wd.turn_ex0 (o := o) st hP
  refine ⟨fun n ct q => ?_, st.np, fun a z => ⟨(st.pz a z).1, ?_⟩, st.inj, fun a z => ?_, st.new, fun a z xs q => ?_⟩
  rotate_right
  · by_cases ha : a = p
    · rw [ha, show (w.put p o).H p = some o from upd_same] at q
      exact ht xs (Option.some.inj q)
    · rw [show (w.put p o).H a = w.H a from upd_ne ha] at q
      exact st.pt a z xs q
  · obtain ⟨a, h1, h2, h3⟩ := st.at_ n ct q
    have ne : a ≠ p := fun q2 => st.np n ct a q h1 (q2 ▸ hP)
    exact ⟨a, h1, h2, h3.sam0 e (upd_ne ne)⟩
  · show upd w.H p o a ≠ none
    by_cases ha : a = p
    · rw [ha, upd_same]; exact fun q => nomatch q
    · rw [upd_ne ha]; exact (st.pz a z).2
  · show upd w.H p o a ≠ none
    by_cases ha : a = p
    · rw [ha, upd_same]; exact fun q => nomatch q
    · rw [upd_ne ha]; exact st.fz a z
/-- the pinned list is let go: frozen, or a cell -/
theorem Post.unpin {E : XK} {Q : VK} {k : Bool} {ds : List D} {vs : List V} (hp : Post K (Rep K) w0 E Q (Mp.newL k ds s)) (e : Ext w0 w) (st : StR K w s) (h1 : ¬ w0.P p) (hP : w.P p) (hh : w.H p = some (.lst vs)) (rs : Reps K w vs ds) : Q (.ref p) w.H := by
  have nz := (st.pz p hP).1
  cases k with
  | false =>
    have hp' : Post K (Rep K) w0 E Q (.ok (.lst ds) s) := hp
    let w2 : Wd := ⟨w.A, fun a => w.Z a ∨ a = p, fun a => w.P a ∧ a ≠ p, w.H⟩
    have e0 : Ex0 w w2 := ⟨fun _ _ h => h, fun _ h => .inl h, fun _ _ => rfl⟩
    have e2 : Ext w0 w2 := ⟨⟨e.A, fun a z => .inl (e.Z a z), e.H⟩, fun a z => ⟨e.P a z, fun q => h1 (q ▸ z)⟩, e.HP⟩
    refine hp' (.ref p) w2 e2 ⟨fun n ct q => ?_, fun n ct a q ha z => st.np n ct a q ha z.1, fun a z => ⟨fun q => q.elim (st.pz a z.1).1 z.2, (st.pz a z.1).2⟩, st.inj, fun a z => ?_, st.new, st.ptk (fun _ h => h.1) (fun _ _ => rfl)⟩ (.lst (.inr rfl) hh (rs.ex0 e0))
    · obtain ⟨a, k1, k2, k3⟩ := st.at_ n ct q
      exact ⟨a, k1, k2.mono (w' := w2) fun (z : w.Z a ∨ a = p) => Or.elim z id fun z => absurd (z ▸ hP) (st.np n ct a q k1), k3.sam0 e0 rfl⟩
    · rcases z with z | z
      · exact st.fz a z
      · rw [z, show w2.H p = some (.lst vs) from hh]
        exact fun q => nomatch q
  | true =>
    have hp' : Post K (Rep K) w0 E Q (.ok (.cel s.length) (s ++ [some (.lst ds)])) := hp
    let w2 : Wd := ⟨fun m => if m = s.length then some p else w.A m, w.Z, fun a => w.P a ∧ a ≠ p, w.H⟩
    have hA : ∀ m a, w.A m = some a → w2.A m = some a := fun m a q => by
      have ne : ¬ m = s.length := fun z => by
        rw [st.new m (by omega)] at q
        exact nomatch q
      show (if m = s.length then some p else w.A m) = some a
      rw [if_neg ne]
      exact q
    have e0 : Ex0 w w2 := ⟨hA, fun _ h => h, fun _ _ => rfl⟩
    have e2 : Ext w0 w2 := ⟨⟨fun n a q => hA n a (e.A n a q), e.Z, e.H⟩, fun a z => ⟨e.P a z, fun q => h1 (q ▸ z)⟩, e.HP⟩
    have at' : ∀ m ct, (s ++ [some (Ct.lst ds)])[m]? = some (some ct) → (m < s.length ∧ s[m]? = some (some ct)) ∨ (m = s.length ∧ ct = .lst ds) := fun m ct q => by
      by_cases hm : m < s.length
      · rw [List.getElem?_append_left hm] at q
        exact .inl ⟨hm, q⟩
      · rw [List.getElem?_append_right (by omega)] at q
        by_cases h0 : m - s.length = 0
        · rw [h0] at q
          exact .inr ⟨by omega, by simpa using q.symm⟩
        · rw [List.getElem?_eq_none (by simp; omega)] at q
          cases q
    have AtN : w2.A s.length = some p := if_pos rfl
    have AtO : ∀ m, m < s.length → w2.A m = w.A m := fun m hm => if_neg (by omega)
    have npo : ∀ m ct a, s[m]? = some (some ct) → w.A m = some a → a ≠ p := fun m ct a q ha z => st.np m ct a q ha (z ▸ hP)
    refine hp' (.ref p) w2 e2 ⟨fun m ct q => ?_, fun m ct a q ha z => ?_, fun a z => st.pz a z.1, fun m k b x y qm qk hm hk => ?_, st.fz, fun m hm => ?_, st.ptk (fun _ h => h.1) (fun _ _ => rfl)⟩ (.cel AtN)
    · rcases at' m ct q with ⟨hm, q⟩ | ⟨rfl, rfl⟩
      · obtain ⟨a, k1, k2, k3⟩ := st.at_ m ct q
        exact ⟨a, hA m a k1, k2, k3.sam0 e0 rfl⟩
      · exact ⟨p, AtN, nz, vs, hh, rs.ex0 e0⟩
    · rcases at' m ct q with ⟨hm, q⟩ | ⟨rfl, rfl⟩
      · rw [AtO m hm] at ha
        exact st.np m ct a q ha z.1
      · rw [AtN] at ha
        cases ha
        exact z.2 rfl
    · rcases at' m x qm with ⟨lm, qm'⟩ | ⟨rfl, rfl⟩
      · rcases at' k y qk with ⟨lk, qk'⟩ | ⟨rfl, rfl⟩
        · rw [AtO m lm] at hm
          rw [AtO k lk] at hk
          exact st.inj m k b x y qm' qk' hm hk
        · rw [AtO m lm] at hm
          rw [AtN] at hk
          cases hk
          exact absurd rfl (npo m x _ qm' hm)
      · rcases at' k y qk with ⟨lk, qk'⟩ | ⟨rfl, rfl⟩
        · rw [AtO k lk] at hk
          rw [AtN] at hm
          cases hm
          exact absurd rfl (npo k y _ qk' hk)
        · rfl
    · rw [List.length_append] at hm
      have hm' : s.length + 1 ≤ m := hm
      show (if m = s.length then some p else w.A m) = none
      rw [if_neg (by omega)]
      exact st.new m (by omega)
end
/-! ### the reading -/
theorem lc_imp {K : Frag} {W : WX} {k : Bool} {mi : DM Src} {g : DG} {tt : DM Bool} {te : DE} {ns : List Nat} {t : L2.St} {H : Hp} {Q : VK} (h : tE K W (lcM k mi g tt te ns) t H Q) : tLc (tI K W mi) (tGw K g ns) (tT K W0 tt) (tE K W0 te) ns t H Q := by
  obtain ⟨r, s, w, rfl, env, st, hp⟩ := h
  exact hp.bind env st fun J sc s1 w1 e1 st1 r1 hp1 => by
    obtain ⟨its, cl⟩ := sc
    intro Dn nD
    have hz : ¬ w1.Z Dn := fun z => st1.fz Dn z nD
    have hP : ¬ w1.P Dn := fun z => (st1.pz Dn z).2 nD
    have env1 := env.ext e1
    cases ef : lcF ⟨its, cl⟩ g tt te (wipeE r ns) its [] s1 with
    | exc C fs s' => simp only [ef] at hp1; exact hp1.elim
    | bad => simp only [ef] at hp1; exact hp1.elim
    | ok fin sf =>
      simp only [ef] at hp1
      refine ⟨fun i m H => i + m = its.length ∧ ∃ (w : Wd) (s : Sto) (acc : List D) (vs : List V), w.H = H ∧ Ext w1 w ∧ StR K w s ∧ w.P Dn ∧ w.H Dn = some (.lst vs) ∧ Reps K w vs acc ∧ lcF ⟨its, cl⟩ g tt te (wipeE r ns) (its.drop i) acc s = .ok fin sf,
        ⟨its.length, Nat.zero_add _, w1.pin Dn (.lst []), s1, [], [], rfl, Wd.pin_ext st1 nD, Wd.pin_st st1 nD, .inr rfl, upd_same, .nil, ef⟩, fun i m H h => ?_⟩
      obtain ⟨him, w2, s2, acc, vs, rfl, x2, st2, hP2, hh2, rs2, ef2⟩ := h
      cases m with
      | zero =>
        have hi : i = its.length := by omega
        subst hi
        rw [List.drop_length] at ef2
        unfold lcF at ef2
        by_cases ck : SrcOk ⟨its, cl⟩ s2
        · rw [if_pos ck] at ef2
          cases ef2
          exact .inl ⟨r1.stop w2 sf x2 st2 ck, Post.unpin hp1 x2 st2 hP hP2 hh2 rs2⟩
        · rw [if_neg ck] at ef2
          cases ef2
      | succ m =>
        have hlt : i < its.length := by omega
        have hd : its[i]? = some its[i] := List.getElem?_eq_getElem hlt
        rw [List.drop_eq_getElem_cons hlt] at ef2
        unfold lcF at ef2
        by_cases ck : SrcOk ⟨its, cl⟩ s2
        rotate_left
        · rw [if_neg ck] at ef2
          cases ef2
        rw [if_pos ck] at ef2
        obtain ⟨hgo, hy⟩ := r1.go i _ w2 s2 hd x2 st2 ck
        refine .inr ⟨hgo, fun H' => i + 1 + m = its.length ∧ ∃ (w : Wd) (s : Sto) (acc : List D) (vs : List V), w.H = H' ∧ Ext w1 w ∧ StR K w s ∧ w.P Dn ∧ w.H Dn = some (.lst vs) ∧ Reps K w vs acc ∧ lcF ⟨its, cl⟩ g tt te (wipeE r ns) (its.drop (i + 1)) acc s = .ok fin sf,
          fun H' q => ⟨m, Nat.lt_succ_self m, q⟩, fun x H' yl => ?_⟩
        obtain ⟨w3, x3, rfl, st3, rx⟩ := hy x H' yl
        refine ⟨wipeE r ns, s2, w3, its[i], rfl, (wipe_env env1 ns).ext (x2.trans x3), st3, rx, ?_⟩
        cases eg : g its[i] (wipeE r ns) s2 with
        | none => rw [eg] at ef2; cases ef2
        | some p =>
          rw [eg] at ef2
          dsimp only at ef2
          intro t4 w4 x4 env4 st4 wi4
          refine ⟨?_, ?_⟩
          · have ww : wipe (wipe t ns) ns = wipe t ns := by
              have key : ∀ ms : List Nat, (∀ j ∈ ms, j ∈ ns) → wipe (wipe t ms) ns = wipe t ns := by
                intro ms
                induction ms with
                | nil => intro _; rfl
                | cons j ms ih =>
                  intro hj
                  show wipe ((wipe t ms).set j none) ns = wipe t ns
                  rw [wipe_set (hj j List.mem_cons_self)]
                  exact ih fun q hq => hj q (List.mem_cons_of_mem _ hq)
              exact key ns fun j hj => hj
            rw [← ww]
            exact wi4
          · refine ⟨p.1, p.2, w4, rfl, env4, st4, ?_⟩
            cases et : tt p.1 p.2 with
            | exc C fs s' => rw [et] at ef2; cases ef2
            | bad => rw [et] at ef2; cases ef2
            | ok kk s5 =>
              rw [et] at ef2
              dsimp only at ef2
              intro b w5 x5 st5 eb
              subst eb
              have x25 := ((x2.trans x3).trans x4).trans x5
              have x5' := (x3.trans x4).trans x5
              cases b with
              | false => exact ⟨by omega, w5, s5, acc, vs, rfl, x25, st5, x5'.P Dn hP2, (x5'.HP Dn hP2).trans hh2, rs2.ext x5', ef2⟩
              | true =>
                refine ⟨p.1, s5, w5, rfl, env4.ext x5, st5, ?_⟩
                simp only [if_true] at ef2
                cases ee : te p.1 s5 with
                | exc C fs s' => rw [ee] at ef2; cases ef2
                | bad => rw [ee] at ef2; cases ef2
                | ok y s6 =>
                  rw [ee] at ef2
                  dsimp only at ef2
                  by_cases hl : acc.length < sizeLine
                  rotate_left
                  · rw [if_neg hl] at ef2
                    cases ef2
                  rw [if_pos hl] at ef2
                  intro v w6 x6 st6 rv
                  have x6' := x5'.trans x6
                  have P6 := x6'.P Dn hP2
                  have H6 : w6.H Dn = some (.lst vs) := (x6'.HP Dn hP2).trans hh2
                  have e0 := Wd.turn_ex0 (o := .lst (vs ++ [v])) st6 P6
                  refine ⟨vs, H6, by rw [rs2.length]; exact hl, by omega, w6.put Dn (.lst (vs ++ [v])), s6, acc ++ [y], vs ++ [v], rfl, Wd.turn_ext (x25.trans x6) hz hP, Wd.turn_st st6 P6, P6, upd_same, ?_, ef2⟩
                  exact ((rs2.ext x6').ex0 e0).append (.cons (rv.ex0 e0) .nil)
section
variable {X : Cx} {W : WX} {elt tg iter : Expr} {ifs : List Expr} {scope : Scope} {own : List (Str × Nat)} {pos : Pos} {mi : DM Src} {g : DG} {tt : DM Bool} {te : DE}
theorem e_lc (k : Bool) (hc : X.calm = true) (hN : X.N.Nodup) (hi : PI X tg iter (tI X.K W mi)) (ok : BlkOk X.N X.env.scope scope own)
    (hg : ∀ (s : Shared) (H : Hp) (C : Addr) (cl : List (Str × Addr)) (fp : List Addr), PG (X.blk s H scope (compEnvC scope cl C X.env) fp) tg (tGw X.K g (own.map (·.2))))
    (ht : ∀ (s : Shared) (H : Hp) (C : Addr) (cl : List (Str × Addr)) (fp : List Addr), PTs (X.blk s H scope (compEnvC scope cl C X.env) fp) ifs (tT X.K W0 tt))
    (he : ∀ (s : Shared) (H : Hp) (C : Addr) (cl : List (Str × Addr)) (fp : List Addr), PE (X.blk s H scope (compEnvC scope cl C X.env) fp) elt (tE X.K W0 te)) (hs : ∀ x, foldedSetIterable iter X.env x = pure x := by intro _; rfl) :
    PE X (.ListComp elt [⟨tg, iter, ifs, 0⟩] scope pos) (tE X.K W (lcM k mi g tt te (own.map (·.2)))) := PE.imp (pe_lc hc hN hi ok hg ht he hs) fun t H Q h => lc_imp h
end
end Mp
set_option Elab.async false
set_option linter.all false
set_option maxRecDepth 100000
set_option maxHeartbeats 4000000
/-! Mp: defs, calls, own classes. -/
namespace Mp
open PySem PySem.Spec PyProof.Rows L2
abbrev DF := List D → Sto → Res D
/-- a def's promise by its function on data -/
def spD (K : Frag) (m : DF) : Sp := fun vs H Q E => ∃ ds s w, w.H = H ∧ Reps K w vs ds ∧ StR K w s ∧ Post K (Rep K) w E Q (m ds s)
/-- the function of a body: its slots, its statement -/
def bodyX (n : Nat) (b : DS) : DF := fun ds s => match b (ds.map some ++ List.replicate (n - ds.length) none) s with
  | .nx _ s' => .ok .non s'
  | .rt d s' => .ok d s'
  | .exc C fs _ s' => .exc C fs s'
  | _ => .bad
/-- the parameters' values: k of them, the last ones with defaults -/
def argsD (k : Nat) (dd : List D) (ds : List D) : Option (List D) := if ds.length ≤ k ∧ k ≤ ds.length + dd.length then some (ds ++ dd.drop (ds.length + dd.length - k)) else none
def bodyM (k : Nat) (dd : List D) (n : Nat) (b : DS) : DF := fun ds s => match argsD k dd ds with
  | some es => bodyX n b es s
  | none => .bad
def callM (m : DF) (a : DM (List D)) : DE := bindM a fun ds => fun _ s => m ds s
inductive Ak where
  | fld | prop (m : DF) | con (d : D)
def attrD (tb : List (Str × Ak)) (f : Str) (x : D) (s : Sto) : Res D := match insOf s x with
  | none => .bad
  | some (C, fs) => (match tb.lookup C with
    | some .fld => okO s (fs.lookup f)
    | some (.prop m) => m [x] s
    | some (.con d) => (match fs.lookup f with
      | none => .ok d s
      | some _ => .bad)
    | none => .bad)
def attrM (tb : List (Str × Ak)) (f : Str) (a : DE) : DE := bindM a fun x => fun _ s => attrD tb f x s
def methM (tb : List (Str × DF)) (m : Str) (o : DE) (a : DM (List D)) : DE := bindM o fun x => fun r s => match insOf s x with
  | none => .bad
  | some (C, fs) => (match fs.lookup m with
    | some _ => .bad
    | none => (match tb.lookup C with
      | none => .bad
      | some f => (bindM a fun ds => fun _ s => f (x :: ds) s) r s))
/-- a new instance: its __init__, then frozen or not -/
def freezeI (k : Bool) (n : Nat) (s : Sto) : Res D := if k = true then .ok (.cel n) s else (match s[n]? with
  | some (some (.ins C fs)) => .ok (.ins C fs) (s.set n none)
  | _ => .bad)
def makeM (k : Bool) (C : Str) (m : DF) (a : DM (List D)) : DE := bindM a fun ds => fun _ s => match m (.cel s.length :: ds) (s ++ [some (.ins C [])]) with
  | .ok .non s' => freezeI k s.length s'
  | .ok _ _ => .bad
  | .exc E fs s' => .exc E fs s'
  | .bad => .bad
def putD (f : Str) (d : D) : List (Str × D) → List (Str × D)
  | [] => [(f, d)]
  | (g, x) :: r => if g = f then (g, d) :: r else (g, x) :: putD f d r
/-- o.f = e -/
def fldS (tb : List Str) (f : Str) (o v : DE) : DS := thenS v fun y => thenS o fun x => fun r s => match x with
  | .cel n => (match s[n]? with
    | some (some (.ins C fs)) => if C ∈ tb ∧ fs.length < 1000 then .nx r (s.set n (some (.ins C (putD f y fs)))) else .bad
    | _ => .bad)
  | _ => .bad
/-! ### soundness -/
theorem KVR.lookup {K : Frag} {w : Wd} {f : Str} : ∀ {l : List (Str × V)} {m : List (Str × D)}, KVR K w l m → (match m.lookup f with | some d => ∃ v, l.lookup f = some v ∧ Rep K w v d | none => l.lookup f = none)
  | _, _, .nil => rfl
  | _, _, .cons (k := j) h r => by
    have ih := KVR.lookup (f := f) r
    by_cases e : f = j
    · subst e
      simp only [List.lookup_cons_self]
      exact ⟨_, rfl, h⟩
    · have hb : (f == j) = false := by simpa using e
      simp only [List.lookup_cons, hb]
      exact ih
theorem KVR.put {K : Frag} {w : Wd} {f : Str} {y : V} {d : D} (q : Rep K w y d) : ∀ {l : List (Str × V)} {m : List (Str × D)}, KVR K w l m → KVR K w (putF f y l) (putD f d m)
  | _, _, .nil => .cons q .nil
  | _, _, .cons (k := j) h r => by
    unfold putF putD
    by_cases e : j = f
    · rw [if_pos e, if_pos e]
      exact .cons q r
    · rw [if_neg e, if_neg e]
      exact .cons h (r.put q)
section
variable {P : Program} {w : World} {K : Frag} {mg : Str → Option Value} {base : Heap}
/-- room, and no repr under way -/
structure Rm (k : Nat) (A : Around) : Prop where
  rm : Room k A
  gd : A.guards = some []
theorem Rm.mono {j k : Nat} {A : Around} (r : Rm k A) (h : j ≤ k) : Rm j A := ⟨r.rm.mono h, r.gd⟩
theorem Rm.in1 {k : Nat} {A : Around} (r : Rm (k + 1) A) : Rm k A.in1 := ⟨r.rm.in1, r.gd⟩
theorem Rm.deeper {k : Nat} {A : Around} (r : Rm (k + 1) A) (env : Env) : Rm k (A.deeper env) := ⟨r.rm.deeper env, r.gd⟩
theorem Rm.make {k : Nat} {A : Around} (r : Rm (k + 1) A) (C : Addr) (us : List Value) (kw : List (Str × Value)) : Rm k (A.under (.builtin "type.__call__" ⟨.ref C :: us, kw⟩)) :=
  ⟨r.rm.make C us kw, by
    have e : Code.guards (.builtin "type.__call__" ⟨.ref C :: us, kw⟩) = [] := by
      unfold Code.guards
      exact if_neg (by show ¬ (guardIds.contains "type.__call__" = true); decide +kernel)
    show pushGuards (Code.guards (.builtin "type.__call__" ⟨.ref C :: us, kw⟩)) A.guards = _
    rw [e, r.gd]
    rfl⟩
/-- a promise by positional values, however they are bound, where no repr is under way -/
def FnG (P : Program) (w : World) (K : Frag) (mg : Str → Option Value) (base : Heap) (CX : CXT) (k : Nat) (f : Addr) (sp : Sp) : Prop :=
  ∀ (A : Around) (outer : List Env) (s : Shared) (H : Hp) (us : List Value) (vs : List V) (Q : VK) (E : XK), Rm k A → Env0 P w K mg base A outer s H → Vals vs us → sp vs H Q E → codeAny (model P w) A (.call (.ref f) ⟨us, []⟩) (CR CX outer P w H s Q E) s
theorem FnG.mono {CX : CXT} {j k : Nat} {f : Addr} {sp : Sp} (F : FnG P w K mg base CX j f sp) (h : j ≤ k) : FnG P w K mg base CX k f sp := fun A outer s H us vs Q E hr => F A outer s H us vs Q E (hr.mono h)
abbrev FnD (P : Program) (w : World) (K : Frag) (mg : Str → Option Value) (base : Heap) (k : Nat) (f : Addr) (m : DF) : Prop := FnG P w K mg base (L2.CX P w) k f (spD K m)
theorem env_start {u : Wd} {n : Nat} : ∀ {vs : List V} {ds : List D}, Reps K u vs ds → EnvR K u (ds.map some ++ List.replicate (n - ds.length) none) (vs.map some ++ List.replicate (n - vs.length) none) := fun {vs ds} rs => by
  refine ⟨by simp [rs.length], fun i d h => ?_⟩
  by_cases hi : i < ds.length
  · rw [List.getElem?_append_left (by simpa using hi), List.getElem?_map] at h
    cases e : ds[i]? with
    | none => rw [e] at h; cases h
    | some d' =>
      rw [e] at h
      cases h
      obtain ⟨v, hv, rv⟩ := rs.get e
      refine ⟨v, ?_, rv⟩
      rw [List.getElem?_append_left (by simpa [rs.length] using hi), List.getElem?_map, hv]
      rfl
  · rw [List.getElem?_append_right (by simpa using Nat.le_of_not_lt hi)] at h
    rw [List.getElem?_replicate] at h
    split at h <;> cases h
theorem body_end {n : Nat} {b : DS} {vs : List V} {ds : List D} {so : Sto} {u : Wd} {Q : VK} {E : XK} (rs : Reps K u vs ds) (st : StR K u so) (hp : Post K (Rep K) u E Q (bodyX n b ds so)) :
    tS K (fun c d _ H' => E c d H') b { nx := fun _ H' => Q .non H', rt := Q } (vs.map some ++ List.replicate (n - vs.length) none) u.H := by
  refine ⟨_, so, u, rfl, env_start (n := n) rs, st, ?_⟩
  unfold bodyX at hp
  cases e : b (ds.map some ++ List.replicate (n - ds.length) none) so with
  | nx r' s' => rw [e] at hp; exact fun t' w' e' _ st' => hp .non w' e' st' .non
  | rt d s' => rw [e] at hp; exact hp
  | bk r' s' => rw [e] at hp; exact hp.elim
  | ct r' s' => rw [e] at hp; exact hp.elim
  | exc C fs r' s' => rw [e] at hp; exact fun t' ed w' e' _ st' x' => hp ed w' e' st' x'
  | bad => rw [e] at hp; exact hp.elim
/-- what a def's derivation is -/
abbrev BodyD (P : Program) (w : World) (K : Frag) (mg : Str → Option Value) (base : Heap) (N : List Str) (qual : Str) (scope : Scope) (f : Addr) (k : Nat) (body : List Stmt) (b : DS) : Prop :=
  ∀ (cdv : Value) (A : Around) (outer : List Env) (s : Shared) (H : Hp) (E : XK), Rm k (A.deeper (envOfC qual scope s.heap.objs.size f cdv)) → PSs (cxOf (L2.CX P w) P w K mg base N qual scope f cdv A outer s H E) body (tS K (fun c d _ H' => E c d H') b)
/-- a def keeps the promise of its function on data, by the derivation of its body -/
theorem fn_ok {x qual : Str} {params : Arguments} {body : List Stmt} {scope : Scope} {dvs : List V} {kws : List (Str × V)} {f : Addr} {fd : FuncData} {N ps : List Str} {k : Nat} {b : DS} {dd : List D} (F : FunD K x qual params body scope dvs kws f fd) (S : FnScope N ps scope)
    (hD : ∀ w, Reps K w dvs dd) (hB : ∀ j, j ≤ dvs.length → ∃ ds, Vals (dvs.drop j) ds ∧ Binds K fd ps ds) (hbody : BodyD P w K mg base N qual scope f k body b) : FnD P w K mg base (k + 1) f (bodyM ps.length dd N.length b) := by
  intro A outer s H us vs Q E hr e0 r h
  obtain ⟨ds, so, u, rfl, rs, st, hp⟩ := h
  unfold bodyM argsD at hp
  have l1 := rs.length
  have l2 := (hD u).length
  split at hp
  · rename_i es he
    split at he
    · rename_i hc
      cases he
      obtain ⟨dv, rv, hb⟩ := hB (ds.length + dd.length - ps.length) (by omega)
      have rs2 := rs.append ((hD u).drop (ds.length + dd.length - ps.length))
      obtain ⟨oc, od, dV, kV, doc, pm, an, cdv, ct, osl, rfl, lk, hcd, hD1, hK⟩ := F.ex
      have hl : (vs ++ dvs.drop (ds.length + dd.length - ps.length)).length = ps.length := by
        rw [rs2.length, List.length_append, List.length_drop]
        omega
      have rr := r.append rv
      refine StX.run_bnd lk hcd S hr.rm e0 (G := fun xs H2 => xs = vs ++ dvs.drop (ds.length + dd.length - ps.length) ∧ H2 = u.H) (fun A' Ex Q' h => ?_) fun s2 H2 xs hx hr' => ?_
      · exact hb s us (e0.mod.kin.keeps fun b o e => (e0.bs b o e).1) (by rw [← rr.length]; exact hl) _ _ _ _ (h s u.H _ _ e0 Un.refl rfl (fun _ _ z => z) rr hl ⟨rfl, rfl⟩)
      · obtain ⟨rfl, rfl⟩ := hx
        exact ⟨_, hbody cdv A outer s2 u.H E (hr.deeper _), body_end rs2 st hp⟩
    · cases he
  · exact hp.elim
/-- .. without defaults -/
theorem fn_ok0 {x qual : Str} {params : Arguments} {body : List Stmt} {scope : Scope} {kws : List (Str × V)} {f : Addr} {fd : FuncData} {N ps : List Str} {k : Nat} {b : DS} (F : FunD K x qual params body scope [] kws f fd) (S : FnScope N ps scope)
    (hB : ∀ (kV doc pm : Value) (an : Option Addr) (cdv ct : Value) (us : List Value), us.length = ps.length → bindArgs (PySem.W.fnOf x qual params body scope .none kV doc pm an cdv ct) ⟨us, []⟩ = pure (ps.zip us)) (hbody : BodyD P w K mg base N qual scope f k body b) :
    FnD P w K mg base (k + 1) f (bodyM ps.length [] N.length b) :=
  fn_ok F S (fun _ => .nil) (fun j hj => ⟨[], by rw [List.drop_nil]; exact .nil, F.bindsN hB⟩) hbody
end
section
variable {X : Cx} {W : WX} {a b c o : Expr} {es : List Expr} {pos p apos : Pos} {ma mb mo : DE} {mr : DM (List D)} {m x : Str} {k : Nat} {f : Addr} {mf : DF}
theorem run_fnRD {pins : List (Addr × Obj)} {t : L2.St} {H : Hp} {s : Shared} {Q : VK} {E : XK} {us : List Value} {vs : List V} {sp : Sp} {CX : CXT} (F : FnG X.prog X.w X.K X.mg X.base CX k f sp) (hr : Rm k X.A) (hx : PassesAt CX X t E) (I : Inv X pins t H s) (r : Vals vs us) (h : sp vs H Q E) :
    wpAny (model X.prog X.w) X.A (call (.ref f) us) (EP X pins t Q) X.xe s := by
  refine wpAny_call (codeAny_mono (F X.A X.stack s H us vs Q E hr I.env0 r h) fun z s' hz => ?_)
  cases z with
  | error er => exact hx pins H s er s' I hz
  | ok fl =>
    cases fl with
    | ret u => exact I.after hz
    | _ => exact hz.elim
theorem sp_post {w : Wd} {s : Sto} {vs : List V} {dv : List D} {Q : VK} {E : XK} {K : Frag} (rs : Reps K w vs dv) (st : StR K w s) (hp : Post K (Rep K) w E Q (mf dv s)) : spD K mf vs w.H Q E := ⟨dv, s, w, rfl, rs, st, hp⟩
theorem sp_bind {w : Wd} {s : Sto} {r : En} {t : L2.St} {Q : VK} {K : Frag} (hp : Post K (Rep K) w (fun c d H' => W c d t H') Q (callM mf mr r s)) : Post K (Reps K) w (fun c d H' => W c d t H') (fun vs H1 => spD K mf vs H1 Q (WE W t)) (mr r s) := by
  unfold callM bindM at hp
  cases e : mr r s with
  | ok dv s1 =>
    rw [e] at hp
    exact fun vs w1 e1 st1 r1 => sp_post r1 st1 (Post.ext e1 hp)
  | exc C fs s1 => rw [e] at hp; exact hp
  | bad => rw [e] at hp; exact hp
/-- f(e, ..) -/
theorem e_call (tk : Takes X W) (F : FnD X.prog X.w X.K X.mg X.base k f mf) (hr : Rm k X.A) (hg : Gl X x) (hm : X.mg x = some (.ref f)) (hk : PySem.W.keepIn X.K (.ref f) = true)
    (ha : PA X (a :: es) (tA X.K W mr)) (hdb : (x == ("__debug__" : Str)) = false := by decide) (he : starEach (a :: es) X.env = (false, eval a X.env) :: starEach es X.env := by rfl) (hpl : (backTo pos (starEach es X.env)).any (·.1) = false := by rfl) :
    PE X (.Call (.Name x p) (a :: es) [] pos) (tE X.K W (callM mf mr)) := by
  refine ⟨fun pins s t H Q I h => ?_⟩
  obtain ⟨r, so, w, rfl, env, st, hp⟩ := h
  refine wpAny_Call_Name_kw (ld_glob I hg hm ?_ hdb)
  refine PySem.W.callWith_K (h₀ := X.base) I.ok.mod.kin hk (thn (ha.run pos pins s t w.H _ I ⟨r, so, w, rfl, env, st, sp_bind hp⟩) fun us s1 ⟨vs, H1, I1, rv, q⟩ => ⟨I1.kIn, ?_⟩) he hpl
  exact run_fnRD F hr (passAt tk t) I1 rv q
theorem e_call0 (tk : Takes X W) (F : FnD X.prog X.w X.K X.mg X.base k f mf) (hr : Rm k X.A) (hg : Gl X x) (hm : X.mg x = some (.ref f)) (hk : PySem.W.keepIn X.K (.ref f) = true)
    (hdb : (x == ("__debug__" : Str)) = false := by decide) : PE X (.Call (.Name x p) [] [] pos) (tE X.K W (callM mf nilA)) := by
  refine ⟨fun pins s t H Q I h => ?_⟩
  obtain ⟨r, so, w, rfl, env, st, hp⟩ := h
  refine wpAny_Call_Name_kw (ld_glob I hg hm ?_ hdb)
  exact PySem.W.callWith_K0 I.kIn hk (run_fnRD (us := []) (vs := []) F hr (passAt tk t) I .nil (sp_post .nil st hp))
/-! attributes -/
structure PropD (X : Cx) (C : Str) (f : Str) (m : DF) : Prop where
  cls : Cls X.K (He.ga X.K C)
  ex : ∃ (q g : Addr) (k : Nat), PropOf X.K (He.ga X.K C) f q g ∧ FnD X.prog X.w X.K X.mg X.base k g m ∧ Rm (k + 1) X.A
inductive ATab (X : Cx) (f : Str) : List (Str × Ak) → Prop
  | nil : ATab X f []
  | fld {C : Str} {r : List (Str × Ak)} : Cls X.K (He.ga X.K C) → NoAttr X.K (He.ga X.K C) f → ATab X f r → ATab X f ((C, .fld) :: r)
  | prop {C : Str} {m : DF} {r : List (Str × Ak)} : PropD X C f m → (∀ d s C fs s', m [d] s ≠ .exc C fs s') → ATab X f r → ATab X f ((C, .prop m) :: r)
  | con {C : Str} {d : D} {v : V} {u : Value} {r : List (Str × Ak)} : Cls X.K (He.ga X.K C) → Con X.K (He.ga X.K C) f v u → (∀ w, Rep X.K w v d) → ATab X f r → ATab X f ((C, .con d) :: r)
def AkOk (X : Cx) (f C : Str) : Ak → Prop
  | .fld => Cls X.K (He.ga X.K C) ∧ NoAttr X.K (He.ga X.K C) f
  | .prop m => PropD X C f m ∧ ∀ d s C fs s', m [d] s ≠ .exc C fs s'
  | .con d => Cls X.K (He.ga X.K C) ∧ ∃ v u, Con X.K (He.ga X.K C) f v u ∧ ∀ w, Rep X.K w v d
theorem ATab.get {f C : Str} {kd : Ak} : ∀ {tb : List (Str × Ak)}, ATab X f tb → tb.lookup C = some kd → AkOk X f C kd
  | _, .nil, h => by simp at h
  | _, .fld (C := E) h1 h2 r, h => by
    by_cases e : C = E
    · subst e
      rw [List.lookup_cons_self] at h
      cases h
      exact ⟨h1, h2⟩
    · have hb : (C == E) = false := by simpa using e
      rw [List.lookup_cons, hb] at h
      exact r.get h
  | _, .prop (C := E) h1 h2 r, h => by
    by_cases e : C = E
    · subst e
      rw [List.lookup_cons_self] at h
      cases h
      exact ⟨h1, h2⟩
    · have hb : (C == E) = false := by simpa using e
      rw [List.lookup_cons, hb] at h
      exact r.get h
  | _, .con (C := E) h1 h2 h3 r, h => by
    by_cases e : C = E
    · subst e
      rw [List.lookup_cons_self] at h
      cases h
      exact ⟨h1, _, _, h2, h3⟩
    · have hb : (C == E) = false := by simpa using e
      rw [List.lookup_cons, hb] at h
      exact r.get h
/-! methods -/
structure MethD (X : Cx) (C m : Str) (mf : DF) : Prop where
  cls : Cls X.K (He.ga X.K C)
  ex : ∃ (g : Addr) (k : Nat), Meth X.K (He.ga X.K C) m g ∧ FnD X.prog X.w X.K X.mg X.base k g mf ∧ Rm k X.A
inductive MTab (X : Cx) (m : Str) : List (Str × DF) → Prop
  | nil : MTab X m []
  | cons {C : Str} {f : DF} {r : List (Str × DF)} : MethD X C m f → MTab X m r → MTab X m ((C, f) :: r)
theorem MTab.get {C : Str} {f : DF} : ∀ {tb : List (Str × DF)}, MTab X m tb → tb.lookup C = some f → MethD X C m f
  | _, .nil, h => by simp at h
  | _, .cons (C := E) h1 r, h => by
    by_cases e : C = E
    · subst e
      rw [List.lookup_cons_self] at h
      cases h
      exact h1
    · have hb : (C == E) = false := by simpa using e
      rw [List.lookup_cons, hb] at h
      exact r.get h
/-- o.m( *e) -/
structure MethB (X : Cx) (C m : Str) (mf : DF) : Prop where
  cls : Cls X.K (He.ga X.K C)
  ex : ∃ (g : Addr) (k : Nat), BMeth X.K (He.ga X.K C) m g ∧ FnD X.prog X.w X.K X.mg X.base k g mf ∧ Rm k X.A
inductive BTab (X : Cx) (m : Str) : List (Str × DF) → Prop
  | nil : BTab X m []
  | cons {C : Str} {f : DF} {r : List (Str × DF)} : MethB X C m f → BTab X m r → BTab X m ((C, f) :: r)
theorem BTab.get {C : Str} {f : DF} : ∀ {tb : List (Str × DF)}, BTab X m tb → tb.lookup C = some f → MethB X C m f
  | _, .nil, h => by simp at h
  | _, .cons (C := E) h1 r, h => by
    by_cases e : C = E
    · subst e
      rw [List.lookup_cons_self] at h
      cases h
      exact h1
    · have hb : (C == E) = false := by simpa using e
      rw [List.lookup_cons, hb] at h
      exact r.get h
def starA (e : DE) : DM (List D) := bindM e fun x => fun _ s => match x with
  | .tup l => .ok l s
  | _ => .bad
/-! making -/
/-! o.f = e -/
end
end Mp
set_option Elab.async false
set_option linter.all false
set_option maxRecDepth 100000
set_option maxHeartbeats 4000000
/-! Mp: exceptions of the program: class C(B) whose __init__ says B.__init__(self, text) and stores one field or none. -/
namespace Mp
open PySem PySem.Spec PyProof.Rows L2
/-! ### the base -/
structure BaseX (B newId initId : String) (bm : List Value) : Prop where
  F : ExcBaseFacts B newId initId bm
  pass : ∀ self : Value, refuseLoop self "__setattr__" bm = pure ()
  ob : bm.contains (.type "object") = true
  boot : bootBuiltins (Str.ofString B) = some (.type B)
  typ : typeOf (.type B) = pure (.type "type")
  nn : Str.ofString B ≠ "__name__"
  nd : (Str.ofString B == ("__debug__" : Str)) = false
  stub : Manifest.isStub B = false
  hand : PySem.W.handedIn (.builtin initId) = true
  fnd : ∀ K : Frag, PySem.W.findCls K (.type B) (.type "type") "__init__" = some (.val (.builtin initId))
abbrev mValue : List Value := [.type "ValueError", .type "Exception", .type "BaseException", .type "object"]
abbrev mLookup : List Value := [.type "LookupError", .type "Exception", .type "BaseException", .type "object"]
abbrev mArith : List Value := [.type "ArithmeticError", .type "Exception", .type "BaseException", .type "object"]
abbrev mOver : List Value := [.type "OverflowError", .type "ArithmeticError", .type "Exception", .type "BaseException", .type "object"]
abbrev mRun : List Value := [.type "RuntimeError", .type "Exception", .type "BaseException", .type "object"]
theorem bxValue : BaseX "ValueError" "ValueError.__new__" "ValueError.__init__" mValue := ⟨F.excBase_ValueError, F.store_ValueError.passes, by decide +kernel, by decide +kernel, by kernel_rfl, by decide +kernel, by decide +kernel, by decide +kernel, by decide +kernel, fun K => by kernel_rfl⟩
theorem bxLookup : BaseX "LookupError" "LookupError.__new__" "LookupError.__init__" mLookup := ⟨F.excBase_LookupError, F.store_LookupError.passes, by decide +kernel, by decide +kernel, by kernel_rfl, by decide +kernel, by decide +kernel, by decide +kernel, by decide +kernel, fun K => by kernel_rfl⟩
theorem bxArith : BaseX "ArithmeticError" "ArithmeticError.__new__" "ArithmeticError.__init__" mArith := ⟨F.excBase_ArithmeticError, F.store_ArithmeticError.passes, by decide +kernel, by decide +kernel, by kernel_rfl, by decide +kernel, by decide +kernel, by decide +kernel, by decide +kernel, fun K => by kernel_rfl⟩
theorem bxOver : BaseX "OverflowError" "OverflowError.__new__" "OverflowError.__init__" mOver := ⟨F.excBase_OverflowError, F.store_OverflowError.passes, by decide +kernel, by decide +kernel, by kernel_rfl, by decide +kernel, by decide +kernel, by decide +kernel, by decide +kernel, fun K => by kernel_rfl⟩
theorem bxRun : BaseX "RuntimeError" "RuntimeError.__new__" "RuntimeError.__init__" mRun := ⟨F.excBase_RuntimeError, F.store_RuntimeError.passes, by decide +kernel, by decide +kernel, by kernel_rfl, by decide +kernel, by decide +kernel, by decide +kernel, by decide +kernel, fun K => by kernel_rfl⟩
/-! ### the class -/
def exB (K : Frag) (C : Addr) (bm : List Value) (newId : String) : Bool := match K.lookup C with
  | some ⟨.type c, _, .cls cd, sl⟩ => decide (c = "type") && (cd.hasDict && (!cd.hasDel && (decide (cd.mro = .ref C :: bm) && (match sl.toList with
    | [_, _, _, _, some (.builtin n), _] => decide (n = newId)
    | _ => false))))
  | _ => false
theorem exB_ok {K : Frag} {C : Addr} {bm : List Value} {newId : String} (h : exB K C bm newId = true) : ∃ nm q N bs sn sub ab col dd k0 k1 k2 k3 k5, K.lookup C = some (excClassObj nm q C N bs bm true sn sub ab col dd k0 k1 k2 k3 k5 newId) := by
  unfold exB at h
  cases e : K.lookup C with
  | none => rw [e] at h; cases h
  | some o =>
    obtain ⟨oc, od, dt, sl⟩ := o
    rw [e] at h
    cases oc with
    | type c =>
      cases dt with
      | cls cd =>
        obtain ⟨h1, h⟩ := He.ba h
        obtain ⟨h2, h⟩ := He.ba h
        obtain ⟨h3, h⟩ := He.ba h
        obtain ⟨h4, h5⟩ := He.ba h
        have e1 := of_decide_eq_true h1
        have e4 := of_decide_eq_true h4
        have e3 : cd.hasDel = false := by simpa using h3
        obtain ⟨nm, bs, mro, ns, qn, hd, sn, sub, ab, col, del⟩ := cd
        dsimp only at h2 e3 e4
        subst e1 e3 e4 h2
        obtain ⟨sl⟩ := sl
        dsimp only at h5
        split at h5
        · have e5 := of_decide_eq_true h5
          subst e5
          exact ⟨nm, qn, ns, bs, sn, sub, ab, col, od, _, _, _, _, _, rfl⟩
        · cases h5
      | _ => cases h
    | _ => cases dt <;> cases h
structure OexB (K : Frag) (C : Addr) (B newId initId : String) (bm : List Value) : Prop where
  base : BaseX B newId initId bm
  cls : ∃ nm q N bs sn sub ab col dd k0 k1 k2 k3 k5, K.lookup C = some (excClassObj nm q C N bs bm true sn sub ab col dd k0 k1 k2 k3 k5 newId)
  sa : PySem.W.findIn K (.ref C) "__setattr__" = some (some (.builtin "object.__setattr__"))
  exC : PySem.W.subIn K (.ref C) (.type "BaseException") = some true
  tyC : PySem.W.typeIn K (.ref C) = some (.type "type")
  kC : PySem.W.keepIn K (.ref C) = true
section
open Builtin Builtin.ObjectAttr PySem.HandSPX
variable {prog : Program} {w : World} {A : Around} {E : Value → Shared → Prop} {R : Result → Shared → Prop} {hp : Heap} {g : Array GenState} {d : Drawn} {t : Nat} {os : OsState}
/-- self.name = v, the first one, on an exception -/
theorem exc_store {K : Frag} {name : Str} {tk : Tok} {v : Value} {x C : Addr} {fv : Array Value} {cd : ClassData} (X : K.In hp) (hx : hp.get? x = some { cls := .ref C, data := .fields fv }) (hcd : W.clsIn K C = some cd)
    (hne : cd.mro.isEmpty = false) (hob : cd.mro.contains (.type "object") = true) (hps : ∀ self, refuseLoop self "__setattr__" cd.mro = pure ()) (hh : cd.hasDict = true) (ha : W.findIn K (.ref C) name = some none)
    (hq : ∀ h' tk' dx, (∀ b o, b ≠ x → hp.get? b = some o → h'.get? b = some o) → hp.objs.size ≤ dx → dx ≠ x → h'.get? x = some { cls := .ref C, dict := some dx, data := .fields fv } → h'.Ns1 dx (fun y => if y = name then some v else none) → R (.ok (.ret .none)) ⟨h', g, d, tk', os⟩) :
    codeAny (model prog w) A (.call (.builtin "object.__setattr__") ⟨[.ref x, .str name tk, v], []⟩) R ⟨hp, g, d, t, os⟩ := by
  have J : W.InstAt hp x { cls := .ref C, data := .fields fv } C none := ⟨hx, rfl, rfl, trivial⟩
  have nx : x ≠ hp.objs.size := Nat.ne_of_lt (Heap.lt_size hx)
  have sub : W.Looks (model prog w) hp (isInstance (.ref x) (.type "object")) true := J.type.andThen (W.looks_mroIn X (by unfold W.mroIn; rw [hcd, Option.bind_some, if_neg (by rw [hne]; decide), hob]))
  refine codeAny_call_builtin F.store_object.slot.plain F.store_object.entry (@W.check_slot (model prog w) _ _ ⟨hp, g, d, t, os⟩ "object.__setattr__" "object" "__setattr__" (.ref x) [.str name tk, v] [] _ F.store_object.kind F.store_object.split sub (F.store_object.args _ _ _) ?_)
  have lm : W.Looks (model prog w) hp (mroOf (.ref C)) cd.mro := (W.looks_clsIn X hcd).andThen .now
  have ln : W.Looks (model prog w) hp (storeTaker? none) none := .now
  have lc : W.Looks (model prog w) hp (classData C) cd := W.looks_clsIn X hcd
  rw [W.osa_eq, refuse_eq]
  refine wpAny_bind (wpAny_bind (J.type.at (wpAny_bind (lm.at ?_))))
  rw [hps]
  refine wpAny_pure (wpAny_bind (J.type.at (wpAny_bind ((W.looks_findIn X ha).at (wpAny_bind (ln.at ?_))))))
  show wpAny _ _ (storeInOwnDict (.ref x) (.ref C) (.str name tk) name v false) _ _ _
  obtain ⟨nm, bs, mro, ns, qn, hd, sn, sb, ab, col, del⟩ := cd
  cases (show hd = true from hh)
  unfold storeInOwnDict ownDictForStores
  repeat (first | with_reducible refine store_in_new ?_ ?_ | with_reducible refine wpAny_loadPart_at hx ?_ | with_reducible refine lc.at ?_ | wp_step)
  · exact ⟨_, #[], _, (Heap.get?_update_ne _ _ _ _ nx.symm).trans (Heap.get?_push_at rfl rfl), rfl, fun e he => absurd he (by simp), fun _ => rfl⟩
  · intro h' tk' hn' hs
    refine hq h' tk' hp.objs.size (fun b o hb ho => (hs.2 b (Nat.ne_of_lt (Heap.lt_size ho))).trans ((Heap.get?_update_ne _ _ _ _ hb).trans (Heap.get?_push_of_some _ ho))) (Nat.le_refl _) nx.symm ?_ hn'
    exact (hs.2 x nx).trans (Heap.get?_update_self _ (Heap.get?_push_of_some _ hx) rfl)
end
section
variable {X : Cx} {pins : List (Addr × Obj)} {t : L2.St} {H : Hp} {s : Shared} {a C : Addr} {f : Str} {y : V} {u : Value} {Q : Unit → Shared → Prop} {E : Value → Shared → Prop} {A : Around} {B newId initId : String} {bm : List Value}
theorem ostB (T : OexB X.K C B newId initId bm) (I : Inv X pins t H s) (e : H a = some (exo a C none)) (hno : PySem.W.findIn X.K (.ref C) f = some none) (ry : RelV y u)
    (h : ∀ dx s', H dx = none → dx ≠ a → Inv X pins t (upd (upd H dx (exd dx [(f, y)])) a (exo a C (some dx))) s' → Q () s') : wpAny (model X.prog X.w) A (setAttr (.ref a) f u) Q E s := by
  obtain ⟨nm, q, N, bs, sn, sub, ab, col, dd, k0, k1, k2, k3, k5, hC⟩ := T.cls
  have hcl : PySem.W.clsIn X.K C = some { name := nm, bases := bs, mro := .ref C :: bm, ns := N, qualname := q, hasDict := true, slotNames := sn, subclasses := sub, abstract := ab, collection := col, hasDel := false } := by
    unfold PySem.W.clsIn
    rw [hC] <;> rfl
  obtain ⟨t1, ho⟩ := exo_at I.hok e
  obtain ⟨hp, g, d, tk, os⟩ := s
  refine PySem.W.set_plain I.kIn (ox := { cls := .ref C, dict := none, data := .fields #[.ref t1, .none, .none, .none, .bool false, .none] }) (od := none) ⟨ho, rfl, rfl, trivial⟩ T.sa ?_
  refine exc_store I.kIn ho hcl rfl (by show (Value.ref C :: bm).contains (.type "object") = true; rw [List.contains_cons, T.base.ob, Bool.or_true]) (fun self => (refuseLoop_ref self "__setattr__" C bm).trans (T.base.pass self)) rfl hno fun h' tk' dx k dn dne hx hn => ?_
  have hnd : H dx = none := I.hok.fresh dn
  have nd : ∀ {b : Addr} {o : Obj}, hp.get? b = some o → b ≠ dx := fun {b o} z => Nat.ne_of_lt (Nat.lt_of_lt_of_le (Heap.lt_size z) dn)
  have na : ∀ {b : Addr}, H b = none → b ≠ a := fun {b} n z => by
    rw [z, e] at n
    cases n
  have U : Un X.fs [] H (upd (upd H dx (exd dx [(f, y)])) a (exo a C (some dx))) hp h' :=
    ⟨fun b o z n _ _ => k b o (na n) z, fun b o z n _ _ => ⟨o.slots, k b o (na n) z⟩, fun b o z n _ => by rw [upd_ne (na n), upd_ne (nd z)]; exact n,
      fun b o z _ => by
        by_cases hb : b = a
        · exact ⟨_, hb ▸ hx⟩
        · exact ⟨o, k b o hb z⟩,
      fun b xs z => by rw [upd_ne (at_ne e z exo_tup), upd_ne (ne_of_none z hnd)]; exact z, fun b o v z => by rw [upd_ne (at_ne e z exo_frz), upd_ne (ne_of_none z hnd)]; exact z,
      fun b ps z => ⟨#[], by rw [upd_ne (at_ne e z exo_tbl), upd_ne (ne_of_none z hnd), z]; simp⟩⟩
  refine h dx _ hnd dne (I.un (t' := tk') U fun b o z => ?_)
  by_cases hb : b = a
  · subst hb
    rw [upd_same] at z
    cases z
    exact exo_ok hx
  · rw [upd_ne hb] at z
    by_cases hd : b = dx
    · subst hd
      rw [upd_same] at z
      cases z
      exact exd_ok hn (relO_put (fs := []) ry fun _ => trivial)
    · rw [upd_ne hd] at z
      refine (I.hok b o z).stay (fun c v hc y => k c v (hc.elim (fun hc => hc ▸ hb) fun hc => at_ne e hc exo_own) y) (fun c hc => ?_) fun c xs hc => ?_
      · rw [upd_ne (at_ne e hc exo_own), upd_ne (ne_of_none hc hnd)]
        exact hc
      · rw [upd_ne (at_ne e hc exo_tup), upd_ne (ne_of_none hc hnd)]
        exact hc
theorem oinitB {us : List Value} {Q : Value → Shared → Prop} (T : OexB X.K C B newId initId bm) (I : Inv X pins t H s) (e : H a = some (exo a C none)) (hl : us.length ≤ sizeLine) (h : ∀ s', Inv X pins t H s' → Q .none s') : wpAny (model X.prog X.w) A (call (.builtin initId) (.ref a :: us)) Q E s := by
  obtain ⟨nm, q, N, bs, sn, sub, ab, col, dd, k0, k1, k2, k3, k5, hC⟩ := T.cls
  obtain ⟨t1, ho⟩ := exo_at I.hok e
  obtain ⟨hp, g, d, tk, os⟩ := s
  refine wpAny_call (PySem.HandSPX.init_base T.base.F (fun _ => rfl) (I.kIn _ _ hC) ho hl fun h' t2 k hx => ?_)
  have J := I.write (t' := tk) (x := a) (e := a) (o := exo a C none) (by rw [e]; exact trivial) (.inl rfl) k ⟨_, hx⟩ (exo_ok hx)
  have eu : upd H a (exo a C none) = H := by
    funext b
    by_cases hb : b = a
    · rw [hb, upd_same, e]
    · rw [upd_ne hb]
  exact h _ (eu ▸ J)
end
section
variable {X : Cx} {o e : Expr} {es : List Expr} {to te : TE} {ta : TA} {f : Str} {p p' p1 p2 pos : Pos} {B newId initId : String} {bm : List Value}
/-- B.__init__(self, ..) -/
def tIniB (K : Frag) (B newId initId : String) (bm : List Value) (ta : TA) : TE := fun t H Q => ta t H fun vs H1 => ∃ (a C : Addr) (ws : List V), vs = .ref a :: ws ∧ ws.length ≤ 1000 ∧ OexB K C B newId initId bm ∧ H1 a = some (exo a C none) ∧ Q .non H1
theorem pe_initB {pl : Sem Bool} (hB : BaseX B newId initId bm) (hg : Gl X (Str.ofString B)) (hm : X.mg (Str.ofString B) = none) (ha : PA X (e :: es) ta)
    (hc : eval (.Call (.Attribute (.Name (Str.ofString B) p1) "__init__" p2) (e :: es) [] pos) X.env = (eval (.Name (Str.ofString B) p1) X.env >>= fun ov => standAt p2.atName >>= fun _ => holding [ov] (getMethod ov "__init__" pl) >>= fun z => callWith pos z.1 z.2 (backTo pos (starEach (e :: es) X.env)) (backToKw pos (keywordEach [] X.env))) := by rfl)
    (he : starEach (e :: es) X.env = (false, eval e X.env) :: starEach es X.env := by rfl) (hpl : (backTo pos (starEach es X.env)).any (·.1) = false := by rfl) :
    PE X (.Call (.Attribute (.Name (Str.ofString B) p1) "__init__" p2) (e :: es) [] pos) (tIniB X.K B newId initId bm ta) := by
  refine ⟨fun pins s t H Q I h => ?_⟩
  refine PySem.W.methodCall_KW (ld_blt I hg hm hB.boot ?_ hB.nn hB.nd) hc
  obtain ⟨m, fr⟩ := I.fr
  refine PySem.W.method_type fr I.ok.mod.kin hB.typ hB.stub (hB.fnd X.K) hB.hand ?_
  show wpAny _ _ (callWith pos (Value.builtin initId) [] (backTo pos (starEach (e :: es) X.env)) []) _ _ _
  refine PyProof.Rows.callWith_method1 (thn (ha.run pos pins _ t H _ (I.tok _) h) fun us s1 z => ?_) he hpl
  obtain ⟨vs, H1, I1, r1, a, C, ws, rfl, hl, T, ea, q⟩ := z
  cases r1 with
  | @cons _ u0 _ ur ra rr =>
    obtain rfl : u0 = Value.ref a := ra
    exact oinitB T I1 ea (by rw [← Paired.length rr, sizeLine_eq]; omega) fun s' J => ⟨.non, H1, J, rfl, q⟩
/-- self.f = e, on an exception that has no field yet -/
def tOstB (K : Frag) (B newId initId : String) (bm : List Value) (f : Str) (to te : TE) : TS := fun E t H => te t H fun y H1 => to t H1 fun x H2 => ∃ a C : Addr, x = .ref a ∧ OexB K C B newId initId bm ∧ PySem.W.findIn K (.ref C) f = some none ∧ H2 a = some (exo a C none) ∧
  ∀ dx, H2 dx = none → dx ≠ a → E.nx t (upd (upd H2 dx (exd dx [(f, y)])) a (exo a C (some dx)))
theorem ps_ostB (ho : PE X o to) (he : PE X e te) (hs : swapsWith e (some (.Attribute o f p')) pos.line X.env = pure false := by rfl) : PS X (.Assign [.Attribute o f p'] e pos) (tOstB X.K B newId initId bm f to te) := by
  refine ⟨fun pins s t H E I h => ?_⟩
  refine plainObj_wpAny_Assign_Attribute (thn (he.run pins s t H _ I h) fun v s1 z1 => ?_) hs
  obtain ⟨y, H1, I1, r1, q1⟩ := z1
  refine thn (ho.run pins s1 t H1 _ I1 q1) fun u s2 z2 => ?_
  obtain ⟨x, H2, I2, r2, a, C, rfl, T, hno, ea, q⟩ := z2
  obtain rfl : u = Value.ref a := r2
  exact ostB T I2 ea hno r1 fun dx s' n ne J => ⟨t, _, J, q dx n ne⟩
end
/-! ### __init__ -/
/-- with one field: B.__init__(self, text); self.f = f -/
def spI1 (C : Addr) (f : Str) : Sp := fun vs H Q _ => ∃ (a : Addr) (v : V), vs = [.ref a, v] ∧ H a = some (exo a C none) ∧ ∀ dx, H dx = none → dx ≠ a → Q .non (upd (upd H dx (exd dx [(f, v)])) a (exo a C (some dx)))
def spI0 (C : Addr) : Sp := fun vs H Q _ => ∃ a : Addr, vs = [.ref a] ∧ H a = some (exo a C none) ∧ Q .non H
section
variable {P : Program} {w : World} {K : Frag} {mg : Str → Option Value} {base : Heap} {B newId initId : String} {bm : List Value} {x qual f : Str} {params : Arguments} {scope : Scope} {g C : Addr} {fd : FuncData} {z : Str} {p0 p1 p2 p3 p4 p5 p6 p7 p8 p9 : Pos} {j : Nat}
theorem init_eq {env : Env} (hL : (p2.endLine == p5.line) = true) : eval (.Call (.Attribute (.Name (Str.ofString B) p1) "__init__" p2) [.Name "self" p3, .Constant (.str z) j p4] [] p5) env = (eval (.Name (Str.ofString B) p1) env >>= fun ov => standAt p2.atName >>= fun _ => holding [ov] (getMethod ov "__init__" (plainOf (.Name (Str.ofString B) p1) env)) >>= fun q => callWith p5 q.1 q.2 (backTo p5 (starEach [.Name "self" p3, .Constant (.str z) j p4] env)) (backToKw p5 (keywordEach [] env))) := by
  show (eval (.Name (Str.ofString B) p1) env >>= fun ov => standAt p2.atName >>= fun _ => methodCall (.Name (Str.ofString B) p1) "__init__" p2 p5 env ov 2 (backTo p5 (starEach [.Name "self" p3, .Constant (.str z) j p4] env)) (backToKw p5 (keywordEach [] env))) = _
  congr 1
  funext ov
  congr 1
  funext _
  rw [mcall_line (n := 2) rfl hL]
theorem fn_init1 (F : FunD K x qual params [.Expr (.Call (.Attribute (.Name (Str.ofString B) p1) "__init__" p2) [.Name "self" p3, .Constant (.str z) j p4] [] p5) p6, .Assign [.Attribute (.Name "self" p7) f p8] (.Name f p9) p0] scope [] [] g fd) (S : FnScope ["self", f] ["self", f] scope)
    (hL : (p2.endLine == p5.line) = true) (hG : scope.names.lookup (Str.ofString B) = some .globalImplicit) (h1 : (f == ("__debug__" : Str)) = false) (h2 : (f == ("__classdict__" : Str)) = false) (hm : mg (Str.ofString B) = none) (T : OexB K C B newId initId bm) (hno : PySem.W.findIn K (.ref C) f = some none) :
    FnOk P w K mg base (L2.CX P w) 1 g fd ["self", f] (spI1 C f) := by
  refine F.ok S (fun vs H Q E h => ?_) (fun cdv A outer s H vs Q E hr h => ?_)
  · obtain ⟨a, v, rfl, _⟩ := h
    rfl
  · obtain ⟨a, v, rfl, ea, q⟩ := h
    have v0 : Vis scope "self" := (S.par "self" (by simp)).elim .inl fun h => .inr (.inl h)
    have v1 : Vis scope f := (S.par f (by simp)).elim .inl fun h => .inr (.inl h)
    refine ⟨_, pss_cons (ps_expr (pe_initB (pl := plainOf (.Name (Str.ofString B) p1) _) T.base hG hm (pa_cons (pe_var (i := 0) rfl v0) (pa_cons pe_str pa_nil)) (init_eq hL))) (pss_one (ps_ostB (B := B) (newId := newId) (initId := initId) (bm := bm) (pe_var (i := 0) rfl v0) (pe_var (i := 1) rfl v1 h1 h2))), ?_⟩
    exact ⟨_, rfl, a, C, _, rfl, by show 1 ≤ 1000; decide, T, ea, _, rfl, _, rfl, a, C, rfl, T, hno, ea, q⟩
theorem fn_init0 (F : FunD K x qual params [.Expr (.Call (.Attribute (.Name (Str.ofString B) p1) "__init__" p2) [.Name "self" p3, .Constant (.str z) j p4] [] p5) p6] scope [] [] g fd) (S : FnScope ["self"] ["self"] scope)
    (hL : (p2.endLine == p5.line) = true) (hG : scope.names.lookup (Str.ofString B) = some .globalImplicit) (hm : mg (Str.ofString B) = none) (T : OexB K C B newId initId bm) : FnOk P w K mg base (L2.CX P w) 1 g fd ["self"] (spI0 C) := by
  refine F.ok S (fun vs H Q E h => ?_) (fun cdv A outer s H vs Q E hr h => ?_)
  · obtain ⟨a, rfl, _⟩ := h
    rfl
  · obtain ⟨a, rfl, ea, q⟩ := h
    have v0 : Vis scope "self" := (S.par "self" (by simp)).elim .inl fun h => .inr (.inl h)
    refine ⟨_, pss_one (ps_expr (pe_initB (pl := plainOf (.Name (Str.ofString B) p1) _) T.base hG hm (pa_cons (pe_var (i := 0) rfl v0) (pa_cons pe_str pa_nil)) (init_eq hL))), ?_⟩
    exact ⟨_, rfl, a, C, _, rfl, by show 1 ≤ 1000; decide, T, ea, q⟩
end
end Mp
set_option Elab.async false
set_option linter.all false
set_option maxRecDepth 100000
set_option maxHeartbeats 4000000
/-! Mp: raise, try. -/
namespace Mp
open PySem PySem.Spec PyProof.Rows L2
section
variable {X : Cx} {pins : List (Addr × Obj)} {t : L2.St} {H1 H2 : Hp} {hp hp2 h2 : Heap} {g1 g2 : Array GenState} {d1 d2 : Drawn} {t1 t2 : Nat} {os1 os2 : OsState} {a C : Addr}
/-- an exception without fields is let go -/
theorem mk_none {Q : XK} (T : Raises X (.ref C)) (I1 : Inv X pins t H1 ⟨hp, g1, d1, t1, os1⟩) (ha : hp.objs.size ≤ a) (k : ∀ b o, hp.get? b = some o → hp2.get? b = some o) (un : Un (frs X.stack) [] (upd H1 a (exo a C none)) (upd H1 a (exo a C none)) hp2 h2)
    (hok : HOk X.prog X.w (upd H1 a (exo a C none)) h2) (ho : os2 = os1) (hb : AllBare g2) (q : Q (.ref C) none H1) : MkP X pins t Q (.ref a) ⟨h2, g2, d2, t2, os2⟩ := by
  obtain ⟨t0, hoe⟩ := exo_at hok (C := C) (e := a) upd_same
  have hn : H1 a = none := I1.hok.fresh ha
  obtain ⟨G, gk', gn'⟩ := restrict h2 fun b => decide (b ≠ a)
  have gk : ∀ b, b ≠ a → G.get? b = h2.get? b := fun b hb => gk' b (decide_eq_true hb)
  have ge : G.get? a = none := gn' a (by simp)
  have na : ∀ {b : Addr} {o : Obj}, hp.get? b = some o → b ≠ a := fun {b o} z => Nat.ne_of_lt (Nat.lt_of_lt_of_le (Heap.lt_size z) ha)
  have up : ∀ {b : Addr}, b ≠ a → H1 b = none → upd H1 a (exo a C none) b = none := fun {b} hb n => (upd_ne hb).trans n
  have U : Un (frs X.stack) [] H1 H1 hp G := ⟨fun b o z n hf hx => (gk b (na z)).trans (un.keep b o (k b o z) (up (na z) n) hf hx), fun b o z n hf hx => by
      rw [gk b (na z)]
      exact un.slot b o (k b o z) (up (na z) n) hf hx, fun b o z n hx => n, fun b o z hx => by
      rw [gk b (na z)]
      exact un.there b o (k b o z) hx, fun b xs z => z, fun b o v z => z, fun b ps z => ⟨#[], by rw [z]; simp⟩⟩
  have hok3 : HOk X.prog X.w H1 G := fun b o z => by
    have hba : b ≠ a := ne_of_none z hn
    refine (hok b o ((upd_ne hba).trans z)).stay (fun c v hc y => ?_) (fun c hc => ?_) fun c xs hc => ?_
    · have hca : c ≠ a := by
        rcases hc with hc | hc
        · exact hc ▸ hba
        · exact at_ne upd_same hc exo_own
      rw [gk c hca]
      exact y
    · rw [upd_ne (at_ne upd_same hc exo_own)] at hc
      exact hc
    · rw [upd_ne (at_ne upd_same hc exo_tup)] at hc
      exact hc
  have J : Inv X pins t H1 ⟨G, g2, d2, t2, os2⟩ := I1.call' (ch := []) ho U hok3 hb fun b z => absurd z (by simp)
  refine ⟨a, _, _, ⟨G, g2, d2, t2, os2⟩, H1, .ref C, none, rfl, J, fun b o z => ?_, ge, hoe, ⟨rfl, rfl⟩, rfl, rfl, hn, rfl, hb, T, q⟩
  by_cases hba : b = a
  · rw [hba, ge] at z
    cases z
  · exact (gk b hba).symm.trans z
end
section
variable {X : Cx} {e : Expr} {ta : TA} {f x : Str} {p pos : Pos} {B newId initId : String} {bm : List Value} {C fI : Addr} {k : Nat} {fd : FuncData}
/-- what the written part says of an exception's class and its __init__ -/
structure ExcD (X : Cx) (C : Addr) (B newId initId : String) (bm : List Value) (fI : Addr) : Prop where
  T : OexB X.K C B newId initId bm
  ini : PySem.W.findIn X.K (.ref C) "__init__" = some (some (.ref fI))
  fn : PySem.W.typeIn X.K (.ref fI) = some (.type "function")
theorem pmkB1 (T : ExcD X C B newId initId bm fI) (F1 : FnOk X.prog X.w X.K X.mg X.base (L2.CX X.prog X.w) k fI fd ["self", f] (spI1 C f)) (hr : Room (k + 1) X.A) (hb : Binds X.K fd ["self", f] []) (hg : Gl X x) (hm : X.mg x = some (.ref C)) (ha : PA X [e] ta)
    (hdb : (x == ("__debug__" : Str)) = false := by decide) (he : starEach [e] X.env = (false, eval e X.env) :: starEach [] X.env := by rfl) :
    PMk X (.Call (.Name x p) [e] [] pos) (fun t H Q => ta t H fun vs H1 => ∃ v, vs = [v] ∧ ∀ d, H1 d = none → Q (.ref C) (some d) (upd H1 d (.xd [(f, v)]))) := by
  intro pins s t H Q I h
  obtain ⟨nm, q, N, bs, sn, sub, ab, col, dd, k0, k1, k2, k3, k5, hC⟩ := T.T.cls
  refine wpAny_Call_Name_kw (ld_glob I hg hm ?_ hdb)
  refine PySem.W.callWith_K (h₀ := X.base) I.ok.mod.kin T.T.kC (thn (ha.run pos pins s t H _ I h) fun us s1 z => ?_) he rfl
  obtain ⟨vs, H1, I1, r1, v, rfl, q1⟩ := z
  refine ⟨I1.kIn, ?_⟩
  show wpAny _ _ (call (.ref C) us) _ _ _
  obtain ⟨hp, g, dr, tk, os⟩ := s1
  cases r1 with
  | @cons _ u _ _ ru rr =>
    cases rr
    have hsz : hp.objs.size ≤ hp.objs.size + 1 := Nat.le_succ _
    have hn : H1 (hp.objs.size + 1) = none := I1.hok.fresh hsz
    have kk : ∀ b o, hp.get? b = some o → ((hp.push (PySem.W.kdv_tup [u])).push (PySem.HandSPX.excO C hp.objs.size)).get? b = some o := fun b o z => Heap.get?_push_of_some _ (Heap.get?_push_of_some _ z)
    have hget : ((hp.push (PySem.W.kdv_tup [u])).push (PySem.HandSPX.excO C hp.objs.size)).get? (hp.objs.size + 1) = some (PySem.HandSPX.excO C hp.objs.size) := by heap_get
    have I2 := I1.laid (t' := tk) (a := hp.objs.size + 1) (o := exo (hp.objs.size + 1) C none) (h' := (hp.push (PySem.W.kdv_tup [u])).push (PySem.HandSPX.excO C hp.objs.size)) kk hsz (exo_ok hget)
    have rv : Vals [V.ref (hp.objs.size + 1), v] [Value.ref (hp.objs.size + 1), u] := .cons rfl (.cons ru .nil)
    have hq : spI1 C f [.ref (hp.objs.size + 1), v] (upd H1 (hp.objs.size + 1) (exo (hp.objs.size + 1) C none)) (fun z H2 => z = .non ∧ ∃ d, H1 d = none ∧ d ≠ hp.objs.size + 1 ∧ H2 = upd (upd (upd H1 (hp.objs.size + 1) (exo (hp.objs.size + 1) C none)) d (exd d [(f, v)])) (hp.objs.size + 1) (exo (hp.objs.size + 1) C (some d))) (fun _ _ _ => False) :=
      ⟨_, v, rfl, upd_same, fun dx ndx ne => ⟨rfl, dx, (upd_ne ne).symm.trans ndx, ne, rfl⟩⟩
    refine wpAny_call (PySem.HandSPX.call_own T.T.base.F (fun _ => rfl) (I1.kIn _ _ hC) (PySem.W.looks_findIn I1.kIn T.ini) (fun self => PySem.W.bind_fn I1.kIn self T.fn) (by show 1 ≤ sizeLine; decide)
      (codeAny_mono (F1.run _ X.stack _ _ ⟨[.ref (hp.objs.size + 1), u], []⟩ [.ref (hp.objs.size + 1), u] _ _ (fun _ _ _ => False) (hr.make C [u] []) (I2.env0.make C [u] []) (hb _ [.ref (hp.objs.size + 1), u] I2.kIn rfl) rv hq) fun r s' hz => ?_))
    cases r with
    | error er =>
      obtain ⟨_, _, _, _, _, _, _, _, _, _, _, _, z⟩ := hz
      exact z.elim
    | ok fl =>
      cases fl with
      | ret w =>
        obtain ⟨z, H2, osE, bareE, unE, hokE, rz, ez, d, nd, ne, eH⟩ := hz
        subst ez
        obtain ⟨h2, g2, d2, t2, os'⟩ := s'
        have ea : H2 (hp.objs.size + 1) = some (exo (hp.objs.size + 1) C (some d)) := by rw [eH, upd_same]
        have ed : H2 d = some (exd d [(f, v)]) := by rw [eH, upd_ne ne, upd_same]
        refine ⟨rz, mk_end (raises_own T.T.exC T.T.tyC) I1 hsz kk unE hokE osE bareE ea ed nd ?_⟩
        have eq : upd (del H2 (hp.objs.size + 1)) d (.xd [(f, v)]) = upd H1 d (.xd [(f, v)]) := by
          funext b
          by_cases hb : b = d
          · rw [hb, upd_same, upd_same]
          · rw [upd_ne hb, upd_ne hb]
            by_cases hb2 : b = hp.objs.size + 1
            · rw [hb2, del_same, hn]
            · rw [del_ne hb2, eH, upd_ne hb2, upd_ne hb, upd_ne hb2]
        rw [eq]
        exact q1 d nd
      | next => exact hz.elim
      | brk => exact hz.elim
      | cont => exact hz.elim
theorem pmkB0 (T : ExcD X C B newId initId bm fI) (F1 : FnOk X.prog X.w X.K X.mg X.base (L2.CX X.prog X.w) k fI fd ["self"] (spI0 C)) (hr : Room (k + 1) X.A) (hb : Binds X.K fd ["self"] []) (hg : Gl X x) (hm : X.mg x = some (.ref C)) (hdb : (x == ("__debug__" : Str)) = false := by decide) :
    PMk X (.Call (.Name x p) [] [] pos) (fun t H Q => Q (.ref C) none H) := by
  intro pins s t H1 Q I1 q1
  obtain ⟨nm, q, N, bs, sn, sub, ab, col, dd, k0, k1, k2, k3, k5, hC⟩ := T.T.cls
  refine wpAny_Call_Name_kw (ld_glob I1 hg hm ?_ hdb)
  refine PySem.W.callWith_K0 I1.kIn T.T.kC ?_
  show wpAny _ _ (call (.ref C) []) _ _ _
  obtain ⟨hp, g, dr, tk, os⟩ := s
  have hsz : hp.objs.size ≤ hp.objs.size + 1 := Nat.le_succ _
  have kk : ∀ b o, hp.get? b = some o → ((hp.push (PySem.W.kdv_tup [])).push (PySem.HandSPX.excO C hp.objs.size)).get? b = some o := fun b o z => Heap.get?_push_of_some _ (Heap.get?_push_of_some _ z)
  have hget : ((hp.push (PySem.W.kdv_tup [])).push (PySem.HandSPX.excO C hp.objs.size)).get? (hp.objs.size + 1) = some (PySem.HandSPX.excO C hp.objs.size) := by heap_get
  have I2 := I1.laid (t' := tk) (a := hp.objs.size + 1) (o := exo (hp.objs.size + 1) C none) (h' := (hp.push (PySem.W.kdv_tup [])).push (PySem.HandSPX.excO C hp.objs.size)) kk hsz (exo_ok hget)
  have rv : Vals [V.ref (hp.objs.size + 1)] [Value.ref (hp.objs.size + 1)] := .cons rfl .nil
  have hq : spI0 C [.ref (hp.objs.size + 1)] (upd H1 (hp.objs.size + 1) (exo (hp.objs.size + 1) C none)) (fun z H2 => z = .non ∧ H2 = upd H1 (hp.objs.size + 1) (exo (hp.objs.size + 1) C none)) (fun _ _ _ => False) := ⟨_, rfl, upd_same, rfl, rfl⟩
  refine wpAny_call (PySem.HandSPX.call_own T.T.base.F (fun _ => rfl) (I1.kIn _ _ hC) (PySem.W.looks_findIn I1.kIn T.ini) (fun self => PySem.W.bind_fn I1.kIn self T.fn) (by show 0 ≤ sizeLine; decide)
    (codeAny_mono (F1.run _ X.stack _ _ ⟨[.ref (hp.objs.size + 1)], []⟩ [.ref (hp.objs.size + 1)] _ _ (fun _ _ _ => False) (hr.make C [] []) (I2.env0.make C [] []) (hb _ [.ref (hp.objs.size + 1)] I2.kIn rfl) rv hq) fun r s' hz => ?_))
  cases r with
  | error er =>
    obtain ⟨_, _, _, _, _, _, _, _, _, _, _, _, z⟩ := hz
    exact z.elim
  | ok fl =>
    cases fl with
    | ret w =>
      obtain ⟨z, H2, osE, bareE, unE, hokE, rz, ez, eH⟩ := hz
      subst ez
      subst eH
      obtain ⟨h2, g2, d2, t2, os'⟩ := s'
      exact ⟨rz, mk_none (raises_own T.T.exC T.T.tyC) I1 hsz kk unE hokE osE bareE q1⟩
    | next => exact hz.elim
    | brk => exact hz.elim
    | cont => exact hz.elim
end
/-! ### on data -/
def raiseS (C f : Str) (m : DM (List D)) : DS := thenS m fun ds => fun r s => match ds with
  | [d] => .exc C [(f, d)] r s
  | _ => .bad
def raise0S (C : Str) : DS := fun r s => .exc C [] r s
section
end
end Mp
set_option Elab.async false
set_option linter.all false
set_option maxRecDepth 100000
set_option maxHeartbeats 4000000
/-! Mp: built-in functions. -/
namespace Mp
open PySem PySem.Spec PyProof.Rows L2
/-! ### on data -/
def absD (ds : List D) (s : Sto) : Res D := match ds with
  | [.int i] => .ok (.int (if i < 0 then -i else i)) s
  | _ => .bad
def intD (ds : List D) (s : Sto) : Res D := match ds with
  | [.int i] => .ok (.int i) s
  | [.bl b] => .ok (.int (if b then 1 else 0)) s
  | _ => .bad
def lenD (ds : List D) (s : Sto) : Res D := match ds with
  | [.str z] => if z.length ≤ sizeLine then .ok (.int (z.length : Nat)) s else .bad
  | [x] => (match seqOf s x with
    | some l => .ok (.int (l.length : Nat)) s
    | none => .bad)
  | _ => .bad
def listD (k : Bool) (ds : List D) (s : Sto) : Res D := match ds with
  | [x] => (match seqOf s x with
    | some l => newL k l s
    | none => .bad)
  | _ => .bad
inductive Tg where
  | bt (n : String) | own (C : Str)
def tagD (s : Sto) : D → Option Tg
  | .non => some (.bt "NoneType")
  | .bl _ => some (.bt "bool")
  | .int _ => some (.bt "int")
  | .str _ => some (.bt "str")
  | .tup _ => some (.bt "tuple")
  | .lst _ => some (.bt "list")
  | .dct _ => some (.bt "dict")
  | .ins C _ => some (.own C)
  | .cel n => (match s[n]? with
    | some (some (.lst _)) => some (.bt "list")
    | some (some (.dct _)) => some (.bt "dict")
    | some (some (.rod _)) => some (.bt "dict")
    | some (some (.ins C _)) => some (.own C)
    | _ => none)
  | _ => none
/-- which own classes are which: own of own, built-in of own (never), own of built-in -/
structure Isi where
  cs : List Str
  oo : List ((Str × Str) × Bool)
  bo : List Str
  ob : List ((Str × String) × Bool)
def isiT (it : Isi) : Tg → D → Option Bool
  | .bt a, .ty b => kitB a b
  | .bt _, .glo C => if C ∈ it.bo then some false else none
  | .own C, .glo E => if C ∈ it.cs then it.oo.lookup (C, E) else none
  | .own C, .ty b => if C ∈ it.cs then it.ob.lookup (C, b) else none
  | _, _ => none
def isiD (it : Isi) (ds : List D) (s : Sto) : Res D := match ds with
  | [x, c] => (match tagD s x with
    | some t => (match isiT it t c with
      | some b => .ok (.bl b) s
      | none => .bad)
    | none => .bad)
  | _ => .bad
/-! ### soundness -/
def VRC (K : Frag) (r : List V → Hp → VK → Prop) (f : DF) : Prop := ∀ w s xs ds Q E, StR K w s → Reps K w xs ds → Post K (Rep K) w E Q (f ds s) → r xs w.H Q
section
variable {X : Cx} {W : WX} {a : Expr} {es : List Expr} {pos p : Pos} {mr : DM (List D)} {x : Str} {f : DF} {r : List V → Hp → VK → Prop} {id T : String}
theorem e_callB (hc : CallR X (.builtin id) r) (hv : VRC X.K r f) (hg : Gl X x) (hm : X.mg x = none) (hb : bootBuiltins x = some (.builtin id)) (ha : PA X (a :: es) (tA X.K W mr)) (hn : x ≠ "__name__" := by decide) (hdb : (x == ("__debug__" : Str)) = false := by decide)
    (he : starEach (a :: es) X.env = (false, eval a X.env) :: starEach es X.env := by rfl) (hpl : (backTo pos (starEach es X.env)).any (·.1) = false := by rfl) : PE X (.Call (.Name x p) (a :: es) [] pos) (tE X.K W (argM f mr)) :=
  PE.imp (pe_callB hc hg hm hb ha hn hdb he hpl) fun t H Q h => by
    obtain ⟨r, s, w, rfl, env, st, hp⟩ := h
    exact hp.bind env st fun vs ds s1 w1 e1 st1 r1 hp1 => hv w1 s1 vs ds Q _ st1 r1 hp1
theorem e_callTy (hc : CallR X (.type T) r) (hv : VRC X.K r f) (hg : Gl X x) (hm : X.mg x = none) (hb : bootBuiltins x = some (.type T)) (ha : PA X (a :: es) (tA X.K W mr)) (hn : x ≠ "__name__" := by decide) (hdb : (x == ("__debug__" : Str)) = false := by decide)
    (he : starEach (a :: es) X.env = (false, eval a X.env) :: starEach es X.env := by rfl) (hpl : (backTo pos (starEach es X.env)).any (·.1) = false := by rfl) : PE X (.Call (.Name x p) (a :: es) [] pos) (tE X.K W (argM f mr)) :=
  PE.imp (pe_callTy hc hg hm hb ha hn hdb he hpl) fun t H Q h => by
    obtain ⟨r, s, w, rfl, env, st, hp⟩ := h
    exact hp.bind env st fun vs ds s1 w1 e1 st1 r1 hp1 => hv w1 s1 vs ds Q _ st1 r1 hp1
theorem v_abs : VRC X.K (fun xs H Q => ∃ i, xs = [.int i] ∧ Q (.int (if i < 0 then -i else i)) H) absD := fun w s xs ds Q E st rs hp => by
  unfold absD at hp
  split at hp
  · cases rs with | cons q r => cases q; cases r; exact ⟨_, rfl, hp.pure st (.int _)⟩
  · exact hp.elim
theorem v_int : VRC X.K (fun xs H Q => (∃ i, xs = [.int i] ∧ Q (.int i) H) ∨ ∃ k, xs = [.bl k] ∧ Q (.int (if k then 1 else 0)) H) intD := fun w s xs ds Q E st rs hp => by
  unfold intD at hp
  split at hp
  · cases rs with | cons q r => cases q; cases r; exact .inl ⟨_, rfl, hp.pure st (.int _)⟩
  · cases rs with | cons q r => cases q; cases r; exact .inr ⟨_, rfl, hp.pure st (.int _)⟩
  · exact hp.elim
theorem v_len : VRC X.K (fun xs H Q => ∃ x n, xs = [x] ∧ LenV X.K x H n ∧ Q (.int (n : Nat)) H) lenD := fun w s xs ds Q E st rs hp => by
  unfold lenD at hp
  split at hp
  · cases rs with
    | cons q r =>
      cases q
      cases r
      split at hp
      · rename_i z hl
        exact ⟨_, _, rfl, ⟨hl, rfl⟩, hp.pure st (.int _)⟩
      · exact hp.elim
  · cases rs with
    | cons q r =>
      cases r
      split at hp
      · rename_i l el
        obtain ⟨p, vs, rfl, hq, rs⟩ := seqOf_ok st q el
        refine ⟨_, vs.length, rfl, ?_, by rw [rs.length]; exact hp.pure st (.int _)⟩
        rcases hq with hq | hq
        · exact .inl ⟨vs, hq, rfl⟩
        · exact .inr ⟨vs, hq, rfl⟩
      · exact hp.elim
  · exact hp.elim
theorem v_list {k : Bool} : VRC X.K (fun xs H Q => ∃ p ys, xs = [.ref p] ∧ (SqL X.K H p ys ∨ SqT X.K H p ys) ∧ ∀ l, H l = none → Q (.ref l) (upd H l (.lst ys))) (listD k) := fun w s xs ds Q E st rs hp => by
  unfold listD at hp
  split at hp
  · cases rs with
    | cons q r =>
      cases r
      split at hp
      · rename_i l el
        obtain ⟨p, vs, rfl, hq, rs⟩ := seqOf_ok st q el
        exact ⟨p, vs, rfl, hq, hp.newL st rs⟩
      · exact hp.elim
  · exact hp.elim
/-! isinstance -/
end
end Mp
set_option Elab.async false
set_option linter.all false
set_option maxRecDepth 100000
set_option maxHeartbeats 4000000
/-! Mp: dicts, stores by key or place, x op= e, append. -/
namespace Mp
open PySem PySem.Spec PyProof.Rows L2
/-! ### on data -/
def putA {T U : Type} [DecidableEq T] (l : List (T × U)) (k : T) (v : U) : List (T × U) := if (l.any fun p => decide (p.1 = k)) = true then l.map (fun p => if p.1 = k then (p.1, v) else p) else l ++ [(k, v)]
def mergeA {T U : Type} [DecidableEq T] (l more : List (T × U)) : List (T × U) := more.foldl (fun acc p => putA acc p.1 p.2) l
def pairsM : List (DE × DE) → DM (List (D × D))
  | [] => pureM []
  | (k, v) :: r => bindM k fun x => bindM v fun y => bindM (pairsM r) fun l => pureM ((x, y) :: l)
def keyed : List (D × D) → Option (List (Key × D))
  | [] => some []
  | (k, v) :: r => (keyD k).bind fun x => (keyed r).map fun l => (x, v) :: l
/-- {k: v, ..}, a new cell -/
def dispM (l : List (DE × DE)) : DE := bindM (pairsM l) fun ps => fun _ s => match keyed ps with
  | some kvs => if kvs.length ≤ 15 then .ok (.cel s.length) (s ++ [some (.dct (mergeA [] kvs))]) else .bad
  | none => .bad
/-- o[k] = v: a cell's dict or list -/
def putI (o k v : D) (s : Sto) : Option Sto := match o with
  | .cel n => (match s[n]? with
    | some (some (.dct m)) => (match keyD k with
      | some q => if m.length < sizeLine then some (s.set n (some (.dct (putA m q v)))) else none
      | none => none)
    | some (some (.lst l)) => (match k with
      | .int i => (match ixN l.length i with
        | some j => some (s.set n (some (.lst (l.set j v))))
        | none => none)
      | _ => none)
    | _ => none)
  | _ => none
def subS (o k v : DE) : DS := thenS v fun y => thenS o fun x => thenS k fun z => fun r s => match putI x z y s with
  | some s' => .nx r s'
  | none => .bad
/-- xs.append(e) on a cell -/
def appD (x : D) (ds : List D) (s : Sto) : Res D := match x with
  | .cel n => (match s[n]? with
    | some (some (.lst l)) => (match ds with
      | [d] => if l.length < sizeLine then .ok .non (s.set n (some (.lst (l ++ [d])))) else .bad
      | _ => .bad)
    | _ => .bad)
  | _ => .bad
/-! ### soundness -/
section
variable {K : Frag} {w : Wd}
theorem KVR.any {T : Type} [DecidableEq T] {k : T} : ∀ {l : List (T × V)} {m : List (T × D)}, KVR K w l m → (l.any fun p => decide (p.1 = k)) = (m.any fun p => decide (p.1 = k))
  | _, _, .nil => rfl
  | _, _, .cons h r => by
    rw [List.any_cons, List.any_cons, r.any]
theorem KVR.mapP {T : Type} [DecidableEq T] {k : T} {y : V} {d : D} (q : Rep K w y d) : ∀ {l : List (T × V)} {m : List (T × D)}, KVR K w l m → KVR K w (l.map fun p => if p.1 = k then (p.1, y) else p) (m.map fun p => if p.1 = k then (p.1, d) else p)
  | _, _, .nil => .nil
  | _, _, .cons (k := j) h r => by
    rw [List.map_cons, List.map_cons]
    by_cases e : j = k
    · rw [if_pos e, if_pos e]
      exact .cons q (r.mapP q)
    · rw [if_neg e, if_neg e]
      exact .cons h (r.mapP q)
theorem KVR.app {T : Type} : ∀ {l l2 : List (T × V)} {m m2 : List (T × D)}, KVR K w l m → KVR K w l2 m2 → KVR K w (l ++ l2) (m ++ m2)
  | _, _, _, _, .nil, r => r
  | _, _, _, _, .cons h t, r => .cons h (t.app r)
theorem KVR.putK {T : Type} [DecidableEq T] {k : T} {y : V} {d : D} (q : Rep K w y d) {l : List (T × V)} {m : List (T × D)} (r : KVR K w l m) : KVR K w (L2.putK l k y) (putA m k d) := by
  unfold L2.putK putA
  rw [r.any]
  by_cases e : (m.any fun p => decide (p.1 = k)) = true
  · rw [if_pos e, if_pos e]
    exact r.mapP q
  · rw [if_neg e, if_neg e]
    exact r.app (.cons q .nil)
theorem KVR.merge : ∀ {l2 : List (Key × V)} {m2 : List (Key × D)} {l : List (Key × V)} {m : List (Key × D)}, KVR K w l m → KVR K w l2 m2 → KVR K w (mergeK l l2) (mergeA m m2)
  | _, _, _, _, r, .nil => r
  | _, _, _, _, r, .cons h t => (r.putK h).merge t
inductive RPs (K : Frag) (w : Wd) : List (V × V) → List (D × D) → Prop
  | nil : RPs K w [] []
  | cons {x y : V} {a b : D} {l : List (V × V)} {m : List (D × D)} : Rep K w x a → Rep K w y b → RPs K w l m → RPs K w ((x, y) :: l) ((a, b) :: m)
theorem RPs.ext {w' : Wd} (e : Ext w w') : ∀ {l : List (V × V)} {m : List (D × D)}, RPs K w l m → RPs K w' l m
  | _, _, .nil => .nil
  | _, _, .cons h k r => .cons (h.ext e) (k.ext e) (r.ext e)
theorem keyed_ok : ∀ {l : List (V × V)} {m : List (D × D)} {kvs : List (Key × D)}, RPs K w l m → keyed m = some kvs → ∃ kv : List (Key × V), l = kv.map (fun p => (kV p.1, p.2)) ∧ KVR K w kv kvs
  | _, _, _, .nil, h => by
    cases h
    exact ⟨[], rfl, .nil⟩
  | _, _, _, .cons (a := a) (b := b) (m := m) h k r, e => by
    have e' : ((keyD a).bind fun x => (keyed m).map fun l => (x, b) :: l) = some _ := e
    cases q1 : keyD a with
    | none => rw [q1] at e'; cases e'
    | some z =>
      cases q2 : keyed m with
      | none => rw [q1, q2] at e'; cases e'
      | some kvs2 =>
        rw [q1, q2] at e'
        cases e'
        obtain ⟨kv, rfl, hr⟩ := keyed_ok r q2
        exact ⟨(z, _) :: kv, by rw [keyD_ok h q1]; rfl, .cons k hr⟩
end
theorem pairs_imp {K : Frag} {W : WX} {r : En} {t : L2.St} : ∀ {l : List (DE × DE)} {w : Wd} {s : Sto} {Q : List (V × V) → Hp → Prop}, EnvR K w r t → StR K w s → Post K (RPs K) w (fun c d H' => W c d t H') Q (pairsM l r s) → tPairs (l.map fun p => (tE K W p.1, tE K W p.2)) t w.H Q
  | [], w, s, Q, env, st, hp => hp.pure st .nil
  | (k, v) :: l, w, s, Q, env, st, hp => hp.bind env st fun x d s1 w1 e1 st1 r1 hp1 => hp1.bind (env.ext e1) st1 fun y d2 s2 w2 e2 st2 r2 hp2 => by
    refine pairs_imp ((env.ext e1).ext e2) st2 ?_
    unfold bindM at hp2
    cases e : pairsM l r s2 with
    | ok ps s3 =>
      rw [e] at hp2
      exact fun z w3 e3 st3 r3 => hp2 _ w3 e3 st3 (.cons ((r1.ext e2).ext e3) (r2.ext e3) r3)
    | exc C fs s3 => rw [e] at hp2; exact hp2
    | bad => rw [e] at hp2; exact hp2
/-- the pinned thing becomes a cell -/
theorem unpin_cell {K : Frag} {w0 w : Wd} {s : Sto} {p : Addr} {ct : Ct} (e : Ext w0 w) (st : StR K w s) (h1 : ¬ w0.P p) (hP : w.P p) (hc : CtR K w p ct) :
    ∃ w2 : Wd, w2.H = w.H ∧ Ext w0 w2 ∧ StR K w2 (s ++ [some ct]) ∧ Rep K w2 (.ref p) (.cel s.length) := by
  have nz := (st.pz p hP).1
  let w2 : Wd := ⟨fun m => if m = s.length then some p else w.A m, w.Z, fun a => w.P a ∧ a ≠ p, w.H⟩
  have hA : ∀ m a, w.A m = some a → w2.A m = some a := fun m a q => by
    have ne : ¬ m = s.length := fun z => by
      rw [st.new m (by omega)] at q
      exact nomatch q
    show (if m = s.length then some p else w.A m) = some a
    rw [if_neg ne]
    exact q
  have e0 : Ex0 w w2 := ⟨hA, fun _ h => h, fun _ _ => rfl⟩
  have at' : ∀ m c, (s ++ [some ct])[m]? = some (some c) → (m < s.length ∧ s[m]? = some (some c)) ∨ (m = s.length ∧ c = ct) := fun m c q => by
    by_cases hm : m < s.length
    · rw [List.getElem?_append_left hm] at q
      exact .inl ⟨hm, q⟩
    · rw [List.getElem?_append_right (by omega)] at q
      by_cases h0 : m - s.length = 0
      · rw [h0] at q
        exact .inr ⟨by omega, by simpa using q.symm⟩
      · rw [List.getElem?_eq_none (by simp; omega)] at q
        cases q
  have AtN : w2.A s.length = some p := if_pos rfl
  have AtO : ∀ m, m < s.length → w2.A m = w.A m := fun m hm => if_neg (by omega)
  have npo : ∀ m c a, s[m]? = some (some c) → w.A m = some a → a ≠ p := fun m c a q ha z => st.np m c a q ha (z ▸ hP)
  refine ⟨w2, rfl, ⟨⟨fun n a q => hA n a (e.A n a q), e.Z, e.H⟩, fun a z => ⟨e.P a z, fun q => h1 (q ▸ z)⟩, e.HP⟩, ⟨fun m c q => ?_, fun m c a q ha z => ?_, fun a z => st.pz a z.1, fun m k b x y qm qk hm hk => ?_, st.fz, fun m hm => ?_, st.ptk (fun _ h => h.1) (fun _ _ => rfl)⟩, .cel AtN⟩
  · rcases at' m c q with ⟨hm, q⟩ | ⟨rfl, rfl⟩
    · obtain ⟨a, k1, k2, k3⟩ := st.at_ m c q
      exact ⟨a, hA m a k1, k2, k3.sam0 e0 rfl⟩
    · exact ⟨p, AtN, NZ.of nz, hc.sam0 e0 rfl⟩
  · rcases at' m c q with ⟨hm, q⟩ | ⟨rfl, rfl⟩
    · rw [AtO m hm] at ha
      exact st.np m c a q ha z.1
    · rw [AtN] at ha
      cases ha
      exact z.2 rfl
  · rcases at' m x qm with ⟨lm, qm'⟩ | ⟨rfl, rfl⟩
    · rcases at' k y qk with ⟨lk, qk'⟩ | ⟨rfl, rfl⟩
      · rw [AtO m lm] at hm
        rw [AtO k lk] at hk
        exact st.inj m k b x y qm' qk' hm hk
      · rw [AtO m lm] at hm
        rw [AtN] at hk
        cases hk
        exact absurd rfl (npo m x _ qm' hm)
    · rcases at' k y qk with ⟨lk, qk'⟩ | ⟨rfl, rfl⟩
      · rw [AtO k lk] at hk
        rw [AtN] at hm
        cases hm
        exact absurd rfl (npo k y _ qk' hk)
      · rfl
  · rw [List.length_append] at hm
    have hm' : s.length + 1 ≤ m := hm
    show (if m = s.length then some p else w.A m) = none
    rw [if_neg (by omega)]
    exact st.new m (by omega)
section
variable {X : Cx} {W : WX} {a b o : Expr} {es : List Expr} {pos pos' p apos : Pos} {ma mb mo : DE} {mr : DM (List D)}
theorem pp_nil : PPs X pos [] [] (([] : List (DE × DE)).map fun p => (tE X.K W p.1, tE X.K W p.2)) := pps_nil
theorem pp_cons {ks : List (Option Expr)} {vs : List Expr} {l : List (DE × DE)} (hk : PE X a (tE X.K W ma)) (hv : PE X b (tE X.K W mb)) (hr : PPs X pos ks vs (l.map fun p => (tE X.K W p.1, tE X.K W p.2))) : PPs X pos (some a :: ks) (b :: vs) (((ma, mb) :: l).map fun p => (tE X.K W p.1, tE X.K W p.2)) := pps_cons hk hv hr
theorem e_disp {ks : List (Option Expr)} {vs : List Expr} {l : List (DE × DE)} (h : PPs X pos ks vs (l.map fun p => (tE X.K W p.1, tE X.K W p.2))) (hall : ks.all (·.isSome) = true := by rfl) (hl : ks.length = vs.length := by rfl) (h0 : ks ≠ [] := by exact fun z => nomatch z) (h15 : ks.length ≤ 15 := by decide) :
    PE X (.Dict ks vs pos) (tE X.K W (dispM l)) := PE.imp (pe_disp h hall hl h0 h15) fun t H Q h => by
  obtain ⟨r, s, w, rfl, env, st, hp⟩ := h
  intro q nq
  have hP : ¬ w.P q := fun z => (st.pz q z).2 nq
  have hz : ¬ w.Z q := fun z => st.fz q z nq
  have e1 := Wd.pin_ext (o := .dK []) st nq
  refine pairs_imp (w := w.pin q (.dK [])) (env.ext e1) (Wd.pin_st st nq) ?_
  unfold dispM bindM at hp
  cases e : pairsM l r s with
  | exc C fs s3 => rw [e] at hp; exact Post.ext e1 hp
  | bad => rw [e] at hp; exact hp
  | ok ps s3 =>
    rw [e] at hp
    dsimp only at hp
    intro vs2 w3 e3 st3 r3
    have P3 : w3.P q := e3.P q (.inr rfl)
    have H3 : w3.H q = some (.dK []) := (e3.HP q (.inr rfl)).trans upd_same
    refine ⟨H3, ?_⟩
    cases ek : keyed ps with
    | none => rw [ek] at hp; exact hp.elim
    | some kvs =>
      rw [ek] at hp
      dsimp only at hp
      obtain ⟨kv, rfl, hr⟩ := keyed_ok r3 ek
      by_cases hl : kvs.length ≤ 15
      · rw [if_pos hl] at hp
        refine ⟨kv, rfl, by rw [hr.length]; exact hl, ?_⟩
        have x4 := Wd.turn_ext (o := .dK (mergeK [] kv)) (e1.trans e3) hz hP
        have st4 := Wd.turn_st (o := .dK (mergeK [] kv)) st3 P3
        have e0 := Wd.turn_ex0 (o := .dK (mergeK [] kv)) st3 P3
        obtain ⟨w5, h5, x5, st5, r5⟩ := unpin_cell (ct := .dct (mergeA [] kvs)) x4 st4 hP P3 ⟨mergeK [] kv, upd_same, KVR.merge .nil (hr.ex0 e0)⟩
        have z := hp (.ref q) w5 x5 st5 r5
        rw [h5] at z
        exact z
      · rw [if_neg hl] at hp
        exact hp.elim
/-! stores -/
theorem set_dict (hu : X.A.units + 1 < cLine) : PSet X (fun o i v H Q => ∃ a H', o = .ref a ∧ DPut H a i v H' ∧ Q H') := fun pins s t H o i v ov iv u Q I ro ri rv h => by
  obtain ⟨q, H', rfl, g, k⟩ := h
  obtain rfl : ov = Value.ref q := ro
  exact d_setItem hu I g ri rv fun s3 I3 => ⟨H', I3, k⟩
theorem PSet.or {t t' : TSet} (h : PSet X t) (h' : PSet X t') : PSet X (fun o i v H Q => t o i v H Q ∨ t' o i v H Q) := fun pins s σ H o i v ov iv u Q I ro ri rv q => q.elim (h pins s σ H o i v ov iv u Q I ro ri rv) (h' pins s σ H o i v ov iv u Q I ro ri rv)
theorem putI_ok {w : Wd} {s s' : Sto} {x z y : V} {dx dz dy : D} {Q : Hp → Prop} (st : StR X.K w s) (rx : Rep X.K w x dx) (rz : Rep X.K w z dz) (ry : Rep X.K w y dy) (h : putI dx dz dy s = some s') (k : ∀ w', Ext w w' → StR X.K w' s' → Q w'.H) :
    (∃ a H', x = .ref a ∧ DPut w.H a z y H' ∧ Q H') ∨ (∃ p xs i j, x = V.ref p ∧ z = .int i ∧ w.H p = some (.lst xs) ∧ ixN xs.length i = some j ∧ Q (upd w.H p (.lst (xs.set j y)))) := by
  cases rx with
  | @cel n a0 hA =>
    unfold putI at h
    dsimp only at h
    cases e : s[n]? with
    | none => rw [e] at h; cases h
    | some oc =>
      cases oc with
      | none => rw [e] at h; cases h
      | some ct =>
        rw [e] at h
        obtain ⟨a1, h1, hz, hc⟩ := st.at_ n _ e
        have ea : a1 = a0 := Option.some.inj (h1.symm.trans hA)
        subst ea
        have hP := st.np n _ a1 e h1
        cases ct with
        | dct m =>
          dsimp only at h
          obtain ⟨l, hh, kv⟩ := hc
          cases ek : keyD dz with
          | none => rw [ek] at h; cases h
          | some q =>
            rw [ek] at h
            dsimp only at h
            split at h
            · rename_i hl
              cases h
              have e3 : Ext w (w.put a1 (.dK (L2.putK l q y))) := Wd.mut_ext hz hP
              refine .inl ⟨a1, _, rfl, .inl ⟨l, q, hh, keyD_ok rz ek, by rw [kv.length]; exact hl, rfl⟩, ?_⟩
              exact k (w.put a1 (.dK (L2.putK l q y))) e3 (Wd.mut_st st e h1 hz ⟨_, upd_same, (kv.ext e3).putK (ry.ext e3)⟩)
            · cases h
        | lst l =>
          dsimp only at h
          obtain ⟨vs, hh, rs⟩ := hc
          cases rz with
          | int i =>
            dsimp only at h
            cases ei : ixN l.length i with
            | none => rw [ei] at h; cases h
            | some j =>
              rw [ei] at h
              cases h
              have e3 : Ext w (w.put a1 (.lst (vs.set j y))) := Wd.mut_ext hz hP
              refine .inr ⟨a1, vs, i, j, rfl, rfl, hh, by rw [rs.length]; exact ei, ?_⟩
              exact k (w.put a1 (.lst (vs.set j y))) e3 (Wd.mut_st st e h1 hz ⟨_, upd_same, (rs.ext e3).set (ry.ext e3) j⟩)
          | _ => cases h
        | ins C l => cases h
        | rod l => cases h
        | tab x => cases h
        | dtt m => cases h
  | _ => cases h
theorem s_sub {mk : DE} (hu : X.A.units + 1 < cLine) (ho : PE X o (tE X.K W mo)) (hk : PE X b (tE X.K W mk)) (hv : PE X a (tE X.K W ma)) (hs : swapsWithSole [.Subscript o b p] a pos.line X.env = pure false := by rfl) (hw : swappedStores [.Subscript o b p] a X.env = pure none := by rfl)
    (h1 : (assignEach [.Subscript o b p] X.env).map (·.2) = [assign (.Subscript o b p) X.env] := by rfl)
    (hA : ∀ v, assign (.Subscript o b p) X.env v = (holding [v] (eval o X.env) >>= fun ov => holding [v, ov] (eval b X.env) >>= fun iv => standAt p >>= fun _ => holding [v, ov, iv] (setItem ov iv v) >>= fun _ => release [v, ov, iv] []) := by intro _; rfl) :
    PS X (.Assign [.Subscript o b p] a pos) (tS X.K W (subS mo mk ma)) := PS.imp (ps_asg hv (pg_sub ho hk (PSet.or (set_dict hu) set_list) hA) hs hw h1) fun E t H h => by
  obtain ⟨r, s, w, rfl, env, st, hp⟩ := h
  exact hp.bind env st fun y dy s1 w1 e1 st1 r1 hp1 => hp1.bind (env.ext e1) st1 fun x dx s2 w2 e2 st2 r2 hp2 => hp2.bind ((env.ext e1).ext e2) st2 fun z dz s3 w3 e3 st3 r3 hp3 => by
    cases e : putI dx dz dy s3 with
    | none => rw [e] at hp3; exact hp3.elim
    | some s4 =>
      rw [e] at hp3
      have q := putI_ok (Q := fun H3 => E.nx t H3) st3 (r2.ext e3) r3 ((r1.ext e2).ext e3) e fun w4 e4 st4 => hp3 t w4 e4 ((((env.ext e1).ext e2).ext e3).ext e4) st4
      rcases q with q | q
      · exact .inl q
      · obtain ⟨p1, xs, i, j, h1, h2, h3, h4, h5⟩ := q
        exact .inr ⟨p1, xs, i, j, h1, h2, h3, h4, h5⟩
/-! x op= e -/
def addI (x y : D) (s : Sto) : Res D := match x with
  | .int i => (match y with
    | .int j => .ok (.int (i + j)) s
    | _ => .bad)
  | _ => .bad
end
end Mp
set_option Elab.async false
set_option linter.all false
set_option maxRecDepth 100000
set_option maxHeartbeats 4000000
/-! Mp: try. -/
namespace Mp
open PySem PySem.Spec PyProof.Rows L2
/-! ### on data -/
def noExc : Fl → Fl
  | .exc _ _ _ _ => .bad
  | f => f
/-- try: body except c: suite; tb: which of the package's errors c is -/
def tryS (mb : DS) (tb : List (Str × Bool)) (mh : DS) : DS := fun r s => match mb r s with
  | .exc C fs r' s' => (match tb.lookup C with
    | some true => noExc (mh r' s')
    | some false => .exc C fs r' s'
    | none => .bad)
  | f => f
def offS (i : Nat) : Fl → Fl
  | .nx r s => .nx (r.set i none) s
  | .bk r s => .bk (r.set i none) s
  | .ct r s => .ct (r.set i none) s
  | .rt d s => .rt d s
  | _ => .bad
open Classical in
noncomputable def joinF (f : Addr → Option Addr → Fl) : Fl := if ∀ a d, f a d = f 0 none then f 0 none else .bad
theorem joinF_of {f : Addr → Option Addr → Fl} (h : ∀ a d, f a d = f 0 none) : joinF f = f 0 none := if_pos h
noncomputable def tryAsS (i : Nat) (E : Str) (mb : DS) (tb : List (Str × Bool)) (mh : Addr → Option Addr → List (Str × D) → DS) : DS := fun r s => match mb r s with
  | .exc C fs r' s' => (match tb.lookup C with
    | some true => if C = E then joinF (fun a d => offS i (mh a d fs (r'.set i (some (.exn a d C fs))) s')) else .bad
    | some false => .exc C fs r' s'
    | none => .bad)
  | f => f
/-- e.f of the caught one -/
def exnM (a : Addr) (d : Option Addr) (f : Str) (m : DE) : DE := bindM m fun x => fun _ s => match x with
  | .exn a' d' _ fs => if a' = a ∧ d' = d then okO s (fs.lookup f) else .bad
  | _ => .bad
/-! ### soundness -/
section
end
end Mp
set_option Elab.async false
set_option linter.all false
set_option maxRecDepth 100000
set_option maxHeartbeats 4000000
/-! Mp: methods that say super().m(..). -/
namespace Mp
open PySem PySem.Spec PyProof.Rows L2
section
end
/-- super().m(a, ..): by the class of the instance -/
def superM (tb : List (Str × DF)) (a : DM (List D)) : DE := bindM (vM 0) fun x => fun r s => match insOf s x with
  | none => .bad
  | some (C, _) => (match tb.lookup C with
    | none => .bad
    | some f => (bindM a fun ds => fun _ s => f (x :: ds) s) r s)
def superS (tb : List (Str × DF)) (a : DM (List D)) : DS := thenS (superM tb a) fun _ => fun r s => .nx r s
structure SupF (X : Cx) (D : Addr) (C m : Str) (mf : DF) : Prop where
  cls : (PySem.W.clsIn X.K (He.ga X.K C)).isSome = true
  sub : PySem.W.mroIn X.K (He.ga X.K C) (.ref D) = some true
  ex : ∃ (g : Addr) (k : Nat), PySem.W.ks_superIn X.K (He.ga X.K C) D m = some (some (.ref g)) ∧ PySem.W.typeIn X.K (.ref g) = some (.type "function") ∧ PySem.W.fnIn X.K g = true ∧ FnD X.prog X.w X.K X.mg X.base k g mf ∧ Rm k X.A
inductive STab (X : Cx) (D : Addr) (m : Str) : List (Str × DF) → Prop
  | nil : STab X D m []
  | cons {C : Str} {f : DF} {r : List (Str × DF)} : SupF X D C m f → STab X D m r → STab X D m ((C, f) :: r)
theorem STab.get {X : Cx} {D : Addr} {m C : Str} {f : DF} : ∀ {tb : List (Str × DF)}, STab X D m tb → tb.lookup C = some f → SupF X D C m f
  | _, .nil, h => by simp at h
  | _, .cons (C := E) h1 r, h => by
    by_cases e : C = E
    · subst e
      rw [List.lookup_cons_self] at h
      cases h
      exact h1
    · have hb : (C == E) = false := by simpa using e
      rw [List.lookup_cons, hb] at h
      exact r.get h
section
end
section
end
end Mp
set_option Elab.async false
set_option linter.all false
set_option maxRecDepth 100000
set_option maxHeartbeats 4000000
/-! Mp: repr of plain data, chained comparisons. -/
namespace Mp
open PySem PySem.Spec PyProof.Rows L2
section
variable {X : Cx} {W : WX} {a b c : Expr} {pos : Pos} {ma mb mc : DE}
/-! a op b op c -/
def chainT (g : D → D → Sto → Res D) (y : D) (c : DE) : D → DE
  | .bl true => bindM c fun u => fun _ s => g y u s
  | .bl false => pureM (.bl false)
  | _ => fun _ _ => .bad
def chainM (f g : D → D → Sto → Res D) (a b c : DE) : DE := bindM a fun x => bindM b fun y => fun r s => match f x y s with
  | .ok z s' => chainT g y c z r s'
  | .exc C fs s' => .exc C fs s'
  | .bad => .bad
end
end Mp
set_option Elab.async false
set_option linter.all false
set_option maxRecDepth 100000
set_option maxHeartbeats 4000000
/-! Mp: the end of a law, the head's facts. -/
namespace Mp
open PySem PySem.Spec PyProof.Rows L2
/-! ### the end -/
abbrev LawEnd (s₁ : Shared) : Result → Shared → Prop := fun r s' => r = .ok (.ret (.bool true)) ∧ OldK s₁.heap s'.heap ∧ s'.os = s₁.os ∧ AllBare s'.gens
section
variable {P : Program} {w : World} {K : Frag} {mg mb : Str → Option Value} {k : Nat} {fa a : Addr} {s₁ : Shared} {vs : List Value} {ns : List Int} {m : DF}
/-- the law's call, from an abstract heap that knows at most the script -/
theorem law_core (KX : K.In s₁.heap) (hns : s₁.heap.Ns mainGlobals mg) (hb : s₁.heap.Ns builtinsNs mb) (hbb : ∀ x : Str, x ≠ "__name__" → mb x = bootBuiltins x) (hlim : s₁.heap.NoLimit) (hg : s₁.gens = #[])
    (ha : s₁.heap.get? a = some { cls := .type "list", data := .seq vs.toArray }) (hr : Rm k callerA) (F : ∀ base : Heap, K.In base → base.Ns mainGlobals mg → FnD P w K mg base k fa m) (hm : ∃ s', m [.rol (ns.map .int)] [] = .ok (.bl true) s')
    (H : Hp) (hO : Only H) (hS : SqL K H a (ns.map V.int)) (hok : HOk P w H s₁.heap) (hA : ∀ b, H b ≠ none → b = a) (hK : H a ≠ none → K.lookup a = none) : codeAny (model P w) callerA (.call (.ref fa) ⟨[.ref a], []⟩) (LawEnd s₁) s₁ := by
  have off : ∀ {b : Addr} {o : Obj}, s₁.heap.get? b = some o → o.data ≠ .seq vs.toArray → H b = none := fun {b o} e d => by
    by_cases q : H b = none
    · exact q
    · have z := hA b q
      subst z
      rw [ha] at e
      cases e
      exact absurd rfl d
  have nsH : ∀ {b : Addr} {f : Str → Option Value}, s₁.heap.Ns b f → (hidT s₁.heap H).Ns b f := fun ⟨o, es, ep, e, d, r⟩ => ⟨o, es, ep, hidT_get e (off e (by rw [d]; exact fun z => nomatch z)), d, r⟩
  have KH : K.In (hidT s₁.heap H) := fun b o e => hidT_get (KX b o e) (by
    by_cases q : H b = none
    · exact q
    · have z := hA b q
      subst z
      rw [hK q] at e
      cases e)
  have M0 : Mod K mg (hidT s₁.heap H) := ⟨KH, nsH hns, ⟨mb, nsH hb, hbb⟩, hlim.elim fun mc z => ⟨mc, nsH z.1, z.2⟩⟩
  have E0 : Env0 P w K mg (hidT s₁.heap H) callerA [] s₁ H := ⟨rfl, M0, fun b o e => of_hidT e, Nat.le_of_eq (hidT_size _ _), trivial, fun b z => absurd (show b ∈ ([] : List Addr) from z) (by simp), hok, .of_eq hg⟩
  obtain ⟨s', hm⟩ := hm
  have hsp : spD K m [.ref a] H (fun v _ => v = .bl true) fun _ _ _ => False := by
    refine ⟨[.rol (ns.map .int)], [], ⟨fun _ => none, fun b => H b ≠ none, fun _ => False, H⟩, rfl, .cons (.rol (hS.elim (fun z => .inl ⟨?_, z⟩) .inr) ?_) .nil, ?_, ?_⟩
    · rcases z with z | ⟨o, z⟩ <;> exact fun e => by rw [e] at z; cases z
    · clear hm hS
      induction ns with
      | nil => exact .nil
      | cons i r ih => exact .cons (.int i) ih
    · constructor <;> intros <;> simp_all
    · rw [hm]
      intro v w' _ _ rv
      cases rv
      rfl
  refine codeAny_mono (F _ KH (nsH hns) callerA [] s₁ H [.ref a] [.ref a] _ _ hr E0 (.cons rfl .nil) hsp) fun r s' h => ?_
  cases r with
  | error e =>
    obtain ⟨_, _, _, _, _, _, _, _, _, _, _, _, z⟩ := h
    exact z.elim
  | ok fl =>
    cases fl with
    | ret u =>
      obtain ⟨v, H', os, bare, un, hok', r', q⟩ := h
      obtain rfl : v = .bl true := q
      obtain rfl : u = Value.bool true := r'
      refine ⟨rfl, OldK.of_keep fun b o e => ?_, os, bare⟩
      rcases hO b with z | ⟨ob, xs, z⟩
      · exact un.keep b o e z (fun y => absurd (show b ∈ ([] : List Addr) from y) (by simp)) (by simp)
      · have e1 := (hok b _ z).1
        have e2 := (hok' b _ (un.frzs b ob _ z)).1
        rw [e] at e1
        cases e1
        exact e2
    | _ => exact h.elim
theorem law_end (KX : K.In s₁.heap) (hns : s₁.heap.Ns mainGlobals mg) (hb : s₁.heap.Ns builtinsNs mb) (hbb : ∀ x : Str, x ≠ "__name__" → mb x = bootBuiltins x) (hlim : s₁.heap.NoLimit) (hg : s₁.gens = #[])
    (ha : s₁.heap.get? a = some { cls := .type "list", data := .seq vs.toArray }) (hi : IntsAre vs ns) (hl : ns.length ≤ sizeLine) (hr : Rm k callerA) (F : ∀ base : Heap, K.In base → base.Ns mainGlobals mg → FnD P w K mg base k fa m) (hm : ∃ s', m [.rol (ns.map .int)] [] = .ok (.bl true) s') :
    codeAny (model P w) callerA (.call (.ref fa) ⟨[.ref a], []⟩) (LawEnd s₁) s₁ := by
  have go := law_core (m := m) (ns := ns) KX hns hb hbb hlim hg ha hr F hm
  have rv := vals_ints hi
  cases hk : K.lookup a with
  | some o =>
    have e := KX a o hk
    rw [ha] at e
    cases e
    exact go (fun _ => none) (fun _ => .inl rfl) (.inr ⟨_, vs.toArray, _, hk, rfl, rfl, rfl, by rw [List.size_toArray, hi.length]; exact hl, by simpa using rv⟩) (fun _ _ z => nomatch (show (none : Option HO) = some _ from z)) (fun _ z => (z rfl).elim) fun z => (z rfl).elim
  | none =>
    refine go (upd (fun _ => none) a (.frz { cls := .type "list", data := .seq vs.toArray } (.lst (ns.map V.int)))) (fun b => ?_) (.inl (.inr ⟨_, upd_same⟩)) (fun b u z => ?_) (fun b z => ?_) fun _ => hk
    · by_cases e : b = a
      · subst e
        exact .inr ⟨_, _, upd_same⟩
      · exact .inl (upd_ne e)
    · by_cases e : b = a
      · subst e
        rw [upd_same] at z
        cases z
        exact ⟨ha, by rw [List.length_map]; exact hl, vs, _, rv, ha⟩
      · rw [upd_ne e] at z
        cases z
    · by_cases e : b = a
      · exact e
      · exact absurd (upd_ne e) z
end
/-- a law row, by its def's function on data -/
theorem walk_end {l : PySem.W.OpenLaw} {n k : Nat} {q : Program} {loose : List Str} {XP : (Str → Option Value) → Heap → Prop} {YP : World → Heap → Prop} {d : DefRec} {m : DF} (hn : l.most = some n) (hn2 : n ≤ sizeLine) (hdf : d.params.defaults = []) (hr : Rm k callerA)
    (F : ∀ (w : World) (mg : Str → Option Value) (fa : Addr) (h : Heap), YP w h → h.Ns mainGlobals mg → mg d.name = some (.ref fa) → ∃ K : Frag, K.In h ∧ ∀ base : Heap, K.In base → base.Ns mainGlobals mg → FnD l.prog w K mg base k fa m)
    (hm : ∀ ns : List Int, ns.length ≤ n → (∀ z ∈ ns, Builtin.Int.intBits z ≤ 1048576) → ∃ s', m [.rol (ns.map .int)] [] = .ok (.bl true) s') : PySem.W.WalkO q loose XP YP l.row.toRowW d [] (fun f vs => PySem.call f vs) := by
  refine Att.attach_callB hn hdf fun w s₀ s₁ mg mb fa o pm cd doc a vs ns G Y ho hd hcd hmg hobj hints hlen hbits hg => ?_
  obtain ⟨K, KX, hF⟩ := F w mg fa _ Y G.T.g hmg
  exact law_end KX G.T.g G.T.b G.T.builtins G.T.nolimit hg hobj hints (Nat.le_trans hlen hn2) hr hF (hm ns hlen hbits)
end Mp
set_option Elab.async false
set_option linter.all false
set_option maxRecDepth 100000
set_option maxHeartbeats 4000000
/-! Mp: the head's facts. -/
namespace Mp
open PySem PySem.Spec PyProof.Rows L2
/-! ### defs -/
structure DefM where
  ad : Frag → Addr
  name : Str
  qual : Str
  params : Arguments
  body : List Stmt
  scope : Scope
  dfl : List He.Dv := []
  sup : Option Str := none
def fnWM (K : Frag) (d : DefM) : He.FnW := match K.lookup (d.ad K) with
  | some ⟨_, _, .func fd, _⟩ => some (fd.name, fd.qualname, fd.params, fd.body, fd.scope, fd.globals, [], fd.builtins)
  | _ => none
def DefM.val (d : DefM) : He.FnW := some (d.name, d.qual, d.params, .stmts d.body, d.scope, mainGlobals, [], builtinsNs)
def DefM.dvs (K : Frag) (d : DefM) : List V := d.dfl.map (He.Dv.v K)
def fileB (file : Str) (K : Frag) : Value → Bool
  | .ref c => (match K.lookup c with
    | some ⟨_, _, .fields vs, _⟩ => (match (vs[2]? : Option Value) with
      | some (.str f _) => file == f
      | _ => false)
    | _ => false)
  | _ => false
def clB (file : Str) (K : Frag) (sup : Option Str) (fd : FuncData) : Bool := match sup with
  | none => (match fd.closure with
    | [] => true
    | _ => false)
  | some C => (match fd.closure with
    | [(n, cc)] => decide (n = "__class__") && ((match K.lookup cc with
      | some ⟨_, _, .cell (some (.ref e)), _⟩ => decide (e = He.ga K C)
      | _ => false) && ((PySem.W.clsIn K (He.ga K C)).isSome && (fileB file K fd.code && He.eqO (PySem.W.nsIn K cStatics "thirdparty.any") (some none))))
    | _ => false)
def DefM.ok (file : Str) (K : Frag) (d : DefM) : Bool := PySem.W.keepIn K (.ref (d.ad K)) && (match K.lookup (d.ad K) with
  | some ⟨_, _, .func fd, _⟩ => PySem.W.codeIn K fd.code d.qual && (He.dflB K fd.defaults (d.dvs K) && clB file K d.sup fd)
  | _ => false)
theorem DefM.funD {file : Str} {K : Frag} {d : DefM} (hs : d.sup = none) (e : fnWM K d = d.val) (c : d.ok file K = true) : ∃ fd, FunD K d.name d.qual d.params d.body d.scope (d.dvs K) [] (d.ad K) fd := by
  obtain ⟨kp, c2⟩ := He.ba c
  unfold fnWM at e
  cases q : K.lookup (d.ad K) with
  | none => rw [q] at c2; cases c2
  | some o =>
    obtain ⟨oc, od, dt, osl⟩ := o
    rw [q] at c2 e
    cases dt with
    | func fd =>
      obtain ⟨n1, n2, n3, n4, n5, n6, n7, n8, n9, n10, n11, n12, n13, n14, n15⟩ := fd
      have e2 : (some (n1, n2, n3, n4, n5, n6, [], n15) : He.FnW) = some (d.name, d.qual, d.params, .stmts d.body, d.scope, mainGlobals, [], builtinsNs) := e
      simp only [Option.some.injEq, Prod.mk.injEq] at e2
      obtain ⟨h1, h2, h3, h4, h5, h6, _, h8⟩ := e2
      subst h1 h2 h3 h4 h5 h6 h8
      obtain ⟨k1, k2⟩ := He.ba c2
      obtain ⟨k3, k4⟩ := He.ba k2
      unfold clB at k4
      rw [hs] at k4
      dsimp only at k4
      cases n7 with
      | nil => exact ⟨_, ⟨oc, od, n8, n9, n10, n11, n12, n13, n14, osl, rfl, q, k1, He.dflB_ok k3, .inl rfl⟩, kp⟩
      | cons _ _ => cases k4
    | _ => cases c2
/-! ### the Hook -/
abbrev AlM : Type := Bool × List He.FnW
def obsM (file : Str) (fb : List (Frag → Bool)) (fn : List DefM) (K : Frag) : AlM := ((fb.all fun f => f K) && fn.all fun d => d.ok file K, fn.map fun d => fnWM K d)
def valM (fn : List DefM) : AlM := (true, fn.map DefM.val)
def SaysM (file : Str) (fb : List (Frag → Bool)) (fn : List DefM) (K : Frag) : Prop := obsM file fb fn K = valM fn
def refsM (g : Addr → Option Obj) (a : Addr) : List Addr := match g a with
  | some o => He.refsD o
  | none => []
/-- those that are not marked yet -/
def markK (k : Nat → List Addr → List Addr) : List Addr → Nat → List Addr → List Addr
  | [], seen, out => k seen out
  | a :: as, seen, out => (match Nat.testBit seen a with
    | true => markK k as seen out
    | false => markK k as (seen ||| (1 <<< a)) (a :: out))
def levelM (g : Addr → Option Obj) : Nat → List Addr → Nat → List Addr
  | 0, front, _ => front
  | n + 1, front, seen => front ++ markK (fun seen' out => levelM g n out seen') (front.flatMap (refsM g)) seen []
def asM (g : Addr → Option Obj) (n : Nat) : List Addr := cStatics :: sysModules :: levelM g n [mainGlobals] (1 <<< mainGlobals)
def obsMG (n : Nat) (file : Str) (fb : List (Frag → Bool)) (fn : List DefM) (g : Addr → Option Obj) : AlM := obsM file fb fn (He.frG g (asM g n))
def hookM (n : Nat) (file : Str) (fb : List (Frag → Bool)) (fn : List DefM) : PySem.W.Hook where
  α := AlM
  obs := fun s => obsMG n file fb fn s.heap.get?
  val := fun _ => valM fn
  says := fun _ h => ∃ K : Frag, K.In h ∧ SaysM file fb fn K
  of := fun _ _ e => ⟨_, He.frG_in, e⟩
  keeps := fun _ _ _ ⟨K, hK, c⟩ k => ⟨K, PySem.W.Frag.In.keeps hK k, c⟩
theorem obsMG_eq {n : Nat} {file : Str} {fb : List (Frag → Bool)} {fn : List DefM} {g : Addr → Option Obj} {s : Shared} (h : ∀ a, g a = s.heap.get? a) : obsMG n file fb fn g = (hookM n file fb fn).obs s := by
  have e : g = s.heap.get? := funext h
  rw [e]
  rfl
/-- all that a derivation may ask of the head -/
structure Fx (P : Program) (fb : List (Frag → Bool)) (fn : List DefM) (K : Frag) (mg : Str → Option Value) : Prop where
  says : SaysM P.main.file fb fn K
  ex : ∃ h : Heap, K.In h ∧ h.Ns mainGlobals mg
section
variable {P : Program} {fb : List (Frag → Bool)} {fn : List DefM} {K : Frag} {mg : Str → Option Value} (Z : Fx P fb fn K mg)
include Z
theorem Fx.fact (i : Nat) {f : Frag → Bool} (h : fb[i]? = some f) : f K = true := by
  have c1 := (He.ba (show ((fb.all fun f => f K) && fn.all fun d => d.ok P.main.file K) = true from congrArg (fun z : AlM => z.1) Z.says)).1
  exact List.all_eq_true.mp c1 f (List.mem_of_getElem? h)
theorem Fx.dfOk (i : Nat) {d : DefM} (h : fn[i]? = some d) : fnWM K d = d.val ∧ d.ok P.main.file K = true := by
  have c2 := (He.ba (show ((fb.all fun f => f K) && fn.all fun d => d.ok P.main.file K) = true from congrArg (fun z : AlM => z.1) Z.says)).2
  have e : fn.map (fun d => fnWM K d) = fn.map DefM.val := congrArg (fun z : AlM => z.2) Z.says
  have e2 : (fn.map fun d => fnWM K d)[i]? = (fn.map DefM.val)[i]? := by rw [e]
  rw [List.getElem?_map, List.getElem?_map, h] at e2
  exact ⟨Option.some.inj e2, List.all_eq_true.mp c2 d (List.mem_of_getElem? h)⟩
theorem Fx.df (i : Nat) {d : DefM} (h : fn[i]? = some d) (hs : d.sup = none) : ∃ fd, FunD K d.name d.qual d.params d.body d.scope (d.dvs K) [] (d.ad K) fd := let q := Z.dfOk i h; DefM.funD hs q.1 q.2
theorem Fx.keep (i : Nat) {d : DefM} (h : fn[i]? = some d) : PySem.W.keepIn K (.ref (d.ad K)) = true := (He.ba (Z.dfOk i h).2).1
abbrev ckF (f : He.Fa) : Frag → Bool := fun K => f.ok K
omit Z in
theorem fx_in (Z : Fx P fb fn K mg) {T : Prop} (k : ∀ h : Heap, K.In h → h.Ns mainGlobals mg → T) : T := let ⟨h, a, b⟩ := Z.ex; k h a b
theorem Fx.glo (i : Nat) {x : Str} (h : fb[i]? = some (ckF (.glo x))) : mg x = some (.ref (He.ga K x)) := fx_in Z fun _ a b => He.glo_ok a b (Z.fact i h)
theorem Fx.free (i : Nat) {x : Str} (h : fb[i]? = some (ckF (.free x))) : mg x = none := fx_in Z fun _ a b => He.free_ok a b (Z.fact i h)
theorem Fx.int (i : Nat) {x : Str} {j : Int} (h : fb[i]? = some (ckF (.int x j))) : ∃ t, mg x = some (.int j t) := fx_in Z fun _ a b => He.int_ok a b (Z.fact i h)
theorem Fx.str (i : Nat) {x z : Str} (h : fb[i]? = some (ckF (.str x z))) : ∃ t, mg x = some (.str z t) := fx_in Z fun _ a b => He.str_ok a b (Z.fact i h)
theorem Fx.cls (i : Nat) {x : Str} (h : fb[i]? = some (ckF (.cls x))) : Cls K (He.ga K x) := He.cls_ok (Z.fact i h)
theorem Fx.noat (i : Nat) {x f : Str} (h : fb[i]? = some (ckF (.noat x f))) : NoAttr K (He.ga K x) f := He.noat_ok (Z.fact i h)
theorem Fx.meth (i : Nat) {x f : Str} (h : fb[i]? = some (ckF (.meth x f))) : Meth K (He.ga K x) f (He.ma K (He.ga K x) f) := He.meth_ok (Z.fact i h)
abbrev ckTup (x : Str) (vs : List He.Dv) : Frag → Bool := fun K => He.tupB K x vs
theorem Fx.tup (i : Nat) {x : Str} {vs : List He.Dv} (h : fb[i]? = some (ckTup x vs)) : KT K (He.ga K x) (vs.map (He.Dv.v K)) := by
  rcases He.tupB_ok (Z.fact i h) (fun _ => none) with (z | ⟨o, z⟩) | z
  · cases z
  · cases z
  · exact z
/-! own exceptions -/
abbrev ckExc (x : Str) (newId : String) (bm : List Value) : Frag → Bool := fun K => exB K (He.ga K x) bm newId && (He.eqO (PySem.W.findIn K (.ref (He.ga K x)) "__setattr__") (some (some (.builtin "object.__setattr__"))) && (decide (PySem.W.subIn K (.ref (He.ga K x)) (.type "BaseException") = some true) &&
  (decide (PySem.W.typeIn K (.ref (He.ga K x)) = some (.type "type")) && (PySem.W.keepIn K (.ref (He.ga K x)) && (He.eqO (PySem.W.findIn K (.ref (He.ga K x)) "__init__") (some (some (.ref (He.ma K (He.ga K x) "__init__")))) && decide (PySem.W.typeIn K (.ref (He.ma K (He.ga K x) "__init__")) = some (.type "function")))))))
theorem Fx.exc (i : Nat) {x : Str} {B newId initId : String} {bm : List Value} (b : BaseX B newId initId bm) (h : fb[i]? = some (ckExc x newId bm)) :
    OexB K (He.ga K x) B newId initId bm ∧ PySem.W.findIn K (.ref (He.ga K x)) "__init__" = some (some (.ref (He.ma K (He.ga K x) "__init__"))) ∧ PySem.W.typeIn K (.ref (He.ma K (He.ga K x) "__init__")) = some (.type "function") := by
  obtain ⟨h1, r⟩ := He.ba (Z.fact i h)
  obtain ⟨h2, r⟩ := He.ba r
  obtain ⟨h3, r⟩ := He.ba r
  obtain ⟨h4, r⟩ := He.ba r
  obtain ⟨h5, r⟩ := He.ba r
  obtain ⟨h6, h7⟩ := He.ba r
  exact ⟨⟨b, exB_ok h1, He.eqO_ok h2, of_decide_eq_true h3, of_decide_eq_true h4, h5⟩, He.eqO_ok h6, of_decide_eq_true h7⟩
/-! isinstance -/
/-! bound methods, super -/
abbrev ckBm (x m : Str) : Frag → Bool := fun K => (ckF (.meth x m)) K && (He.eqO (PySem.W.specialIn K (.ref (He.ma K (He.ga K x) m)) "__get__") (some (some (.builtin "function.__get__"))) && (decide (PySem.W.takesIn K (.ref (He.ma K (He.ga K x) m)) = some false) && (!PySem.W.copiedNames.contains m && PySem.W.fnIn K (He.ma K (He.ga K x) m))))
theorem Fx.bm (i : Nat) {x m : Str} (h : fb[i]? = some (ckBm x m)) : BMeth K (He.ga K x) m (He.ma K (He.ga K x) m) := by
  obtain ⟨h1, r⟩ := He.ba (Z.fact i h)
  obtain ⟨h2, r⟩ := He.ba r
  obtain ⟨h3, r⟩ := He.ba r
  obtain ⟨h4, h5⟩ := He.ba r
  exact ⟨He.meth_ok h1, He.eqO_ok h2, of_decide_eq_true h3, by simpa using h4, h5⟩
end
/-! properties, constants -/
abbrev ckCon (C f : Str) (v : He.Dv) : Frag → Bool := fun K => (match PySem.W.findIn K (.ref (He.ga K C)) f with
  | some (some u) => He.relB (v.v K) u && He.eqO (PySem.W.specialIn K u "__get__") (some none)
  | _ => false) && !PySem.W.copiedNames.contains f
theorem Fx.con {P : Program} {fb : List (Frag → Bool)} {fn : List DefM} {K : Frag} {mg : Str → Option Value} (Z : Fx P fb fn K mg) (i : Nat) {C f : Str} {v : He.Dv} (h : fb[i]? = some (ckCon C f v)) : ∃ u, Con K (He.ga K C) f (v.v K) u := by
  obtain ⟨h1, h2⟩ := He.ba (Z.fact i h)
  split at h1
  · rename_i u e
    obtain ⟨a, b⟩ := He.ba h1
    exact ⟨u, e, He.relB_ok a, He.eqO_ok b, by simpa using h2⟩
  · cases h1
end Mp
set_option Elab.async false
set_option linter.all false
set_option maxRecDepth 100000
set_option maxHeartbeats 4000000
/-! Mp: more built-in functions. -/
namespace Mp
open PySem PySem.Spec PyProof.Rows L2
def max2D (ds : List D) (s : Sto) : Res D := match ds with
  | [.int i, .int j] => .ok (.int (if j > i then j else i)) s
  | _ => .bad
def min2D (ds : List D) (s : Sto) : Res D := match ds with
  | [.int i, .int j] => .ok (.int (if j < i then j else i)) s
  | _ => .bad
section
variable {X : Cx}
theorem v_min2 : VRC X.K (fun xs H Q => ∃ i j, xs = [.int i, .int j] ∧ Q (.int (if j < i then j else i)) H) min2D := fun w s xs ds Q E st rs hp => by
  unfold min2D at hp
  split at hp
  · cases rs with | cons q r => cases r with | cons q2 r2 => cases q; cases q2; cases r2; exact ⟨_, _, rfl, hp.pure st (.int _)⟩
  · exact hp.elim
end
/-- a getter that lets no exception out -/
def noxF (m : DF) : DF := fun ds s => match m ds s with
  | .exc _ _ _ => .bad
  | r => r
theorem FnD.nox {P : Program} {w : World} {K : Frag} {mg : Str → Option Value} {base : Heap} {k : Nat} {f : Addr} {m : DF} (F : FnD P w K mg base k f m) : FnD P w K mg base k f (noxF m) := fun A outer s H us vs Q E hr e0 r h => by
  obtain ⟨ds, so, u, hu, rs, st, hp⟩ := h
  refine F A outer s H us vs Q E hr e0 r ⟨ds, so, u, hu, rs, st, ?_⟩
  unfold noxF at hp
  cases e : m ds so <;> rw [e] at hp
  · exact hp
  · exact hp.elim
  · exact hp
end Mp
set_option Elab.async false
set_option linter.all false
set_option maxRecDepth 100000
set_option maxHeartbeats 4000000
/-! Mp: a caught error as a value: isinstance(e, C). -/
namespace Mp
open PySem PySem.Spec PyProof.Rows L2 PySem.Calls
section
variable {prog : Program} {w : World} {A : Around} {E : Value → Shared → Prop} {s : Shared} {K : Frag} {x C : Addr} {ox : Obj} {od : Option Obj}
theorem fo_data {n : Str} {a g : Value} (hc : (PySem.W.clsIn K C).isSome = true) (ha : PySem.W.findIn K (.ref C) n = some (some a)) (hg : PySem.W.specialIn K a "__get__" = some (some g)) (ht : PySem.W.takesIn K a = some true) : PySem.W.findObj K C od n = some (.bind g a) := by
  cases od with
  | none => exact PySem.W.findObj_dataN hc ha hg ht
  | some o => exact PySem.W.findObj_data hc ha hg ht
/-- e.__class__, with an own dict or without -/
theorem exc_class {Q : Option Value → Shared → Prop} (T : ExcC K C) (X : K.In s.heap) (I : PySem.W.InstAt s.heap x ox C od) (h : Q (some (.ref C)) { s with toks := s.toks + 1 }) : wpAny (model prog w) A (getAttr? (.ref x) "__class__") Q E s := by
  have isS : (PySem.W.clsIn K C).isSome = true := by
    obtain ⟨cd, hc, _⟩ := PySem.W.any_some T.hd
    rw [hc] <;> rfl
  have hf := fo_data (od := od) isS T.ha T.hn T.ht
  obtain ⟨hp, g, d, t, os⟩ := s
  have l0 := I.type (M := model prog w)
  have l1 := PySem.W.looks_findIn (M := model prog w) X T.hg
  have l2 := PySem.W.looks_findIn (M := model prog w) X T.hk
  have l3 := PySem.W.looks_find (M := model prog w) X I hf
  have isB : PySem.W.Looks (model prog w) hp (isInstance (.ref x) (.type "BaseException")) true := l0.andThen (PySem.W.looks_subIn X T.hs)
  have n1 : (Value.builtin "BaseException.__getattribute__" == Value.builtin "object.__getattribute__") = false := by
    decide +kernel
  unfold getAttr? getAttrBy? getAttrBy
  refine wpAny_bind (wpAny_mkText (wpAny_bind (wpAny_attempt (wpAny_holding (wpAny_bind (l0.at (wpAny_bind (l1.at ?_))))))))
  dsimp only
  rw [show (onTheHeap (Value.ref C) && Value.builtin "BaseException.__getattribute__" == Value.builtin "object.__getattribute__") = false from by
    rw [n1] <;> rfl]
  rw [if_neg (by decide)]
  unfold getAttrByItsOwn hookBefore
  refine wpAny_bind ?_
  rw [if_pos (show onTheHeap (Value.ref C) = true by rfl)]
  refine l2.at (wpAny_bind (wpAny_attempt (wpAny_holding ?_)))
  unfold callGetattribute
  rw [show (false && onTheHeap (Value.builtin "BaseException.__getattribute__")) = false by rfl, if_neg (by decide)]
  unfold boundAndCalled
  rw [PySem.F.excAttr_ValueError.ga.bind (.ref x)]
  refine wpAny_bind (wpAny_pure (wpAny_call (codeAny_call_builtin PySem.F.excAttr_ValueError.ga.plain PySem.F.entry_bexc_ga ?_)))
  refine @PySem.W.check_slot (model prog w) _ _ ⟨hp, g, d, t + 1, os⟩ "BaseException.__getattribute__" "BaseException" "__getattribute__" (.ref x) [.str "__class__" t] [] _ (by decide +kernel)
    (by decide +kernel) isB (PySem.F.args_bexc_ga (.ref x) (.str "__class__" t)) ?_
  unfold Builtin.«object.__getattribute__»
  refine wpAny_bind (wpAny_of_eq (a := ((Value.ref x : Value), [Value.str "__class__" t])) (by
    first
      | rfl
      | (simp only [slotArgs] <;> rfl)) (wpAny_bind (wpAny_pure (wpAny_bind (l0.at (wpAny_bind (l3.at ?_)))))))
  refine wpAny_bind (wpAny_holding (wpAny_call (PySem.W.class_get (s := ⟨hp, g, d, t + 1, os⟩) (ox := ox) (od := od) X I T.hm (wpAny_pure ?_))))
  show wpAny _ _ (handedOut (Value.ref C)) _ _ _
  rw [PySem.W.handedOut_of (v := Value.ref C) rfl]
  first
    | exact wpAny_pure h
    | exact wpAny_pure (wpAny_pure h)
    | exact wpAny_pure (wpAny_bind (wpAny_pure (wpAny_pure h)))
theorem exc_kit (T : ExcC K C) : PySem.W.KitX K (.ref x) (.ref C) (fun h => PySem.W.InstAt h x ox C od) := by
  have key : ∃ (c : Value) (d : Option Addr) (cd : ClassData) (sl : Array (Option Value)), K.lookup C = some ⟨c, d, .cls cd, sl⟩ := by
    obtain ⟨cd, hc, _⟩ := PySem.W.any_some T.hd
    unfold PySem.W.clsIn at hc
    split at hc
    · rename_i c' d' cd' sl' ho
      exact ⟨_, _, _, _, ho⟩
    · cases hc
  obtain ⟨c, d, cd, sl, ho⟩ := key
  refine ⟨fun _ _ _ I => I.type, fun h h' X I => ?_, fun h tp dd its n sl' X htp => ?_, fun X I k => exc_class T X I k⟩
  · intro A' Q' E' s' k q
    unfold isType loadHead
    exact wpAny_bind (wpAny_loadPart (k _ _ (X _ _ ho)) (wpAny_pure q))
  · refine Bool.eq_false_iff.mpr fun q => ?_
    have e : C = tp := Value.ref.inj (beq_iff_eq.mp q)
    subst e
    exact nomatch (X _ _ ho).symm.trans htp
end
/-! ### on data -/
def isxD (a : Addr) (d : Option Addr) (tt : List (String × Bool)) (ds : List D) (s : Sto) : Res D := match ds with
  | [.exn a' d' _ _, .ty n] => if a' = a ∧ d' = d then (match tt.lookup n with
    | some b => .ok (.bl b) s
    | none => .bad) else .bad
  | _ => .bad
def KitTab (K : Frag) (C : Str) (tt : List (String × Bool)) : Prop := ∀ q ∈ tt, PySem.W.kitOne K (.ref (He.ga K C)) (.type q.1) = some q.2
/-! ### the head's facts -/
abbrev ckXc (x : Str) : Frag → Bool := fun K => decide (PySem.W.findIn K (.ref (He.ga K x)) "__getattribute__" = some (some (.builtin "BaseException.__getattribute__"))) && (decide (PySem.W.findIn K (.ref (He.ga K x)) "__getattr__" = some none) && (decide (PySem.W.subIn K (.ref (He.ga K x)) (.type "BaseException") = some true) &&
  (PySem.W.hasDictIn K (He.ga K x) && (decide (PySem.W.findIn K (.ref (He.ga K x)) "__class__" = some (some (.builtin "object.__class__"))) && (decide (PySem.W.specialIn K (.builtin "object.__class__") "__get__" = some (some (.builtin "getset_descriptor.__get__"))) &&
  (decide (PySem.W.takesIn K (.builtin "object.__class__") = some true) && decide (PySem.W.mroIn K (He.ga K x) (.type "object") = some true)))))))
theorem Fx.xc {P : Program} {fb : List (Frag → Bool)} {fn : List DefM} {K : Frag} {mg : Str → Option Value} (Z : Fx P fb fn K mg) (i : Nat) {x : Str} (h : fb[i]? = some (ckXc x)) : ExcC K (He.ga K x) := by
  have f := Z.fact i h
  simp only [ckXc, Bool.and_eq_true, decide_eq_true_eq] at f
  obtain ⟨h1, h2, h3, h4, h5, h6, h7, h8⟩ := f
  exact ⟨h1, h2, h3, h4, h5, h6, h7, h8⟩
theorem xf_of {K : Frag} {C : Addr} (T : ExcC K C) : XfC K C := ⟨T.hg, T.hk, T.hs, T.hd⟩
abbrev ckKt (x : Str) (tt : List (String × Bool)) : Frag → Bool := fun K => tt.all fun q => decide (PySem.W.kitOne K (.ref (He.ga K x)) (.type q.1) = some q.2)
theorem Fx.kt {P : Program} {fb : List (Frag → Bool)} {fn : List DefM} {K : Frag} {mg : Str → Option Value} (Z : Fx P fb fn K mg) (i : Nat) {x : Str} {tt : List (String × Bool)} (h : fb[i]? = some (ckKt x tt)) : KitTab K x tt := fun q hq => of_decide_eq_true (List.all_eq_true.mp (Z.fact i h) q hq)
end Mp
set_option Elab.async false
set_option linter.all false
set_option maxRecDepth 100000
set_option maxHeartbeats 4000000
/-! Mp: repr of data with dicts. -/
namespace Mp
open PySem PySem.Spec PyProof.Rows L2
def keyP : Key → PyData
  | .inl i => .int i
  | .inr z => .str z
mutual
inductive Dq (K : Frag) (H : Hp) : V → PyData → Prop
  | non : Dq K H .non .none
  | bl (b : Bool) : Dq K H (.bl b) (.bool b)
  | int (i : Int) : Dq K H (.int i) (.int i)
  | str (x : Str) : Dq K H (.str x) (.str x)
  | lst {a : Addr} {xs : List V} {ds : List PyData} : SqL K H a xs → Dqs K H xs ds → Dq K H (.ref a) (.list ds)
  | tup {a : Addr} {xs : List V} {ds : List PyData} : SqT K H a xs → Dqs K H xs ds → Dq K H (.ref a) (.tuple ds)
  | dic {a : Addr} {kvs : List (Key × V)} {ds : List PyData} : Rd H a (.dK kvs) → Dqs K H (kvs.map (·.2)) ds → Dq K H (.ref a) (.dict ((kvs.map fun p => keyP p.1).zip ds))
inductive Dqs (K : Frag) (H : Hp) : List V → List PyData → Prop
  | nil : Dqs K H [] []
  | cons {v : V} {vs : List V} {d : PyData} {ds : List PyData} : Dq K H v d → Dqs K H vs ds → Dqs K H (v :: vs) (d :: ds)
end
theorem Dqs.length {K : Frag} {H : Hp} : ∀ {vs : List V} {ds : List PyData}, Dqs K H vs ds → vs.length = ds.length
  | _, _, .nil => rfl
  | _, _, .cons _ r => congrArg (· + 1) r.length
/-- sys.modules is no list -/
def SysD (K : Frag) : Prop := ∃ o, K.lookup sysModules = some o ∧ o.cls = .type "dict"
theorem pairs_keys {P : Program} {w : World} {h : Heap} : ∀ {es : List DictEntry} {vs : List (Key × Value)}, Pairs (mixKind P w) es vs → ∃ as, ReadsAll h (es.map (·.key)) (vs.map fun p => keyP p.1) as ∧ sysModules ∉ as
  | _, _, .nil => ⟨[], .nil, by simp⟩
  | e :: es, kv :: vs, .cons h1 h2 r => by
    obtain ⟨as, ra, hn⟩ := pairs_keys (h := h) r
    have k1 : ∃ as1, Reads h e.key (keyP kv.1) as1 ∧ sysModules ∉ as1 := by
      rcases keyIs_shape h1 with ⟨i, t, e1, e2⟩ | ⟨x, t, e1, e2⟩
      · rw [e1, e2]
        exact ⟨_, .int i t, by simp⟩
      · rw [e1, e2]
        exact ⟨_, .str x t, by simp⟩
    obtain ⟨as1, r1, n1⟩ := k1
    exact ⟨_, .cons r1 ra, fun z => (List.mem_append.mp z).elim n1 hn⟩
theorem pairs_vals {P : Program} {w : World} : ∀ {es : List DictEntry} {vs : List (Key × Value)}, Pairs (mixKind P w) es vs → es.map (·.val) = vs.map (·.2)
  | _, _, .nil => rfl
  | e :: es, kv :: vs, .cons h1 h2 r => by
    rw [List.map_cons, List.map_cons, pairs_vals r, h2]
theorem kv_vals : ∀ {l : List (Key × V)} {m : List (Key × Value)}, KV l m → Vals (l.map (·.2)) (m.map (·.2)) ∧ l.map (·.1) = m.map (·.1)
  | _, _, .nil => ⟨.nil, rfl⟩
  | _, _, .cons h r => by
    obtain ⟨h1, h2⟩ := kv_vals r
    exact ⟨.cons h.2 h1, by rw [List.map_cons, List.map_cons, h2, h.1]⟩
section
variable {X : Cx} {pins : List (Addr × Obj)} {t : L2.St} {H : Hp} {s : Shared}
mutual
theorem Dq.reads (I : Inv X pins t H s) (hS : SysD X.K) : ∀ {v : V} {d : PyData}, Dq X.K H v d → ∀ {u : Value}, RelV v u → ∃ as, Reads s.heap u d as ∧ sysModules ∉ as
  | _, _, .non, _, r => by
    cases r
    exact ⟨_, .none, by simp⟩
  | _, _, .bl b, _, r => by
    cases r
    exact ⟨_, .bool b, by simp⟩
  | _, _, .int i, _, r => by
    obtain ⟨k, rfl⟩ := r
    exact ⟨_, .int i k, by simp⟩
  | _, _, .str x, _, r => by
    obtain ⟨k, rfl⟩ := r
    exact ⟨_, .str x k, by simp⟩
  | _, _, .lst hs ha, _, r => by
    cases r
    obtain ⟨its, rv, ⟨o, n, ho, hc, _, hd⟩, _⟩ := I.list hs
    obtain ⟨as, hr, hn⟩ := Dqs.reads I hS ha rv
    refine ⟨_, Reads.list ho hc hd hr, fun z => ?_⟩
    rcases List.mem_cons.mp z with z | z
    · obtain ⟨o2, h2, h3⟩ := hS
      have h4 := I.kIn _ _ h2
      rw [z, ho] at h4
      cases h4
      rw [hc] at h3
      exact absurd h3 (by decide)
    · exact hn z
  | _, _, .tup hs ha, _, r => by
    cases r
    obtain ⟨its, rv, ⟨o, ho, hc, n, hd⟩, _⟩ := I.tuple hs
    obtain ⟨as, hr, hn⟩ := Dqs.reads I hS ha rv
    exact ⟨_, Reads.tuple ho hc hd hr, hn⟩
  | _, _, .dic hs ha, _, r => by
    cases r
    obtain ⟨_, hne, vs, kv, o, es, ep, ho, hx, hd, _, hp, _⟩ := dk_rd I.hok hs
    obtain ⟨rv, rk⟩ := kv_vals kv
    obtain ⟨as, ra, na⟩ := pairs_keys (h := s.heap) hp
    obtain ⟨bs, rb, nb⟩ := Dqs.reads I hS ha rv
    have hl := ha.length
    have e1 : ∀ (ks : List PyData) (ds : List PyData), ks.length = ds.length → (ks.zip ds).map (·.1) = ks := fun ks ds hl => List.map_fst_zip (by omega)
    have e2 : ∀ (ks : List PyData) (ds : List PyData), ks.length = ds.length → (ks.zip ds).map (·.2) = ds := fun ks ds hl => List.map_snd_zip (by omega)
    rw [List.length_map] at hl
    refine ⟨_, Reads.dict (as := as) (bs := bs) ho hx.1 hd ?_ ?_, fun z => ?_⟩
    · rw [e1 _ _ (by rw [List.length_map]; exact hl)]
      have e3 : ∀ {l : List (Key × V)} {m : List (Key × Value)}, l.map (·.1) = m.map (·.1) → (l.map fun p => keyP p.1) = m.map fun p => keyP p.1 := fun {l m} e => by
        have := congrArg (List.map keyP) e
        rw [List.map_map, List.map_map] at this
        exact this
      rw [e3 rk]
      exact ra
    · rw [e2 _ _ (by rw [List.length_map]; exact hl), pairs_vals hp]
      exact rb
    · rw [List.mem_append, List.mem_cons] at z
      rcases z with (z | z) | z
      · subst z
        exact absurd hne (by simp)
      · exact na z
      · exact nb z
theorem Dqs.reads (I : Inv X pins t H s) (hS : SysD X.K) : ∀ {vs : List V} {ds : List PyData}, Dqs X.K H vs ds → ∀ {us : List Value}, Vals vs us → ∃ as, ReadsAll s.heap us ds as ∧ sysModules ∉ as
  | _, _, .nil, _, r => by
    cases r
    exact ⟨_, .nil, by simp⟩
  | _, _, .cons h1 h2, _, r => by
    cases r with
    | cons r1 r2 =>
      obtain ⟨as, q1, n1⟩ := Dq.reads I hS h1 r1
      obtain ⟨bs, q2, n2⟩ := Dqs.reads I hS h2 r2
      exact ⟨_, .cons q1 q2, fun z => (List.mem_append.mp z).elim n1 n2⟩
end
end
/-! ### on data -/
mutual
def rdP (s : Sto) : Nat → D → Option PyData
  | 0, _ => none
  | n + 1, d => match d with
    | .non => some .none
    | .bl b => some (.bool b)
    | .int i => some (.int i)
    | .str z => some (.str z)
    | .tup l => (rdPs s n l).map .tuple
    | .lst l => (rdPs s n l).map .list
    | .rol l => (rdPs s n l).map .list
    | .dct m => (rdPs s n (m.map (·.2))).map fun ps => .dict ((m.map fun p => keyP p.1).zip ps)
    | .cel k => (match s[k]? with
      | some (some (.lst l)) => (rdPs s n l).map .list
      | some (some (.dct m)) => (rdPs s n (m.map (·.2))).map fun ps => .dict ((m.map fun p => keyP p.1).zip ps)
      | some (some (.rod m)) => (rdPs s n (m.map (·.2))).map fun ps => .dict ((m.map fun p => keyP p.1).zip ps)
      | _ => none)
    | _ => none
def rdPs (s : Sto) : Nat → List D → Option (List PyData)
  | 0, _ => none
  | _ + 1, [] => some []
  | n + 1, d :: l => (rdP s n d).bind fun p => (rdPs s n l).map fun ps => p :: ps
end
section
variable {K : Frag} {w : Wd} {s : Sto}
theorem KVR.keyP {l : List (Key × V)} {m : List (Key × D)} (h : KVR K w l m) : (l.map fun p => Mp.keyP p.1) = m.map fun p => Mp.keyP p.1 := by
  have := congrArg (List.map Mp.keyP) h.keys
  rw [List.map_map, List.map_map] at this
  exact this
mutual
theorem rdP_ok (st : StR K w s) : ∀ {n : Nat} {d : D} {v : V} {p : PyData}, Rep K w v d → rdP s n d = some p → Dq K w.H v p
  | 0, _, _, _, _, e => by
    rw [rdP] at e
    cases e
  | n + 1, d, v, p, r, e => by
    cases d with
    | non =>
      simp only [rdP] at e
      cases r
      cases e
      exact .non
    | bl b =>
      simp only [rdP] at e
      cases r
      cases e
      exact .bl b
    | int i =>
      simp only [rdP] at e
      cases r
      cases e
      exact .int i
    | str z =>
      simp only [rdP] at e
      cases r
      cases e
      exact .str z
    | tup l =>
      simp only [rdP] at e
      cases r with
      | tup h1 rs =>
        obtain ⟨ps, e1, rfl⟩ := Option.map_eq_some_iff.mp e
        exact .tup h1.sq (rdPs_ok st rs e1)
    | lst l =>
      simp only [rdP] at e
      cases r with
      | lst z h1 rs =>
        obtain ⟨ps, e1, rfl⟩ := Option.map_eq_some_iff.mp e
        exact .lst (SqL.of h1) (rdPs_ok st rs e1)
    | rol l =>
      simp only [rdP] at e
      cases r with
      | rol h1 rs =>
        obtain ⟨ps, e1, rfl⟩ := Option.map_eq_some_iff.mp e
        exact .lst h1.sq (rdPs_ok st rs e1)
    | dct m =>
      simp only [rdP] at e
      obtain ⟨a, o, l, rfl, _, h1, h2⟩ := r.dct_inv
      obtain ⟨ps, e1, rfl⟩ := Option.map_eq_some_iff.mp e
      rw [← h2.keyP]
      exact .dic (.inr ⟨o, h1⟩) (rdPs_ok st h2.vals e1)
    | cel k =>
      simp only [rdP] at e
      cases r with
      | cel ha =>
        cases hk : s[k]? with
        | none => rw [hk] at e; cases e
        | some oc =>
          rw [hk] at e
          cases oc with
          | none => cases e
          | some c =>
            obtain ⟨a1, h1, _, h3⟩ := st.at_ k c hk
            have ea := Option.some.inj (h1.symm.trans ha)
            subst ea
            cases c with
            | lst l =>
              obtain ⟨vs, hh, rs⟩ := h3
              obtain ⟨ps, e1, rfl⟩ := Option.map_eq_some_iff.mp e
              exact .lst (SqL.of hh) (rdPs_ok st rs e1)
            | dct m =>
              obtain ⟨l, hh, rs⟩ := h3
              obtain ⟨ps, e1, rfl⟩ := Option.map_eq_some_iff.mp e
              rw [← rs.keyP]
              exact .dic (.inl hh) (rdPs_ok st rs.vals e1)
            | rod m =>
              obtain ⟨o, l, _, hh, rs⟩ := h3
              obtain ⟨ps, e1, rfl⟩ := Option.map_eq_some_iff.mp e
              rw [← rs.keyP]
              exact .dic (.inr ⟨o, hh⟩) (rdPs_ok st rs.vals e1)
            | ins C fs => cases e
            | tab x => cases e
            | dtt m => cases e
    | clo _ _ _ _ _ => simp [rdP] at e
    | kot _ => simp [rdP] at e
    | lam _ _ _ => simp [rdP] at e
    | err _ => simp [rdP] at e
    | ty _ => simp [rdP] at e
    | glo _ => simp [rdP] at e
    | ins _ _ => simp [rdP] at e
    | exn _ _ _ _ => simp [rdP] at e
theorem rdPs_ok (st : StR K w s) : ∀ {n : Nat} {ds : List D} {vs : List V} {ps : List PyData}, Reps K w vs ds → rdPs s n ds = some ps → Dqs K w.H vs ps
  | 0, _, _, _, _, e => by
    rw [rdPs] at e
    cases e
  | n + 1, [], _, _, r, e => by
    rw [rdPs] at e
    cases r
    cases e
    exact .nil
  | n + 1, d :: l, _, _, r, e => by
    rw [rdPs] at e
    cases r with
    | cons r1 r2 =>
      obtain ⟨p, e1, e2⟩ := Option.bind_eq_some_iff.mp e
      obtain ⟨ps, e3, rfl⟩ := Option.map_eq_some_iff.mp e2
      exact .cons (rdP_ok st r1 e1) (rdPs_ok st r2 e3)
end
end
def reprX (ds : List D) (s : Sto) : Res D := match ds with
  | [x] => (match rdP s 99 x with
    | some p => if p.showable = true ∧ p.depth < 60 ∧ p.shown.length ≤ sizeLine then .ok (.str p.shown) s else .bad
    | none => .bad)
  | _ => .bad
def rReprX (K : Frag) : List V → Hp → VK → Prop := fun xs H Q => ∃ v d, xs = [v] ∧ Dq K H v d ∧ d.showable = true ∧ d.depth < 60 ∧ d.shown.length ≤ sizeLine ∧ Q (.str d.shown) H
section
variable {X : Cx} {W : WX}
theorem call_reprX (hS : SysD X.K) (hg : X.A.guards = some []) (hu : X.A.units + 64 < cLine) : CallR X (.builtin "repr") (rReprX X.K) := by
  intro pins s t H xs us Q I r h
  obtain ⟨v, d, rfl, dp, h1, h3, h4, q⟩ := h
  obtain ⟨u, rfl, ru⟩ := vals1 r
  obtain ⟨as, rd, nas⟩ := Dq.reads I hS dp ru
  have fin : ∀ (h' : Heap) (tk : Nat) (tq : Tok), (∀ b o, s.heap.get? b = some o → h'.get? b = some o) → EP X pins t Q (.str d.shown tq) { s with heap := h', toks := tk } := fun h' tk tq k => ⟨.str d.shown, H, I.kept k, ⟨_, rfl⟩, q⟩
  cases u with
  | ref p => exact repr_of_reads' rd h1 (fun _ => nas) hg (by omega) (fun _ _ e => e) (fun h' tq tk k => fin h' tk tq k) h4
  | none =>
    cases rd
    exact PySem.P.repr_of_none (fin s.heap _ _ fun _ _ e => e)
  | bool k =>
    cases rd
    have e : (PyData.bool k).shown = if k = true then Str.ofString "True" else Str.ofString "False" := by
      simp only [PyData.shown]
    rw [e] at fin
    exact PySem.P.repr_of_bool (fin s.heap _ _ fun _ _ e => e)
  | int i tk =>
    cases rd
    have e : (PyData.int i).shown = toString i := by
      simp only [PyData.shown]
    rw [e] at fin
    exact PySem.P.repr_of_int (by simpa [PyData.showable] using h1) (fin s.heap _ _ fun _ _ e => e)
  | str z tk =>
    cases rd
    have e : (PyData.str z).shown = reprText z := by
      simp only [PyData.shown]
    rw [e] at fin h4
    exact PySem.P.repr_of_str (fin s.heap _ _ fun _ _ e => e) h4
  | _ => nomatch rd
theorem v_reprX : VRC X.K (rReprX X.K) reprX := fun w s xs ds Q E st rs hp => by
  unfold reprX at hp
  cases rs with
  | nil => exact hp.elim
  | @cons v d vs ds h1 rs =>
    cases rs with
    | cons _ _ => exact hp.elim
    | nil =>
      dsimp only at hp
      cases e : rdP s 99 d with
      | none => rw [e] at hp; exact hp.elim
      | some p =>
        rw [e] at hp
        dsimp only at hp
        split at hp
        · rename_i hc
          exact ⟨v, p, rfl, rdP_ok st h1 e, hc.1, hc.2.1, hc.2.2, hp.pure st (.str _)⟩
        · exact hp.elim
/-- {} : a new cell -/
def disp0M : DE := fun _ s => .ok (.cel s.length) (s ++ [some (.dct [])])
theorem e_disp0 {pos : Pos} : PE X (.Dict [] [] pos) (tE X.K W disp0M) := PE.imp pe_dnewK fun t H Q h => by
  obtain ⟨r, s, w, rfl, env, st, hp⟩ := h
  intro p np
  have e := Wd.cell_ext st (o := .dK []) np
  exact hp (.ref p) (w.cell s.length p (.dK [])) e (Wd.cell_st st np ⟨[], upd_same, .nil⟩) (.cel (if_pos rfl))
end
abbrev ckSys : Frag → Bool := fun K => match K.lookup sysModules with
  | some o => decide (o.cls = .type "dict")
  | none => false
theorem Fx.sys {P : Program} {fb : List (Frag → Bool)} {fn : List DefM} {K : Frag} {mg : Str → Option Value} (Z : Fx P fb fn K mg) (i : Nat) (h : fb[i]? = some ckSys) : SysD K := by
  have f := Z.fact i h
  dsimp only [ckSys] at f
  cases e : K.lookup sysModules with
  | none => rw [e] at f; cases f
  | some o =>
    rw [e] at f
    exact ⟨o, e, of_decide_eq_true f⟩
end Mp
set_option Elab.async false
set_option linter.all false
set_option maxRecDepth 100000
set_option maxHeartbeats 4000000
/-! Mp: methods of lists and texts. -/
namespace Mp
open PySem PySem.Spec PyProof.Rows L2
def isLstD (s : Sto) (x : D) : Bool := (lstOf s x).isSome
/-- o.m(..), o of a built-in type -/
def bmD (ty : Sto → D → Bool) (f : D → List D → Sto → Res D) (o : DE) (a : DM (List D)) : DE := bindM o fun x => fun r s => if ty s x = true then bindM a (fun ds => fun _ s => f x ds s) r s else .bad
def TyOk (K : Frag) (T : String) (ty : Sto → D → Bool) : Prop := ∀ w s x d, StR K w s → Rep K w x d → ty s d = true → tyV K T x w.H
def VRM (K : Frag) (r : V → List V → Hp → VK → Prop) (f : D → List D → Sto → Res D) : Prop := ∀ w s x xs d ds Q E, StR K w s → Rep K w x d → Reps K w xs ds → Post K (Rep K) w E Q (f d ds s) → r x xs w.H Q
theorem ty_lst {K : Frag} : TyOk K "list" isLstD := fun w s x d st r h => by
  unfold isLstD at h
  cases e : lstOf s d with
  | none => rw [e] at h; cases h
  | some l =>
    obtain ⟨p, vs, rfl, hs, _⟩ := lstOf_ok st r e
    exact .inl ⟨rfl, vs, hs⟩
section
variable {X : Cx} {W : WX} {o e : Expr} {es : List Expr} {apos cpos : Pos} {mo : DE} {ma : DM (List D)} {T id : String} {name : Str} {r : V → List V → Hp → VK → Prop} {ty : Sto → D → Bool} {f : D → List D → Sto → Res D}
theorem e_bm (pa : PlainAttrs T) (slot : Slot T name id) (hty : typeOf (.builtin id) = pure (.type "method_descriptor")) (hm : MtR X id r) (hT : TyOk X.K T ty) (hv : VRM X.K r f) (ho : PE X o (tE X.K W mo)) (ha : PA X (e :: es) (tA X.K W ma))
    (hbase : attributeBase o name X.env (eval o X.env) = eval o X.env := by rfl)
    (hfew : ((backTo cpos (starEach (e :: es) X.env)).all (fun x => !x.1) && (backToKw cpos (keywordEach [] X.env)).all (fun x => x.1.isSome)
      && decide ((e :: es).length + ([] : List Keyword).length + (if ([] : List Keyword).isEmpty then 0 else 1) < 30)) = true := by rfl)
    (hline : (apos.endLine == cpos.line) = true := by rfl) (hs : starEach (e :: es) X.env = (false, eval e X.env) :: starEach es X.env := by rfl) (hplain : (backTo cpos (starEach es X.env)).any (·.1) = false := by rfl) :
    PE X (.Call (.Attribute o name apos) (e :: es) [] cpos) (tE X.K W (bmD ty f mo ma)) := PE.imp (pe_bm pa slot hty hm ho ha hbase hfew hline hs hplain) fun t H Q h => by
  obtain ⟨r, s, w, rfl, env, st, hp⟩ := h
  exact hp.bind env st fun x d s1 w1 e1 st1 r1 hp1 => by
    by_cases hk : ty s1 d = true
    · rw [if_pos hk] at hp1
      exact ⟨hT w1 s1 x d st1 r1 hk, hp1.bind (env.ext e1) st1 fun xs ds s2 w2 e2 st2 r2 hp2 => hv w2 s2 x xs d ds Q _ st2 (r1.ext e2) r2 hp2⟩
    · rw [if_neg hk] at hp1
      exact hp1.elim
end
/-! ### lists -/
theorem Reps.one {K : Frag} {w : Wd} {xs : List V} {d : D} (h : Reps K w xs [d]) : ∃ x, xs = [x] ∧ Rep K w x d := by
  cases h with
  | cons q r => cases r; exact ⟨_, rfl, q⟩
theorem cel_lst {K : Frag} {w : Wd} {s : Sto} {x : V} {n : Nat} {l : List D} (st : StR K w s) (r : Rep K w x (.cel n)) (h : s[n]? = some (some (.lst l))) : ∃ a vs, x = .ref a ∧ w.A n = some a ∧ ¬ w.Z a ∧ ¬ w.P a ∧ w.H a = some (.lst vs) ∧ Reps K w vs l := by
  cases r with
  | @cel n a0 hA =>
    obtain ⟨a1, h1, hz, hc⟩ := st.at_ n _ h
    have ea : a1 = a0 := Option.some.inj (h1.symm.trans hA)
    subst ea
    obtain ⟨vs, hh, rs⟩ := hc
    exact ⟨a1, vs, rfl, h1, hz, st.np n _ a1 h h1, hh, rs⟩
/-- a list in a cell is changed, something is told -/
theorem cel_set {K : Frag} {w : Wd} {s : Sto} {n : Nat} {l l2 : List D} {a : Addr} {vs2 : List V} {v : V} {d : D} {Q : VK} {E : XK} (st : StR K w s) (h : s[n]? = some (some (.lst l))) (hA : w.A n = some a) (hz : ¬ w.Z a) (hP : ¬ w.P a) (rs : Reps K w vs2 l2) (rv : Rep K w v d)
    (hp : Post K (Rep K) w E Q (.ok d (s.set n (some (.lst l2))))) : Q v (upd w.H a (.lst vs2)) := by
  have e3 : Ext w (w.put a (.lst vs2)) := Wd.mut_ext hz hP
  exact hp v (w.put a (.lst vs2)) e3 (Wd.mut_st st h hA hz ⟨_, upd_same, rs.ext e3⟩) (rv.ext e3)
theorem v_app {K : Frag} : VRM K rAppend appD := fun w s x xs d ds Q E st r rs hp => by
  unfold appD at hp
  split at hp
  · split at hp
    · split at hp
      · split at hp
        · rename_i _ n _ l h _ d2 hl
          obtain ⟨a, vs, rfl, hA, hz, hP, hh, rv⟩ := cel_lst st r h
          obtain ⟨y, rfl, ry⟩ := rs.one
          exact ⟨a, vs, y, rfl, rfl, hh, by rw [rv.length]; exact hl, cel_set st h hA hz hP (rv.append (.cons ry .nil)) .non hp⟩
        · exact hp.elim
      · exact hp.elim
    · exact hp.elim
  · exact hp.elim
def extD (x : D) (ds : List D) (s : Sto) : Res D := match x with
  | .cel n => (match s[n]? with
    | some (some (.lst l)) => (match ds with
      | [d] => (match lstX s d with
        | some l2 => if l.length + l2.length ≤ sizeLine then .ok .non (s.set n (some (.lst (l ++ l2)))) else .bad
        | none => .bad)
      | _ => .bad)
    | _ => .bad)
  | _ => .bad
theorem v_ext {K : Frag} : VRM K rExtend extD := fun w s x xs d ds Q E st r rs hp => by
  unfold extD at hp
  split at hp
  · split at hp
    · split at hp
      · split at hp
        · split at hp
          · rename_i _ n _ l h _ d2 _ l2 h2 hl
            obtain ⟨a, vs, rfl, hA, hz, hP, hh, rv⟩ := cel_lst st r h
            obtain ⟨y, rfl, ry⟩ := rs.one
            obtain ⟨b, zs, rfl, hb, rz⟩ := lstX_ok st ry h2
            exact ⟨a, b, vs, zs, rfl, rfl, hh, hb, by rw [rv.length, rz.length]; exact hl, cel_set st h hA hz hP (rv.append rz) .non hp⟩
          · exact hp.elim
        · exact hp.elim
      · exact hp.elim
    · exact hp.elim
  · exact hp.elim
/-! ### texts -/
end Mp
set_option Elab.async false
set_option linter.all false
set_option maxRecDepth 100000
set_option maxHeartbeats 4000000
/-! Mp: dict comprehensions. -/
namespace Mp
open PySem PySem.Spec PyProof.Rows L2
section
end
end Mp
set_option Elab.async false
set_option linter.all false
set_option maxRecDepth 100000
set_option maxHeartbeats 4000000
/-! Mp: sorted, dict(..). -/
namespace Mp
open PySem PySem.Spec PyProof.Rows L2
section
end
end Mp
set_option Elab.async false
set_option linter.all false
set_option maxRecDepth 100000
set_option maxHeartbeats 1000000
/-! Mp: zip(*rows), rows a tuple of tuples of one length: at the library's level. -/
namespace ZN
open PySem RZ
open PySem.Sem (wp)
/-- iterators it, it + 1, .. over the tuples ls (below B), all at place k, with the items xs there -/
def Ready (h : Heap) (B k : Nat) : Nat → List Addr → List Value → Prop
  | _, [], xs => xs = []
  | it, l :: ls, xs => ∃ x xs', xs = x :: xs' ∧ h.IsTupleIter it l k ∧ @LT.lt Nat _ l B ∧ (∃ items, h.IsTuple l items ∧ items[k]? = some x) ∧ Ready h B k (it + 1) ls xs'
def After (h : Heap) (k : Nat) : Nat → List Addr → Prop
  | _, [] => True
  | it, l :: ls => h.IsTupleIter it l k ∧ After h k (it + 1) ls
theorem Ready.stay {B k : Nat} {h h' : Heap} : ∀ {ls : List Addr} {it : Nat} {xs : List Value}, (∀ (c : Nat) (o : Obj), (c < B ∨ it ≤ c ∧ c < it + ls.length) → h.get? c = some o → h'.get? c = some o) → Ready h B k it ls xs → Ready h' B k it ls xs
  | [], _, _, _, r => r
  | l :: ls, it, xs, k1, ⟨x, xs', e, h1, h2, ⟨items, ⟨o, ho, hr⟩, hx⟩, h4⟩ => ⟨x, xs', e, h1.at fun o q => k1 it o (.inr ⟨Nat.le_refl _, by simp⟩) q, h2, ⟨items, ⟨o, k1 l o (.inl h2) ho, hr⟩, hx⟩,
      Ready.stay (fun (c : Nat) (o : Obj) hc q => k1 c o (hc.imp id fun z => ⟨by omega, by simp only [List.length_cons]; omega⟩) q) h4⟩
theorem After.stay {k : Nat} {h h' : Heap} : ∀ {ls : List Addr} {it : Nat}, (∀ (c : Nat) (o : Obj), it ≤ c ∧ c < it + ls.length → h.get? c = some o → h'.get? c = some o) → After h k it ls → After h' k it ls
  | [], _, _, _ => trivial
  | l :: ls, it, k1, ⟨h1, h4⟩ => ⟨h1.at fun o q => k1 it o ⟨Nat.le_refl _, by simp⟩ q, After.stay (fun (c : Nat) (o : Obj) hc q => k1 c o ⟨by omega, by simp only [List.length_cons]; omega⟩ q) h4⟩
theorem After.get {k : Nat} {h : Heap} : ∀ {ls : List Addr} {it : Nat} {c : Nat}, After h k it ls → it ≤ c → c < it + ls.length → ∃ l, h.IsTupleIter c l k
  | [], it, c, _, h1, h2 => by simp at h2; omega
  | l :: ls, it, c, a, h1, h2 => by
    by_cases e : c = it
    · subst e; exact ⟨l, a.1⟩
    · exact a.2.get (by omega) (by simp only [List.length_cons] at h2; omega)
theorem Ready.after {B k : Nat} {h : Heap} : ∀ {ls : List Addr} {it : Nat} {xs : List Value}, Ready h B k it ls xs → After h k it ls
  | [], _, _, _ => trivial
  | _ :: _, _, _, ⟨_, _, _, h1, _, _, h4⟩ => ⟨h1, h4.after⟩
theorem Ready.length {B k : Nat} {h : Heap} : ∀ {ls : List Addr} {it : Nat} {xs : List Value}, Ready h B k it ls xs → xs.length = ls.length
  | [], _, _, r => by rw [show _ = [] from r]; rfl
  | _ :: _, _, _, ⟨_, _, e, _, _, _, h4⟩ => by rw [e, List.length_cons, List.length_cons, h4.length]
section
end
/-- the zip object: what it handed out last, whether it was held -/
def IsZ (h : Heap) (z TI TO : Nat) : Prop := ∃ (g0 : Value) (b : Bool), (g0 = .none ∨ ∃ T : Nat, g0 = rawInt T) ∧ h.get? z = some { cls := .type "zip", dict := none, data := .fields #[g0, .bool b, .bool false, .ref TI, .ref TO], slots := #[] }
theorem IsZ.at {h h' : Heap} {z TI TO : Nat} (x : IsZ h z TI TO) (e : ∀ o, h.get? z = some o → h'.get? z = some o) : IsZ h' z TI TO := let ⟨g, b, q, r⟩ := x; ⟨g, b, q, e _ r⟩
section
end
section
end
section
end
end ZN
set_option Elab.async false
set_option linter.all false
set_option maxRecDepth 100000
set_option maxHeartbeats 4000000
/-! Mp: zip(*rows). -/
namespace Mp
open PySem PySem.Spec PyProof.Rows L2
/-! ### on data -/
def rowsD : List D → Option (List (List D))
  | [] => some []
  | .tup r :: l => (rowsD l).map fun rs => r :: rs
  | _ :: _ => none
inductive RowR (K : Frag) (w : Wd) : List Addr → List (List V) → List (List D) → Prop
  | nil : RowR K w [] [] []
  | cons {a : Addr} {vs : List V} {ds : List D} {as : List Addr} {vss : List (List V)} {dss : List (List D)} : TAt K w a vs → Reps K w vs ds → RowR K w as vss dss → RowR K w (a :: as) (vs :: vss) (ds :: dss)
theorem RowR.ext {K : Frag} {w w' : Wd} (e : Ext w w') : ∀ {ls : List Addr} {vss : List (List V)} {dss : List (List D)}, RowR K w ls vss dss → RowR K w' ls vss dss
  | _, _, _, .nil => .nil
  | _, _, _, .cons h r t => .cons (h.ext e) (r.ext e) (t.ext e)
section
end
end Mp
set_option Elab.async false
set_option linter.all false
set_option maxRecDepth 100000
set_option maxHeartbeats 4000000
/-! Mp: isinstance of a tuple of classes, len of dicts, list(range(n)). -/
namespace Mp
open PySem PySem.Spec PyProof.Rows L2
section
end
section
/-! ### len -/
end
/-! ### list(range(n)) -/
section
end
end Mp
set_option Elab.async false
set_option linter.all false
set_option maxRecDepth 100000
set_option maxHeartbeats 4000000
/-! Mp: lambdas without parameters, handed to a def. -/
namespace Mp
open PySem PySem.Spec PyProof.Rows L2
/-! ### a frame as data -/
/-! ### mirrors -/
/-! ### the lambda is made -/
section
end
/-! ### it is called -/
section
variable {X : Cx} {pins : List (Addr × Obj)} {t : L2.St} {H : Hp} {s : Shared}
/-- a def that gets a lambda: its text for any reading of the call -/
def LamD (P : Program) (w : World) (K : Frag) (mg : Str → Option Value) (base : Heap) (N : List Str) (x : Str) (sg : Scope) (g : Addr) (k : Nat) (bg : List Stmt) (a : Str) (b : DE → DS) : Prop :=
  ∀ (cdv : Value) (A : Around) (outer : List Env) (s : Shared) (H : Hp) (th : DE), Rm k (A.deeper (envOfC x sg s.heap.objs.size g cdv)) →
    (∀ (pn : List (Addr × Obj)) (xe : Value → Shared → Prop) (W : WX) (p1 p2 : Pos), Takes ((cxOf C8.CX0 P w K mg base N x sg g cdv A outer s H C8.E0).tr pn xe) W → PE ((cxOf C8.CX0 P w K mg base N x sg g cdv A outer s H C8.E0).tr pn xe) (.Call (.Name a p1) [] [] p2) (tE K W th)) →
    PSs (cxOf C8.CX0 P w K mg base N x sg g cdv A outer s H C8.E0).nox bg (tS K W0 (b th))
end
end Mp
set_option Elab.async false
set_option linter.all false
set_option maxRecDepth 100000
set_option maxHeartbeats 4000000
/-! Mp: the head and the end of a law in which lambdas are made. -/
namespace Mp
open PySem PySem.Spec PyProof.Rows L2
/-! ### the head -/
/-! ### the end -/
section
end
/-! ### a def in which lambdas are made -/
section
variable {P : Program} {w : World} {K : Frag} {mg : Str → Option Value} {base : Heap}
theorem LamD.mono {N : List Str} {x a : Str} {sg : Scope} {g : Addr} {k j : Nat} {bg : List Stmt} {b : DE → DS} (h : LamD P w K mg base N x sg g k bg a b) (hk : k ≤ j) : LamD P w K mg base N x sg g j bg a b := fun cdv A outer s H th hr act => h cdv A outer s H th (hr.mono hk) act
end
end Mp
set_option Elab.async false
set_option linter.all false
set_option maxRecDepth 100000
set_option maxHeartbeats 4000000
/-! Mp: a text some times. -/
namespace Mp
open PySem PySem.Spec PyProof.Rows L2
section
end
end Mp
set_option Elab.async false
set_option linter.all false
set_option maxRecDepth 100000
set_option maxHeartbeats 4000000
/-! Mp: a text backwards. -/
namespace Mp
open PySem PySem.Spec PyProof.Rows L2
section
end
end Mp
set_option Elab.async false
set_option linter.all false
set_option maxRecDepth 100000
set_option maxHeartbeats 4000000
/-! Mp: classmethods; a class called by a local name. -/
namespace Mp
open PySem PySem.Spec PyProof.Rows L2
section
end
/-! ### the head's facts -/
end Mp
set_option Elab.async false
set_option linter.all false
set_option maxRecDepth 100000
set_option maxHeartbeats 4000000
/-! Mp: several except clauses, with names or without. -/
namespace Mp
open PySem PySem.Spec PyProof.Rows L2
section
end
/-! ### on data -/
inductive Hd where
  | pl (tb : List (Str × Bool)) (mh : DS)
  | as (i : Nat) (E : Str) (tb : List (Str × Bool)) (mh : Addr → Option Addr → List (Str × D) → DS)
noncomputable def manyF : List Hd → Str → List (Str × D) → En → Sto → Fl
  | [], C, fs, r, s => .exc C fs r s
  | .pl tb mh :: hs, C, fs, r, s => match tb.lookup C with
    | some true => noExc (mh r s)
    | some false => manyF hs C fs r s
    | none => .bad
  | .as i E tb mh :: hs, C, fs, r, s => match tb.lookup C with
    | some true => if C = E then joinF (fun a d => offS i (mh a d fs (r.set i (some (.exn a d C fs))) s)) else .bad
    | some false => manyF hs C fs r s
    | none => .bad
noncomputable def tryNS (mb : DS) (hs : List Hd) : DS := fun r s => match mb r s with
  | .exc C fs r' s' => manyF hs C fs r' s'
  | f => f
section
end
end Mp
set_option Elab.async false
set_option linter.all false
set_option maxRecDepth 100000
set_option maxHeartbeats 4000000
/-! Mp: a text any number of times. -/
namespace Mp
open PySem PySem.Spec PyProof.Rows L2
section
end
end Mp
set_option Elab.async false
set_option linter.all false
set_option maxRecDepth 100000
set_option maxHeartbeats 1000000
/-! Mp: zip(*rows), rows a tuple of lists of one length: at the library's level. -/
namespace ZL
open PySem RZ
open PySem.Sem (wp)
/-- iterators it, it + 1, .. over the tuples ls (below B), all at place k, with the items xs there -/
def Ready (h : Heap) (B k : Nat) : Nat → List Addr → List Value → Prop
  | _, [], xs => xs = []
  | it, l :: ls, xs => ∃ x xs', xs = x :: xs' ∧ h.IsListIter it l k ∧ @LT.lt Nat _ l B ∧ (∃ items, h.IsList l items ∧ items[k]? = some x) ∧ Ready h B k (it + 1) ls xs'
def After (h : Heap) (k : Nat) : Nat → List Addr → Prop
  | _, [] => True
  | it, l :: ls => h.IsListIter it l k ∧ After h k (it + 1) ls
theorem Ready.stay {B k : Nat} {h h' : Heap} : ∀ {ls : List Addr} {it : Nat} {xs : List Value}, (∀ (c : Nat) (o : Obj), (c < B ∨ it ≤ c ∧ c < it + ls.length) → h.get? c = some o → h'.get? c = some o) → Ready h B k it ls xs → Ready h' B k it ls xs
  | [], _, _, _, r => r
  | l :: ls, it, xs, k1, ⟨x, xs', e, h1, h2, ⟨items, ⟨o, ho, hr⟩, hx⟩, h4⟩ => ⟨x, xs', e, h1.at fun o q => k1 it o (.inr ⟨Nat.le_refl _, by simp⟩) q, h2, ⟨items, ⟨o, k1 l o (.inl h2) ho, hr⟩, hx⟩,
      Ready.stay (fun (c : Nat) (o : Obj) hc q => k1 c o (hc.imp id fun z => ⟨by omega, by simp only [List.length_cons]; omega⟩) q) h4⟩
theorem After.stay {k : Nat} {h h' : Heap} : ∀ {ls : List Addr} {it : Nat}, (∀ (c : Nat) (o : Obj), it ≤ c ∧ c < it + ls.length → h.get? c = some o → h'.get? c = some o) → After h k it ls → After h' k it ls
  | [], _, _, _ => trivial
  | l :: ls, it, k1, ⟨h1, h4⟩ => ⟨h1.at fun o q => k1 it o ⟨Nat.le_refl _, by simp⟩ q, After.stay (fun (c : Nat) (o : Obj) hc q => k1 c o ⟨by omega, by simp only [List.length_cons]; omega⟩ q) h4⟩
theorem After.get {k : Nat} {h : Heap} : ∀ {ls : List Addr} {it : Nat} {c : Nat}, After h k it ls → it ≤ c → c < it + ls.length → ∃ l, h.IsListIter c l k
  | [], it, c, _, h1, h2 => by simp at h2; omega
  | l :: ls, it, c, a, h1, h2 => by
    by_cases e : c = it
    · subst e; exact ⟨l, a.1⟩
    · exact a.2.get (by omega) (by simp only [List.length_cons] at h2; omega)
theorem Ready.after {B k : Nat} {h : Heap} : ∀ {ls : List Addr} {it : Nat} {xs : List Value}, Ready h B k it ls xs → After h k it ls
  | [], _, _, _ => trivial
  | _ :: _, _, _, ⟨_, _, _, h1, _, _, h4⟩ => ⟨h1, h4.after⟩
theorem Ready.length {B k : Nat} {h : Heap} : ∀ {ls : List Addr} {it : Nat} {xs : List Value}, Ready h B k it ls xs → xs.length = ls.length
  | [], _, _, r => by rw [show _ = [] from r]; rfl
  | _ :: _, _, _, ⟨_, _, e, _, _, _, h4⟩ => by rw [e, List.length_cons, List.length_cons, h4.length]
section
end
/-- the zip object: what it handed out last, whether it was held -/
def IsZ (h : Heap) (z TI TO : Nat) : Prop := ∃ (g0 : Value) (b : Bool), (g0 = .none ∨ ∃ T : Nat, g0 = rawInt T) ∧ h.get? z = some { cls := .type "zip", dict := none, data := .fields #[g0, .bool b, .bool false, .ref TI, .ref TO], slots := #[] }
theorem IsZ.at {h h' : Heap} {z TI TO : Nat} (x : IsZ h z TI TO) (e : ∀ o, h.get? z = some o → h'.get? z = some o) : IsZ h' z TI TO := let ⟨g, b, q, r⟩ := x; ⟨g, b, q, e _ r⟩
section
end
section
end
section
end
end ZL
set_option Elab.async false
set_option linter.all false
set_option maxRecDepth 100000
set_option maxHeartbeats 4000000
/-! Mp: zip(*rows), the rows lists or tuples. -/
namespace Mp
open PySem PySem.Spec PyProof.Rows L2
/-! ### on data -/
inductive RowRL (K : Frag) (w : Wd) : List Addr → List (List V) → List (List D) → Prop
  | nil : RowRL K w [] [] []
  | cons {a : Addr} {vs : List V} {ds : List D} {as : List Addr} {vss : List (List V)} {dss : List (List D)} : LAt K w a vs → Reps K w vs ds → RowRL K w as vss dss → RowRL K w (a :: as) (vs :: vss) (ds :: dss)
theorem RowRL.ext {K : Frag} {w w' : Wd} (e : Ext w w') : ∀ {ls : List Addr} {vss : List (List V)} {dss : List (List D)}, RowRL K w ls vss dss → RowRL K w' ls vss dss
  | _, _, _, .nil => .nil
  | _, _, _, .cons h r t => .cons (h.ext e) (r.ext e) (t.ext e)
section
end
end Mp
set_option Elab.async false
set_option linter.all false
set_option maxRecDepth 100000
set_option maxHeartbeats 4000000
/-! Mp: comprehensions of two clauses, starred items of a display. -/
namespace Mp
open PySem PySem.Spec PyProof.Rows L2
open Classical in
noncomputable def lcF2 (c : Src) (g : DG) (tt : DM Bool) (mi1 : DM Src) (g1 : DG) (tt1 : DM Bool) (te : DE) (vs1 : List Nat) (r : En) : List D → List D → Sto → Res (List D)
  | [], acc, s => if SrcOk c s then .ok acc s else .bad
  | d :: l, acc, s => if SrcOk c s then (match g d r s with
    | none => .bad
    | some p => (match tt p.1 p.2 with
      | .ok k s1 => if k = true then (match mi1 p.1 s1 with
        | .ok c1 s2 => (match lcF c1 g1 tt1 te (wipeE p.1 vs1) c1.its acc s2 with
          | .ok acc2 s3 => lcF2 c g tt mi1 g1 tt1 te vs1 r l acc2 s3
          | _ => .bad)
        | _ => .bad) else lcF2 c g tt mi1 g1 tt1 te vs1 r l acc s1
      | _ => .bad)) else .bad
noncomputable def lc2M (k : Bool) (mi : DM Src) (g : DG) (tt : DM Bool) (mi1 : DM Src) (g1 : DG) (tt1 : DM Bool) (te : DE) (vs vs1 : List Nat) : DE := bindM mi fun c => fun r s => match lcF2 c g tt mi1 g1 tt1 te vs1 (wipeE r vs) c.its [] s with
  | .ok acc s' => newL k acc s'
  | _ => .bad
section
end
/-- a list, a tuple, a text that is walked within -/
def srcJ (s : Sto) : D → Option Src
  | .tup l => some ⟨l, none⟩
  | .lst l => some ⟨l, none⟩
  | .rol l => some ⟨l, none⟩
  | .str z => some ⟨chars z, none⟩
  | .cel n => (match s[n]? with
    | some (some (.lst l)) => some ⟨l, some n⟩
    | _ => none)
  | _ => none
def seqJ (a : DE) : DM Src := bindM a fun x => fun _ s => okO s (srcJ s x)
section
end
section
end
/-! ### starred items -/
def starC (e : DE) (m : DM (List D)) : DM (List D) := bindM e fun x => bindM (fun _ s => okO s (seqOf s x)) fun l => bindM m fun ys => pureM (l ++ ys)
section
end
end Mp
set_option Elab.async false
set_option linter.all false
set_option maxRecDepth 100000
set_option maxHeartbeats 4000000
/-! Mp: a dict merged into an empty one (displays with two stars, calls with two stars). -/
namespace MmX
open PySem PySem.Spec PyProof.Rows L2
section
end
section
end
end MmX
namespace Mp
open PySem PySem.Spec PyProof.Rows L2
/-- {**e} -/
def sprM (e : DE) : DE := bindM e fun x => fun _ s => match dctOf s x with
  | some m => .ok (.dct m) s
  | none => .bad
section
end
end Mp
set_option Elab.async false
set_option linter.all false
set_option maxRecDepth 100000
set_option maxHeartbeats 4000000
/-! Mp: operators and comparisons by a class's own defs. -/
namespace OwI
open PySem PySem.Spec PyProof.Rows L2
section
end
end OwI
namespace Mp
open PySem PySem.Spec PyProof.Rows L2
/-- an operator: an own def where both are instances of one class, otherwise f -/
def ownD (tb : List (Str × DF)) (f : D → D → Sto → Res D) (x y : D) (s : Sto) : Res D := match insOf s x with
  | some (C, _) => (match insOf s y with
    | some (C', _) => if C' = C then (match tb.lookup C with
      | some m => m [x, y] s
      | none => .bad) else .bad
    | none => .bad)
  | none => f x y s
def negB : Res D → Res D
  | .ok (.bl b) s => .ok (.bl (!b)) s
  | .ok _ _ => .bad
  | .exc C fs s => .exc C fs s
  | .bad => .bad
/-- == and != by an own __eq__ where both are instances -/
def eqO (neg : Bool) (tb : List ((Str × Str) × DF)) (x y : D) (s : Sto) : Res D := match insOf s x with
  | some (C, _) => (match insOf s y with
    | some (C', _) => (match tb.lookup (C, C') with
      | some m => if neg then negB (m [x, y] s) else m [x, y] s
      | none => .bad)
    | none => .bad)
  | none => eqG neg x y s
section
variable {X : Cx} {W : WX} {a b : Expr} {pos : Pos} {ma mb : DE}
/-- the rows: the def, and the class before the others of its own order -/
inductive OTab (X : Cx) (m : Str) : List (Str × DF) → Prop
  | nil : OTab X m []
  | cons {C : Str} {f : DF} {r : List (Str × DF)} : MethD X C m f → PySem.W.selfFirst X.K (He.ga X.K C) = true → OTab X m r → OTab X m ((C, f) :: r)
theorem OTab.get {m C : Str} {f : DF} : ∀ {tb : List (Str × DF)}, OTab X m tb → tb.lookup C = some f → MethD X C m f ∧ PySem.W.selfFirst X.K (He.ga X.K C) = true
  | _, .nil, h => by simp at h
  | _, .cons (C := E) h1 h2 r, h => by
    by_cases e : C = E
    · subst e
      rw [List.lookup_cons_self] at h
      cases h
      exact ⟨h1, h2⟩
    · rw [List.lookup_cons, show (C == E) = false from beq_eq_false_iff_ne.mpr e] at h
      exact r.get h
/-- rows for two classes -/
inductive QTab (X : Cx) (neg : Bool) : List ((Str × Str) × DF) → Prop
  | nil : QTab X neg []
  | cons {C C' : Str} {f : DF} {r : List ((Str × Str) × DF)} : MethD X C "__eq__" f → (∃ k, neg = true → (∃ g, Meth X.K (He.ga X.K C) "__eq__" g ∧ FnD X.prog X.w X.K X.mg X.base k g f ∧ Rm (k + 1) X.A) ∧ PySem.W.findIn X.K (.ref (He.ga X.K C)) "__ne__" = some (some (.builtin "object.__ne__")) ∧ PySem.W.subIn X.K (.ref (He.ga X.K C)) (.type "object") = some true) → PySem.W.notFirst X.K (He.ga X.K C) (.ref (He.ga X.K C')) = true → QTab X neg r → QTab X neg (((C, C'), f) :: r)
theorem QTab.get {neg : Bool} {C C' : Str} {f : DF} : ∀ {tb : List ((Str × Str) × DF)}, QTab X neg tb → tb.lookup (C, C') = some f → MethD X C "__eq__" f ∧ (∃ k, neg = true → (∃ g, Meth X.K (He.ga X.K C) "__eq__" g ∧ FnD X.prog X.w X.K X.mg X.base k g f ∧ Rm (k + 1) X.A) ∧ PySem.W.findIn X.K (.ref (He.ga X.K C)) "__ne__" = some (some (.builtin "object.__ne__")) ∧ PySem.W.subIn X.K (.ref (He.ga X.K C)) (.type "object") = some true) ∧ PySem.W.notFirst X.K (He.ga X.K C) (.ref (He.ga X.K C')) = true
  | _, .nil, h => by simp at h
  | _, .cons (C := E) (C' := E') h1 h2 h3 r, h => by
    by_cases e : (C, C') = (E, E')
    · cases e
      rw [List.lookup_cons_self] at h
      cases h
      exact ⟨h1, h2, h3⟩
    · rw [List.lookup_cons, show ((C, C') == (E, E')) = false from beq_eq_false_iff_ne.mpr e] at h
      exact r.get h
end
end Mp
set_option Elab.async false
set_option linter.all false
set_option maxRecDepth 100000
set_option maxHeartbeats 4000000
/-! Mp: dict(pairs), dict(d); get, items of dicts. -/
namespace Mp
open PySem PySem.Spec PyProof.Rows L2
section
end
section
end
end Mp
set_option Elab.async false
set_option linter.all false
set_option maxRecDepth 100000
set_option maxHeartbeats 4000000
/-! Mp: a tuple times an int; operators by own defs, the usual ones behind them; facts of own comparisons. -/
namespace TmX
open PySem PySem.Spec PyProof.Rows L2
open AutoSeq1 (wpAny_loadPart')
section
end
end TmX
namespace Mp
open PySem PySem.Spec PyProof.Rows L2
section
end
end Mp
set_option Elab.async false
set_option linter.all false
set_option maxRecDepth 100000
/-! Mp: the head's run, looked at thrice. -/
noncomputable section
namespace Mp
open PySem PySem.W PySem.Calls PyProof.Rows HandSHeadRun
def hdA (r : OpenRow) (M : Nat) (w : World) (os : OsState) : Option Bool := (endF (stepQ (denQ tabQ) r.prog w) M r.prog w os).map fun s => looksF r.prog (boot_heap w.params) s.abs
def hdB (r : OpenRow) (q : Program) (M : Nat) (loose : List PySem.Str) (w : World) (os : OsState) := (endF (stepQ (denQ tabQ) r.prog w) M r.prog w os).map fun s => seenQ q loose (importedModules r.prog.main.body) (fun s => xlAt q [] s && recOk r.toRowW.records s) s.abs
def hdC {T : Type} (r : OpenRow) (ob : SharedT → T) (M : Nat) (w : World) (os : OsState) : Option T := (endF (stepQ (denQ tabQ) r.prog w) M r.prog w os).map ob
theorem run_split {r : OpenRow} {q : Program} {H : Hook} {ob : SharedT → H.α} {M : Nat} {loose : List PySem.Str} {w : World} (a : ∀ os, hdA r M w os = some true) (b : ∀ os, hdB r q M loose w os = some (openGood q loose)) (c : ∀ os, hdC r ob M w os = some (H.val w)) : RunEq r q H ob M loose w := fun os => by
  have ha := a os
  have hb := b os
  have hc := c os
  unfold hdA at ha
  unfold hdB at hb
  unfold hdC at hc
  cases e : endF (stepQ (denQ tabQ) r.prog w) M r.prog w os with
  | none => rw [e] at ha; cases ha
  | some s =>
    rw [e] at ha hb hc
    have ha := Option.some.inj ha
    have hb := Option.some.inj hb
    have hc := Option.some.inj hc
    show some (looksF r.prog (boot_heap w.params) s.abs, seenQ q loose (importedModules r.prog.main.body) (fun s => xlAt q [] s && recOk r.toRowW.records s) s.abs, ob s) = _
    dsimp only at ha hb
    rw [ha, hb, hc]
end Mp
set_option Elab.async false
set_option linter.all false
set_option maxRecDepth 100000
/-! Mp: the head's third look, in parts. -/
noncomputable section
namespace Mp
open PySem PySem.W PySem.Calls PyProof.Rows HandSHeadRun
section
end
end Mp
set_option Elab.async false
set_option linter.all false
set_option maxRecDepth 100000
set_option maxHeartbeats 4000000
/-! Mp: defs with a parameter of two stars; calls with keywords for it. -/
namespace KwX
open PySem PySem.Spec PyProof.Rows L2
/-! ### the dict is filled -/
section
variable {prog : Program} {w : World} {A : Around} {E : Value → Shared → Prop} {d : Addr}
def kK {T : Type} (l : List (Str × T)) : List (Key × T) := l.map fun p => (.inr p.1, p.2)
end
/-! ### a new object laid ahead of a def's body, in more than one step -/
section
end
end KwX
namespace Mp
open PySem PySem.Spec PyProof.Rows L2
/-- values by position, values by keywords -/
def spDK (K : Frag) (m : DF) (vs : List V) (kvs : List (Str × V)) : Hp → VK → XK → Prop := fun H Q E => ∃ ds dks so u, u.H = H ∧ Reps K u vs ds ∧ KVR K u kvs dks ∧ StR K u so ∧ Post K (Rep K) u E Q (m (ds ++ [.dct (KwX.kK dks)]) so)
def FnDK (P : Program) (w : World) (K : Frag) (mg : Str → Option Value) (base : Heap) (k : Nat) (f : Addr) (m : DF) : Prop :=
  ∀ (A : Around) (outer : List Env) (s : Shared) (H : Hp) (us : List Value) (vs : List V) (kws : List (Str × Value)) (kvs : List (Str × V)) (Q : VK) (E : XK), Rm k A → Env0 P w K mg base A outer s H → Vals vs us → KV kvs kws → spDK K m vs kvs H Q E →
    codeAny (model P w) A (.call (.ref f) ⟨us, kws⟩) (CR (L2.CX P w) outer P w H s Q E) s
theorem FnDK.mono {P : Program} {w : World} {K : Frag} {mg : Str → Option Value} {base : Heap} {j k : Nat} {f : Addr} {m : DF} (F : FnDK P w K mg base j f m) (h : j ≤ k) : FnDK P w K mg base k f m := fun A outer s H us vs kws kvs Q E hr => F A outer s H us vs kws kvs Q E (hr.mono h)
section
end
end Mp
set_option Elab.async false
set_option linter.all false
set_option maxRecDepth 100000
set_option maxHeartbeats 4000000
/-! Mp: an own class called with keywords, with a dict behind two stars. -/
namespace KwX
open PySem PySem.Spec PyProof.Rows L2
section
end
section
end
section
end
end KwX
namespace Mp
open PySem PySem.Spec PyProof.Rows L2
section
variable {X : Cx} {W : WX} {a e : Expr} {es : List Expr} {pos p kp : Pos} {mr : DM (List D)} {me mn : DE} {x cc : Str} {k : Nat} {f : Addr} {mf : DF} {kws : List Keyword}
/-! ### keywords that are written -/
theorem ka_nil : PK X [] (tA X.K W nilA) := ⟨fun pos pins s t H Q I h => by
  obtain ⟨r, so, w, rfl, env, st, hp⟩ := h
  exact wpAny_evalAll_nil ⟨[], _, I, .nil, hp.pure st .nil⟩⟩
theorem ka_cons {nm : Option Str} (ha : PE X a (tE X.K W me)) (hr : PK X kws (tA X.K W mr)) : PK X (⟨nm, a, kp⟩ :: kws) (tA X.K W (consA me mr)) := ⟨fun pos pins s t H Q I h => (pk_cons (nm := nm) (kpos := kp) ha hr).run pos pins s t H Q I (by
  obtain ⟨r, so, w, rfl, env, st, hp⟩ := h
  exact hp.bind env st fun x d s1 w1 e1 st1 r1 hp1 => hp1.bind (env.ext e1) st1 fun y d2 s2 w2 e2 st2 r2 hp2 => hp2.pure st2 (.cons (r1.ext e2) r2))⟩
end
end Mp
set_option Elab.async false
set_option linter.all false
set_option maxRecDepth 100000
set_option maxHeartbeats 4000000
/-! Mp: dict.get, list(d), max(xs), sorted texts of any number, a dict held against an empty one. -/
namespace Mp
open PySem PySem.Spec PyProof.Rows L2
/-! ### d.get(k, x) -/
section
end
/-! ### sorted(xs) of texts, any number of them -/
section
end
/-! ### list(d) -/
section
end
/-! ### max(xs) of ints -/
section
end
/-! ### d == {} -/
section
end
/-! ### xs * n, a list of one's own -/
section
end
end Mp
set_option Elab.async false
set_option linter.all false
set_option maxRecDepth 100000
set_option maxHeartbeats 4000000
/-! Mp: sorted(xs, key=f), f a method of an own object or a function of one's own: the sort, over any law J that the calls of f keep. -/
namespace SkJ
open PySem PySem.W PySem.Calls PyProof.Rows
section
end
end SkJ
set_option Elab.async false
set_option linter.all false
set_option maxRecDepth 100000
set_option maxHeartbeats 4000000
/-! Mp: sorted(xs, key=o.m) as a rule. -/
namespace Mp
open PySem PySem.Spec PyProof.Rows L2
abbrev KP := Int × Str
def kP (p : KP) : PyData := .tuple [.int p.1, .str p.2]
def keysF (f : DF) (y : D) : List D → List KP → Sto → Res (List KP)
  | [], kd, s => .ok kd s
  | d :: l, kd, s => match f [y, d] s with
    | .ok (.tup [.int c, .str z]) s' => keysF f y l (kd ++ [(c, z)]) s'
    | _ => .bad
noncomputable def outK (kd : List KP) (l : List D) : List D := ((kd.zip l).mergeSort (PySem.W.dataLe false fun p => kP p.1)).map (·.2)
/-- the sort of the items x of the object y -/
noncomputable def sortF (f : DF) : DF := fun ds s => match ds with
  | [y, x] => (match lstOf s x with
    | some l => (match keysF f y l [] s with
      | .ok kd s' => .ok (.lst (outK kd l)) s'
      | _ => .bad)
    | none => .bad)
  | _ => .bad
section
end
end Mp
set_option Elab.async false
set_option linter.all false
set_option maxRecDepth 100000
set_option maxHeartbeats 4000000
/-! Mp: sorted(xs, key=o.m): the rule. -/
namespace Mp
open PySem PySem.Spec PyProof.Rows L2
structure MethK (X : Cx) (C m : Str) (mf : DF) : Prop where
  cls : Cls X.K (He.ga X.K C)
  ex : ∃ (g : Addr) (k : Nat), BMeth X.K (He.ga X.K C) m g ∧ FnD X.prog X.w X.K X.mg X.base k g mf ∧ Rm (k + 2) X.A
inductive KTab (X : Cx) (m : Str) : List (Str × DF) → Prop
  | nil : KTab X m []
  | cons {C : Str} {f : DF} {r : List (Str × DF)} : MethK X C m f → KTab X m r → KTab X m ((C, f) :: r)
theorem KTab.get {X : Cx} {m C : Str} {f' : DF} : ∀ {tb : List (Str × DF)}, KTab X m tb → (tb.map fun p => (p.1, sortF p.2)).lookup C = some f' → ∃ f, f' = sortF f ∧ MethK X C m f
  | _, .nil, h => by simp at h
  | _, .cons (C := E) (f := f) h1 r, h => by
    rw [List.map_cons] at h
    by_cases e : C = E
    · subst e
      rw [List.lookup_cons_self] at h
      cases h
      exact ⟨f, rfl, h1⟩
    · have hb : (C == E) = false := by simpa using e
      rw [List.lookup_cons, hb] at h
      exact r.get h
section
end
end Mp
set_option Elab.async false
set_option linter.all false
set_option maxRecDepth 100000
set_option maxHeartbeats 4000000
/-! Mp: < of two keys (number, text). -/
namespace Mp
open PySem PySem.Spec PyProof.Rows L2
section
end
end Mp
set_option Elab.async false
set_option linter.all false
set_option maxRecDepth 100000
set_option maxHeartbeats 4000000
/-! Mp: list(d.values()), list(d.items()). -/
namespace Mp
open PySem PySem.Spec PyProof.Rows L2 LiI
section
end
/-! the combinators -/
section
end
section
end
end Mp
set_option Elab.async false
set_option linter.all false
set_option maxRecDepth 100000
set_option maxHeartbeats 4000000
/-! Mp: repr of whole numbers of up to 4300 digits, and of lists and tuples of them. -/
namespace Mp
open PySem PySem.Spec PyProof.Rows L2
open PySem.Builtin
section
section
end
end
section
end
end Mp
set_option Elab.async false
set_option linter.all false
set_option maxRecDepth 100000
set_option maxHeartbeats 4000000
/-! Mp: a list comprehension whose element may raise. -/
namespace L2
open PySem PySem.Spec PyProof.Rows
section
end
section
end
section
end
end L2
namespace Mp
open PySem PySem.Spec PyProof.Rows L2
section
end
end Mp
set_option Elab.async false
set_option linter.all false
set_option maxRecDepth 100000
set_option maxHeartbeats 4000000
/-! Mp: enumerate(text). -/
namespace L2
open PySem PySem.Spec PyProof.Rows
section
end
end L2
namespace Mp
open PySem PySem.Spec PyProof.Rows L2
section
end
section
end
end Mp
set_option Elab.async false
set_option linter.all false
set_option maxRecDepth 100000
set_option maxHeartbeats 4000000
/-! Mp: zip of a list with a tuple. -/
namespace L2
open PySem PySem.Spec PyProof.Rows
end L2
namespace Mp
open PySem PySem.Spec PyProof.Rows L2
section
end
section
end
end Mp
set_option Elab.async false
set_option linter.all false
set_option maxRecDepth 100000
set_option maxHeartbeats 4000000
/-! Mp: methods with a parameter of two stars, called with keywords; str.index. -/
namespace Mp
open PySem PySem.Spec PyProof.Rows L2
section
variable {X : Cx} {W : WX} {o : Expr} {pos apos kp : Pos} {mo : DE} {m : Str} {k : Nat} {f : Addr} {mf : DF} {kws : List Keyword}
structure WMethKD (X : Cx) (C m : Str) (mf : DF) : Prop where
  cls : Cls X.K (He.ga X.K C)
  ex : ∃ (g : Addr) (k : Nat), Meth X.K (He.ga X.K C) m g ∧ FnDK X.prog X.w X.K X.mg X.base k g mf ∧ Rm k X.A
inductive WTabK (X : Cx) (m : Str) : List (Str × DF) → Prop
  | nil : WTabK X m []
  | cons {C : Str} {f : DF} {r : List (Str × DF)} : WMethKD X C m f → WTabK X m r → WTabK X m ((C, f) :: r)
theorem WTabK.get {C : Str} {f : DF} : ∀ {tb : List (Str × DF)}, WTabK X m tb → tb.lookup C = some f → WMethKD X C m f
  | _, .nil, h => by simp at h
  | _, .cons (C := E) h1 r, h => by
    by_cases e : C = E
    · subst e
      rw [List.lookup_cons_self] at h
      cases h
      exact h1
    · have hb : (C == E) = false := by simpa using e
      rw [List.lookup_cons, hb] at h
      exact r.get h
end
/-! ### list(text) -/
section
end
end Mp
set_option Elab.async false
set_option linter.all false
set_option maxRecDepth 100000
set_option maxHeartbeats 4000000
/-! Mp: dict(zip(keys, values)) of two lists. -/
namespace L2
open PySem PySem.Spec PyProof.Rows
end L2
namespace Mp
open PySem PySem.Spec PyProof.Rows L2
section
end
section
end
end Mp
set_option Elab.async false
set_option linter.all false
set_option maxRecDepth 100000
set_option maxHeartbeats 4000000
/-! Mp: split, upper, f-strings, int(text), xs[::-1], defs called by keywords in their order. -/
namespace Mp
open PySem PySem.Spec PyProof.Rows L2
section
/-! ### f-strings -/
end
/-! ### a def called by keywords, in the order of its parameters -/
def FnN (P : Program) (w : World) (K : Frag) (mg : Str → Option Value) (base : Heap) (k : Nat) (f : Addr) (ps : List Str) (m : DF) : Prop :=
  ∀ (A : Around) (outer : List Env) (s : Shared) (H : Hp) (us : List Value) (vs : List V) (Q : VK) (E : XK), Rm k A → Env0 P w K mg base A outer s H → Vals vs us → vs.length = ps.length → spD K m vs H Q E → codeAny (model P w) A (.call (.ref f) ⟨[], ps.zip us⟩) (CR (L2.CX P w) outer P w H s Q E) s
section
variable {P : Program} {w : World} {K : Frag} {mg : Str → Option Value} {base : Heap}
theorem FnN.mono {j k : Nat} {f : Addr} {ps : List Str} {m : DF} (F : FnN P w K mg base j f ps m) (h : j ≤ k) : FnN P w K mg base k f ps m := fun A outer s H us vs Q E hr => F A outer s H us vs Q E (hr.mono h)
end
section
end
/-! ### == of two dicts that are equal -/
section
end
end Mp
set_option Elab.async false
set_option linter.all false
set_option maxRecDepth 100000
set_option maxHeartbeats 4000000
/-! Mp: sorted(xs, key=lambda x: e); x in o by an own __contains__. -/
namespace Mp
open PySem PySem.Spec PyProof.Rows L2
section
end
section
end
/-! ### x in o -/
section
end
section
end
section
end
end Mp
set_option Elab.async false
set_option linter.all false
set_option maxRecDepth 100000
set_option maxHeartbeats 4000000
/-! Mp: str(i) and f"{i}" of whole numbers of up to 4300 digits. -/
namespace Mp
open PySem PySem.Spec PyProof.Rows L2
open PySem.Builtin
section
end
section
end
end Mp
set_option Elab.async false
set_option linter.all false
set_option maxRecDepth 100000
set_option maxHeartbeats 4000000
/-! Mp: dicts with tuples as keys; min of tuples (number, text); pop() of lists; two attributes set at once. -/
namespace Mp
open PySem PySem.Spec PyProof.Rows L2
/-! ### keys -/
/-! ### {k: v}, k a tuple -/
section
end
/-! ### a dict with tuples as keys in a cell -/
theorem KVR.drop {K : Frag} {w : Wd} {T : Type} [DecidableEq T] {k : T} : ∀ {l : List (T × V)} {m : List (T × D)}, KVR K w l m → KVR K w (L2.dropK l k) (m.filter fun p => decide (p.1 ≠ k))
  | _, _, .nil => .nil
  | _, _, .cons (k := j) (l := l) (m := m) h r => by
    have ih := KVR.drop (k := k) r
    unfold L2.dropK at ih ⊢
    by_cases e : j = k
    · rw [List.filter_cons_of_neg (by simpa using e), List.filter_cons_of_neg (by simpa using e)]
      exact ih
    · rw [List.filter_cons_of_pos (by simpa using e), List.filter_cons_of_pos (by simpa using e)]
      exact .cons h ih
/-! d[k] = v -/
section
/-! d != {} -/
end
/-! ### list(d) -/
/-! ### min(xs), xs of tuples (number, text) -/
section
end
/-! ### d.pop(k) -/
end Mp
namespace DT
open PySem PyProof.Rows
section
end
end DT
namespace Mp
open PySem PySem.Spec PyProof.Rows L2
section
/-! ### xs.pop() -/
/-! ### an attribute as a target -/
end
end Mp
set_option Elab.async false
set_option linter.all false
set_option maxRecDepth 100000
set_option maxHeartbeats 4000000
/-! Mp: static methods, constants read off a class, own == and != with plain values, any value in a list of texts. -/
namespace PySem.SeqAt
open AutoSeq1 (wpAny_loadPart')
open MeetsSeq
end PySem.SeqAt
namespace Mp
open PySem PySem.Spec PyProof.Rows L2
/-! ### C.m(e, ..), m a static method -/
section
/-! ### C.f, f a constant of the class -/
end
/-! ### the head's facts -/
/-! ### == and != of an instance and a plain value -/
inductive PTab (X : Cx) (neg : Bool) : List ((Str × String) × DF) → Prop
  | nil : PTab X neg []
  | cons {C : Str} {n : String} {f : DF} {r : List ((Str × String) × DF)} : MethD X C "__eq__" f → (∃ k, neg = true → (∃ g, Meth X.K (He.ga X.K C) "__eq__" g ∧ FnD X.prog X.w X.K X.mg X.base k g f ∧ Rm (k + 1) X.A) ∧ PySem.W.findIn X.K (.ref (He.ga X.K C)) "__ne__" = some (some (.builtin "object.__ne__")) ∧ PySem.W.subIn X.K (.ref (He.ga X.K C)) (.type "object") = some true) → PySem.W.notFirst X.K (He.ga X.K C) (.type n) = true → PTab X neg r → PTab X neg (((C, n), f) :: r)
theorem PTab.get {X : Cx} {neg : Bool} {C : Str} {n : String} {f : DF} : ∀ {tb : List ((Str × String) × DF)}, PTab X neg tb → tb.lookup (C, n) = some f → MethD X C "__eq__" f ∧ (∃ k, neg = true → (∃ g, Meth X.K (He.ga X.K C) "__eq__" g ∧ FnD X.prog X.w X.K X.mg X.base k g f ∧ Rm (k + 1) X.A) ∧ PySem.W.findIn X.K (.ref (He.ga X.K C)) "__ne__" = some (some (.builtin "object.__ne__")) ∧ PySem.W.subIn X.K (.ref (He.ga X.K C)) (.type "object") = some true) ∧ PySem.W.notFirst X.K (He.ga X.K C) (.type n) = true
  | _, .nil, h => by simp at h
  | _, .cons (C := E) (n := E') h1 h2 h3 r, h => by
    by_cases e : (C, n) = (E, E')
    · cases e
      rw [List.lookup_cons_self] at h
      cases h
      exact ⟨h1, h2, h3⟩
    · rw [List.lookup_cons, show ((C, n) == (E, E')) = false from beq_eq_false_iff_ne.mpr e] at h
      exact r.get h
section
end
/-! ### any value in a list of texts -/
section
end
end Mp
set_option Elab.async false
set_option linter.all false
set_option maxRecDepth 100000
set_option maxHeartbeats 4000000
/-! Mp: o.f += e for integers. -/
namespace Mp
open PySem PySem.Spec PyProof.Rows L2
section
end
/-! ### a list and the empty list -/
section
end
/-! ### None in a list of any things but dicts and instances -/
section
end
end Mp
set_option Elab.async false
set_option linter.all false
set_option maxRecDepth 100000
set_option maxHeartbeats 4000000
/-! Mp: lambdas that are kept in lists and called later, in the def that made them. -/
namespace Mp
open PySem PySem.Spec PyProof.Rows L2
/-! ### a lambda is made and kept -/
section
variable {X : Cx} {pins : List (Addr × Obj)} {t : L2.St} {H : Hp} {s : Shared}
abbrev anyH : HO := .ext fun _ => True
end
/-! ### it is called -/
section
end
/-! ### a choice as a test -/
section
end
/-! ### tables of lambdas, for gen.py -/
/-- one row of the table of the lambdas of a def -/
def LamRow (X : Cx) (k : Nat) (T : LamT) (te : DE) : Prop :=
  T.q = X.env.qual ++ "<lambda>" ∧ LamX.LamS X.env.scope T.scope ∧ (∀ (q : Str) (cl : List (Str × Addr)) (pm cv ctv : Value), bindArgs (PySem.W.kla_fn "<lambda>" q T.params T.body T.scope cl pm cv ctv) ⟨[], []⟩ = pure []) ∧
    (∀ (f c : Addr) (A : Around) (outer : List Env) (s : Shared) (H : Hp) (E : XK), Rm k (A.deeper (LamX.lamEnv X T.scope s.heap.objs.size f c)) → PE (LamX.lamCx X A outer s H E T.scope f c) T.body (tE X.K (fun cl d _ H' => E cl d H') te))
inductive TabOk (X : Cx) (k : Nat) : List (LamT × DE) → Prop
  | nil : TabOk X k []
  | cons {T : LamT} {te : DE} {l : List (LamT × DE)} : LamRow X k T te → TabOk X k l → TabOk X k ((T, te) :: l)
theorem TabOk.get {X : Cx} {k : Nat} : ∀ {l : List (LamT × DE)}, TabOk X k l → ∀ T te, (T, te) ∈ l → LamRow X k T te
  | _, .nil, _, _, h => by cases h
  | _, .cons h r, T, te, m => by
    rcases List.mem_cons.mp m with e | m
    · cases e
      exact h
    · exact r.get T te m
/-! ### methods called by keywords in any order -/
def pickL {α : Type} (π : List Nat) (l : List α) : List α := π.filterMap fun i => l[i]?
def FnP (P : Program) (w : World) (K : Frag) (mg : Str → Option Value) (base : Heap) (k : Nat) (f : Addr) (ks : List Str) (π : List Nat) (m : DF) : Prop :=
  ∀ (A : Around) (outer : List Env) (s : Shared) (H : Hp) (u0 : Value) (v0 : V) (us : List Value) (vs : List V) (Q : VK) (E : XK), Rm k A → Env0 P w K mg base A outer s H → L2.RelV v0 u0 → Vals vs us → vs.length = ks.length → spD K m (v0 :: pickL π vs) H Q E →
    codeAny (model P w) A (.call (.ref f) ⟨[u0], ks.zip us⟩) (CR (L2.CX P w) outer P w H s Q E) s
section
variable {P : Program} {w : World} {K : Frag} {mg : Str → Option Value} {base : Heap}
theorem FnP.mono {j k : Nat} {f : Addr} {ks : List Str} {π : List Nat} {m : DF} (F : FnP P w K mg base j f ks π m) (h : j ≤ k) : FnP P w K mg base k f ks π m := fun A outer s H u0 v0 us vs Q E hr => F A outer s H u0 v0 us vs Q E (hr.mono h)
end
section
variable {X : Cx} {W : WX} {o : Expr} {pos apos : Pos} {mo : DE} {m : Str} {k : Nat} {f : Addr} {mf : DF} {kws : List Keyword}
structure WMethP (X : Cx) (ks : List Str) (π : List Nat) (C m : Str) (mf : DF) : Prop where
  cls : Cls X.K (He.ga X.K C)
  ex : ∃ (g : Addr) (k : Nat), Meth X.K (He.ga X.K C) m g ∧ FnP X.prog X.w X.K X.mg X.base k g ks π mf ∧ Rm k X.A
inductive WTabP (X : Cx) (ks : List Str) (π : List Nat) (m : Str) : List (Str × DF) → Prop
  | nil : WTabP X ks π m []
  | cons {C : Str} {f : DF} {r : List (Str × DF)} : WMethP X ks π C m f → WTabP X ks π m r → WTabP X ks π m ((C, f) :: r)
theorem WTabP.get {ks : List Str} {π : List Nat} {C : Str} {f : DF} : ∀ {tb : List (Str × DF)}, WTabP X ks π m tb → tb.lookup C = some f → WMethP X ks π C m f
  | _, .nil, h => by simp at h
  | _, .cons (C := E) h1 r, h => by
    by_cases e : C = E
    · subst e
      rw [List.lookup_cons_self] at h
      cases h
      exact h1
    · have hb : (C == E) = false := by simpa using e
      rw [List.lookup_cons, hb] at h
      exact r.get h
end
/-! ### a def whose lambdas are kept, which tells a truth and whose store holds tables alone -/
section
end
end Mp
set_option Elab.async false
set_option linter.all false
set_option maxRecDepth 100000
set_option maxHeartbeats 4000000
namespace PySem
namespace HandSPX
open PySem.W PySem.Calls PyProof.Rows
section
variable {M : Model} {A : Around} {E : Value → Shared → Prop} {h : Heap} {g : Array GenState} {d : Drawn} {t : Nat} {os : OsState}
variable {nm q : Str} {C N : Addr} {bs bm bmB : List Value} {hdct : Bool} {sn : List Str} {sub : List Value} {ab : Bool} {col : Option Bool} {dd : Option Addr} {k0 k1 k2 k3 k5 : Option Value} {B newId initId : String}
theorem check_new_ownK (F : ExcBaseFacts B newId initId bmB) (hT : ∀ X : String, bm.contains (.type X) = bmB.contains (.type X)) {rest : List Value} {kw : List (Str × Value)} {Q : Unit → Shared → Prop}
    (hC : h.get? C = some (excClassObj nm q C N bs bm hdct sn sub ab col dd k0 k1 k2 k3 k5 newId)) (hq : Q () ⟨h, g, d, t, os⟩) : wpAny M A (checkBuiltinCall newId ⟨.ref C :: rest, kw⟩) Q E ⟨h, g, d, t, os⟩ := by
  have hcont : (Value.ref C :: bm).contains (.type B) = true := by rw [List.contains_cons, hT, F.hasB, Bool.or_true]
  have hstar := F.noStar
  simp only [checkBuiltinCall, F.newKind, F.newSplit, F.newRow]
  repeat (first | refine wpAny_loadPart_at hC ?_ | (refine wpAny_isSubtype_exc hC ?_; rw [hcont]) | refine wpAny_staticBase_exc hC ?_ | refine wpAny_madeBy_exc hC ?_ | simp only [bne_self_eq_false, Bool.false_eq_true, if_false] | wp_step)
  exact hq
end
section
variable {prog : Program} {w : World} {A : Around} {E : Value → Shared → Prop} {R : Result → Shared → Prop} {h : Heap} {g : Array GenState} {d : Drawn} {t : Nat} {os : OsState}
variable {nm q : Str} {C N : Addr} {bs bm bmB : List Value} {hdct : Bool} {sn : List Str} {sub : List Value} {ab : Bool} {col : Option Bool} {dd : Option Addr} {k0 k1 k2 k3 k5 : Option Value} {B newId initId : String}
theorem new_ownK (F : ExcBaseFacts B newId initId bmB) (hT : ∀ X : String, bm.contains (.type X) = bmB.contains (.type X)) {f : Str} {u : Value}
    (hC : h.get? C = some (excClassObj nm q C N bs bm hdct sn sub ab col dd k0 k1 k2 k3 k5 newId))
    (hq : R (.ok (.ret (.ref (h.objs.size + 1)))) ⟨(h.push { cls := .type "tuple", data := .seq [].toArray }).push
      { cls := .ref C, data := .fields #[.ref h.objs.size, .none, .none, .none, .bool false, .none] }, g, d, t, os⟩) :
    codeAny (model prog w) A (.builtin newId ⟨[.ref C], [(f, u)]⟩) R ⟨h, g, d, t, os⟩ := by
  have hends := F.ends
  have hcB : (Value.ref C :: bm).contains (.type B) = true := by rw [List.contains_cons, hT, F.hasB, Bool.or_true]
  have hcA : (Value.ref C :: bm).contains (.type "AttributeError") = false := by rw [List.contains_cons, hT, F.noAttr]; rfl
  have hcN : (Value.ref C :: bm).contains (.type "NameError") = false := by rw [List.contains_cons, hT, F.noName]; rfl
  refine codeAny_builtinAt F.entry ?_
  unfold Builtin.«BaseException.__new__»
  refine wpAt_bind ?_
  show wpAt _ _ _ (stack >>= _) _ _ _
  refine wpAt_bind (wpAt_stack fun p below => wpAt_of_wpAny ?_)
  wp_walk
  refine wpAt_of_wpAny ?_
  rw [F.owner]
  repeat (first | with_reducible refine wpAny_madeHere_exc F.canon hC ?_ | with_reducible refine wpAny_loadPart_at hC ?_ | (with_reducible refine wpAny_isSubtype_exc hC ?_; first | rw [hcB] | rw [hcA] | rw [hcN]) | wp_step)
  show R _ _
  rw [Heap.size_push]
  exact hq
theorem type_call_ownK (F : ExcBaseFacts B newId initId bmB) (hT : ∀ X : String, bm.contains (.type X) = bmB.contains (.type X)) {f : Str} {u : Value} {fI : Addr} {Q : Fin → Shared → Prop}
    (hC : h.get? C = some (excClassObj nm q C N bs bm hdct sn sub ab col dd k0 k1 k2 k3 k5 newId))
    (hi : W.Looks (model prog w) h (typeLookup (.ref C) "__init__") (some (.ref fI))) (hb : ∀ self, W.Looks (model prog w) h (bindSpecial (.ref fI) self) (.ref fI, [self]))
    (hq : codeAny (model prog w) A (.call (.ref fI) ⟨[.ref (h.objs.size + 1)], [(f, u)]⟩)
      (fun r s' => match r with | .ok (.ret v) => v = .none ∧ Q (.done (.ret (.ref (h.objs.size + 1)))) s' | .ok _ => False | .error e => E e s')
      ⟨(h.push (W.kdv_tup [])).push (excO C h.objs.size), g, d, t, os⟩) :
    wpAny (model prog w) A (Builtin.«type.__call__» ⟨[.ref C], [(f, u)]⟩) Q E ⟨h, g, d, t, os⟩ := by
  repeat (first | with_reducible refine wpAny_loadPart_at hC ?_ | with_reducible refine wpAny_madeBy_exc hC ?_ | wp_step)
  refine codeAny_call_builtin_code (Code.quiet_builtin _ F.quiet) (check_new_ownK F hT hC ?_)
  refine new_ownK F hT hC ?_
  show wpAny _ _ _ _ _ _
  have k : ∀ b o, h.get? b = some o → ((h.push (W.kdv_tup [])).push (excO C h.objs.size)).get? b = some o := fun b o e => Heap.get?_push_of_some _ (Heap.get?_push_of_some _ e)
  have hC₁ := k _ _ hC
  have hget : ((h.push (W.kdv_tup [])).push (excO C h.objs.size)).get? (h.objs.size + 1) = some (excO C h.objs.size) := by heap_get
  have hcC : (Value.ref C :: bm).contains (.ref C) = true := by simp
  have i1 := hi.keeps k
  have b1 := (hb (.ref (h.objs.size + 1))).keeps k
  unfold isInstance
  repeat (first | with_reducible refine wpAny_loadPart_at hget ?_ | (with_reducible refine wpAny_isSubtype_exc hC₁ ?_; rw [hcC]) | wp_step)
  show wpAny _ _ (typeLookup (.ref C) _) _ _ _
  refine i1.at ?_
  refine wpAny_holding (wpAny_bind (b1.at ?_))
  refine wpAny_bind (wpAny_call (codeAny_mono hq fun r s' z => ?_))
  rcases r with e | (v | _ | _ | _) <;> first | exact z | exact z.elim | skip
  obtain ⟨rfl, z⟩ := z
  first
    | exact wpAny_pure (wpAny_pure z)
    | (wp_walk; exact z)
theorem check_type_callK {M : Model} {rest : List Value} {kw : List (Str × Value)} {E : Value → Shared → Prop} {Q : Unit → Shared → Prop} (hC : h.get? C = some (excClassObj nm q C N bs bm hdct sn sub ab col dd k0 k1 k2 k3 k5 newId))
    (hq : Q () ⟨h, g, d, t, os⟩) : wpAny M A (checkBuiltinCall "type.__call__" ⟨.ref C :: rest, kw⟩) Q E ⟨h, g, d, t, os⟩ := by
  have f3 := tc_sub
  have hT : (⟨h, g, d, t, os⟩ : Shared).TypeIs (.ref C) "type" := ⟨_, hC, rfl⟩
  simp only [checkBuiltinCall, tc_kind, tc_split]
  repeat (any_goals (first | assumption | with_reducible refine wpAny_loadPart_at hC ?_ | with_reducible refine wpAny_onRaise ?_ | with_reducible refine wpAny_map ?_ | wp_step))
theorem call_ownK (F : ExcBaseFacts B newId initId bmB) (hT : ∀ X : String, bm.contains (.type X) = bmB.contains (.type X)) {f : Str} {u : Value} {fI : Addr}
    (hC : h.get? C = some (excClassObj nm q C N bs bm hdct sn sub ab col dd k0 k1 k2 k3 k5 newId))
    (hi : W.Looks (model prog w) h (typeLookup (.ref C) "__init__") (some (.ref fI))) (hb : ∀ self, W.Looks (model prog w) h (bindSpecial (.ref fI) self) (.ref fI, [self]))
    (hq : codeAny (model prog w) (A.under (.builtin "type.__call__" ⟨[.ref C], [(f, u)]⟩)) (.call (.ref fI) ⟨[.ref (h.objs.size + 1)], [(f, u)]⟩) (W.InitBack (h.objs.size + 1) R)
      ⟨(h.push (W.kdv_tup [])).push (excO C h.objs.size), g, d, t, os⟩) :
    codeAny (model prog w) A (.call (.ref C) ⟨[], [(f, u)]⟩) R ⟨h, g, d, t, os⟩ := by
  have f1 := tc_lookup
  have f2 := tc_bind (.ref C)
  have hTy : (⟨h, g, d, t, os⟩ : Shared).TypeIs (.ref C) "type" := ⟨_, hC, rfl⟩
  refine codeAny_of_tree ?_
  show wpAny _ _ (callAny (.ref C) _) _ _ _
  repeat (any_goals (first | assumption | with_reducible refine wpAny_loadPart_at hC ?_ | wp_step))
  refine ⟨rfl, ?_⟩
  refine codeAny_call_builtin_at (Code.quiet_builtin _ (by decide +kernel)) entry_typeCall (check_type_callK hC (type_call_ownK F hT hC hi hb ?_))
  refine codeAny_mono hq fun r s' z => ?_
  rcases r with e | (v | _ | _ | _) <;> exact z
end
end HandSPX
end PySem
set_option Elab.async false
set_option linter.all false
set_option maxRecDepth 100000
set_option maxHeartbeats 4000000
/-! Mp: exceptions as values. -/
namespace Mp
open PySem PySem.Spec PyProof.Rows L2
section
variable {X : Cx} {e : Expr} {f x : Str} {p pos kpos : Pos} {B newId initId : String} {bm : List Value} {C fI : Addr} {k : Nat} {fd : FuncData}
/-- a new exception object as a value -/
theorem pe_ofMk {t : L2.St → Hp → XK → Prop} (he : PMk X e t) : PE X e (fun σ H Q => t σ H fun cls d H' => ∀ a oe vs, H' a = none → oe.cls = cls → oe.dict = d → oe.data = .fields vs → Q (.ref a) (upd H' a (.frz oe anyH))) := by
  refine ⟨fun pins s σ H Q I h => wpAny_mono (he pins s σ H _ I h) (fun u s' hu => ?_) fun _ _ x => x⟩
  obtain ⟨a, oe, vs, sI, H', cls, d, rfl, J, k, hne, ha, hz, hd, h1, na, os, ag, r, q⟩ := hu
  have ok := J.hok.laidN k na (o := .frz oe anyH) ⟨ha, trivial, ⟨_, ha⟩, fun _ _ _ _ => trivial⟩
  have J2 := J.call' (ch := []) os (Un.laidN k hne na) ok ag fun b z => absurd z (by simp)
  exact ⟨.ref a, _, J2, rfl, q a oe vs na hz.1 hz.2 hd⟩
/-- the field given by its name -/
def BindsF (K : Frag) (fd : FuncData) (f : Str) : Prop := ∀ (s : Shared) (u0 u1 : Value), K.In s.heap → BindsTo s fd ⟨[u0], [(f, u1)]⟩ [(("self" : Str), u0), (f, u1)]
theorem bindsF_of {K : Frag} {x qual : Str} {params : Arguments} {body : List Stmt} {scope : Scope} {kws : List (Str × V)} {fa : Addr} (F : FunD K x qual params body scope [] kws fa fd)
    (h : ∀ (kV doc pm : Value) (an : Option Addr) (cdv ct u0 u1 : Value), bindArgs (PySem.W.fnOf x qual params body scope .none kV doc pm an cdv ct) ⟨[u0], [(f, u1)]⟩ = pure [(("self" : Str), u0), (f, u1)]) : BindsF K fd f := by
  obtain ⟨oc, od, dV, kV, doc, pm, an, cdv, ct, osl, rfl, lk, hcd, hD, hK⟩ := F.ex
  rcases hD with ⟨_, rfl⟩ | ⟨e, _⟩
  · exact fun s u0 u1 _ => .of_eq (h kV doc pm an cdv ct u0 u1)
  · exact absurd rfl e
theorem pmkB1k {ta : TA} (T : ExcD X C B newId initId bm fI) (F1 : FnOk X.prog X.w X.K X.mg X.base (L2.CX X.prog X.w) k fI fd ["self", f] (spI1 C f)) (hr : Room (k + 1) X.A) (hb : BindsF X.K fd f) (hg : Gl X x) (hm : X.mg x = some (.ref C)) (ha : PK X [⟨some f, e, kpos⟩] ta)
    (hdb : (x == ("__debug__" : Str)) = false := by decide) (hall : (backToKw pos (keywordEach [⟨some f, e, kpos⟩] X.env)).all (·.1.isSome) = true := by rfl) (hks : (backToKw pos (keywordEach [⟨some f, e, kpos⟩] X.env)).filterMap (·.1) = [f] := by rfl)
    (hpl : ((backTo pos (starEach [] X.env)).any (·.1) || (backToKw pos (keywordEach [⟨some f, e, kpos⟩] X.env)).any (·.1.isNone)) = false := by rfl) :
    PMk X (.Call (.Name x p) [] [⟨some f, e, kpos⟩] pos) (fun t H Q => ta t H fun vs H1 => ∃ v, vs = [v] ∧ ∀ d, H1 d = none → Q (.ref C) (some d) (upd H1 d (.xd [(f, v)]))) := by
  intro pins s t H Q I h
  obtain ⟨nm, q, N, bs, sn, sub, ab, col, dd, k0, k1, k2, k3, k5, hC⟩ := T.T.cls
  refine wpAny_Call_Name_kw (ld_glob I hg hm ?_ hdb)
  refine PySem.W.callWith_KW0 (first := []) (h₀ := X.base) I.ok.mod.kin T.T.kC hall (thn (ha.run pos pins s t H _ I h) fun us s1 z => ?_) hpl
  obtain ⟨vs, H1, I1, r1, v, rfl, q1⟩ := z
  rw [hks]
  refine ⟨I1.kIn, ?_⟩
  obtain ⟨hp, g, dr, tk, os⟩ := s1
  cases r1 with
  | @cons _ u _ _ ru rr =>
    cases rr
    show wpAny _ _ (call (.ref C) [] [(f, u)]) _ _ _
    have hsz : hp.objs.size ≤ hp.objs.size + 1 := Nat.le_succ _
    have hn : H1 (hp.objs.size + 1) = none := I1.hok.fresh hsz
    have kk : ∀ b o, hp.get? b = some o → ((hp.push (PySem.W.kdv_tup [])).push (PySem.HandSPX.excO C hp.objs.size)).get? b = some o := fun b o z => Heap.get?_push_of_some _ (Heap.get?_push_of_some _ z)
    have hget : ((hp.push (PySem.W.kdv_tup [])).push (PySem.HandSPX.excO C hp.objs.size)).get? (hp.objs.size + 1) = some (PySem.HandSPX.excO C hp.objs.size) := by heap_get
    have I2 := I1.laid (t' := tk) (a := hp.objs.size + 1) (o := exo (hp.objs.size + 1) C none) (h' := (hp.push (PySem.W.kdv_tup [])).push (PySem.HandSPX.excO C hp.objs.size)) kk hsz (exo_ok hget)
    have rv : Vals [V.ref (hp.objs.size + 1), v] [Value.ref (hp.objs.size + 1), u] := .cons rfl (.cons ru .nil)
    have hq : spI1 C f [.ref (hp.objs.size + 1), v] (upd H1 (hp.objs.size + 1) (exo (hp.objs.size + 1) C none)) (fun z H2 => z = .non ∧ ∃ d, H1 d = none ∧ d ≠ hp.objs.size + 1 ∧ H2 = upd (upd (upd H1 (hp.objs.size + 1) (exo (hp.objs.size + 1) C none)) d (exd d [(f, v)])) (hp.objs.size + 1) (exo (hp.objs.size + 1) C (some d))) (fun _ _ _ => False) :=
      ⟨_, v, rfl, upd_same, fun dx ndx ne => ⟨rfl, dx, (upd_ne ne).symm.trans ndx, ne, rfl⟩⟩
    refine wpAny_call (PySem.HandSPX.call_ownK T.T.base.F (fun _ => rfl) (I1.kIn _ _ hC) (PySem.W.looks_findIn I1.kIn T.ini) (fun self => PySem.W.bind_fn I1.kIn self T.fn)
      (codeAny_mono (F1.run _ X.stack _ _ ⟨[.ref (hp.objs.size + 1)], [(f, u)]⟩ [.ref (hp.objs.size + 1), u] _ _ (fun _ _ _ => False) (hr.make C [] [(f, u)]) (I2.env0.make C [] [(f, u)]) (hb _ (.ref (hp.objs.size + 1)) u I2.kIn) rv hq) fun r s' hz => ?_))
    cases r with
    | error er =>
      obtain ⟨_, _, _, _, _, _, _, _, _, _, _, _, z⟩ := hz
      exact z.elim
    | ok fl =>
      cases fl with
      | ret w =>
        obtain ⟨z, H2, osE, bareE, unE, hokE, rz, ez, d, nd, ne, eH⟩ := hz
        subst ez
        obtain ⟨h2, g2, d2, t2, os'⟩ := s'
        have ea : H2 (hp.objs.size + 1) = some (exo (hp.objs.size + 1) C (some d)) := by rw [eH, upd_same]
        have ed : H2 d = some (exd d [(f, v)]) := by rw [eH, upd_ne ne, upd_same]
        refine ⟨rz, mk_end (raises_own T.T.exC T.T.tyC) I1 hsz kk unE hokE osE bareE ea ed nd ?_⟩
        have eq : upd (del H2 (hp.objs.size + 1)) d (.xd [(f, v)]) = upd H1 d (.xd [(f, v)]) := by
          funext b
          by_cases hb : b = d
          · rw [hb, upd_same, upd_same]
          · rw [upd_ne hb, upd_ne hb]
            by_cases hb2 : b = hp.objs.size + 1
            · rw [hb2, del_same, hn]
            · rw [del_ne hb2, eH, upd_ne hb2, upd_ne hb, upd_ne hb2]
        rw [eq]
        exact q1 d nd
      | next => exact hz.elim
      | brk => exact hz.elim
      | cont => exact hz.elim
/-- e.f, e a new exception -/
theorem pe_xfV {te : TE} (T : XfC X.K C) (hno : PySem.W.findIn X.K (.ref C) f = some none) (he : PE X e te) (hb : attributeBase e f X.env (eval e X.env) = eval e X.env := by rfl) :
    PE X (.Attribute e f pos) (fun σ H Q => te σ H fun x H1 => ∃ (a : Addr) (oe : Obj) (u : HO) (vs : Array Value) (dd : Addr) (fs : List (Str × V)) (v : V), x = .ref a ∧ H1 a = some (.frz oe u) ∧ oe.cls = .ref C ∧ oe.data = .fields vs ∧ oe.dict = some dd ∧ H1 dd = some (.xd fs) ∧ fs.lookup f = some v ∧ Q v H1) := by
  refine ⟨fun pins s σ H Q I h => ?_⟩
  refine attr_of hb (thn (he.run pins s σ H _ I h) fun u s1 hh => ?_)
  obtain ⟨x, H1, I1, rx, a, oe, uo, vs, dd, fs, v, rfl, ha, hc, hd, hdd, ea, l, q⟩ := hh
  obtain rfl : u = Value.ref a := rx
  have hx : ObjOk X.prog X.w H1 s1.heap dd (.xd fs) := I1.hok dd _ ea
  obtain ⟨mA, hns, hr⟩ := hx
  obtain ⟨od, ho, hl⟩ := lookIn_ns hns
  obtain ⟨u, hu, ru⟩ := RelO.some_of (v := v) (o := mA f) (by rw [← l]; exact hr f)
  have J : PySem.W.InstAt s1.heap a oe C (some od) := ⟨(I1.hok a _ ha).1, hc, by unfold PySem.W.notCls; rw [hd] <;> rfl, by rw [hdd]; exact ho⟩
  exact HandSPX.exc_get I1.kIn J T.ga T.gg T.exC (PySem.W.findObj_own T.hdC hno rfl (by rw [hl, hu])) (handed_of ru) ⟨v, H1, I1.tok _, ru, q⟩
end
/-! ### isinstance(e, C), e an exception that is kept -/
def rIsV (K : Frag) : List V → Hp → VK → Prop := fun xs H Q => ∃ (a C : Addr) (oe : Obj) (uo : HO) (vs : Array Value) (c : V) (cv : Value) (b : Bool), xs = [.ref a, c] ∧ ExcC K C ∧ H a = some (.frz oe uo) ∧ oe.cls = .ref C ∧ oe.data = .fields vs ∧ (∀ dx, oe.dict = some dx → ∃ l, H dx = some (.xd l)) ∧
  (∀ u, RelV c u → u = cv) ∧ PySem.W.kitOne K (.ref C) cv = some b ∧ Q (.bl b) H
theorem call_isV {X : Cx} : CallR X (.builtin "isinstance") (rIsV X.K) := by
  intro pins s t H xs us Q I r h
  obtain ⟨a, C, oe, uo, vs, c, cv, b, rfl, T, ha, hc, hv, hx, hcv, e, q⟩ := h
  cases r with
  | cons rx rr =>
    cases rr with
    | cons rt rr =>
      cases rr
      cases rx
      obtain rfl := hcv _ rt
      have hget := (I.hok a _ ha).1
      have no : PySem.W.notCls oe = true := by
        unfold PySem.W.notCls
        rw [hv]
      obtain ⟨od, J⟩ : ∃ od, PySem.W.InstAt s.heap a oe C od := by
        cases d : oe.dict with
        | none => exact ⟨none, hget, hc, no, by rw [d]; trivial⟩
        | some dx =>
          obtain ⟨l, hl⟩ := hx dx d
          obtain ⟨mA, hns, hr⟩ : ObjOk X.prog X.w H s.heap dx (.xd l) := I.hok dx _ hl
          obtain ⟨o, ho, _⟩ := lookIn_ns hns
          exact ⟨some o, hget, hc, no, by rw [d]; exact ho⟩
      exact PySem.W.kia_one (exc_kit T) I.kIn J e (fun z => nomatch z) fun tk => ⟨.bl b, H, I.kept (t' := tk) fun _ _ z => z, rfl, q⟩
/-! ### on data -/
def KitTabC (K : Frag) (C : Str) (tt : List (Str × Bool)) : Prop := ∀ q ∈ tt, PySem.W.kitOne K (.ref (He.ga K C)) (.ref (He.ga K q.1)) = some q.2
abbrev ckKc (x : Str) (tt : List (Str × Bool)) : Frag → Bool := fun K => tt.all fun q => decide (PySem.W.kitOne K (.ref (He.ga K x)) (.ref (He.ga K q.1)) = some q.2)
theorem Fx.kc {P : Program} {fb : List (Frag → Bool)} {fn : List DefM} {K : Frag} {mg : Str → Option Value} (Z : Fx P fb fn K mg) (i : Nat) {x : Str} {tt : List (Str × Bool)} (h : fb[i]? = some (ckKc x tt)) : KitTabC K x tt := fun q hq => of_decide_eq_true (List.all_eq_true.mp (Z.fact i h) q hq)
inductive IsvT (K : Frag) : List (Str × List (String × Bool) × List (Str × Bool)) → Prop
  | nil : IsvT K []
  | cons {C : Str} {t1 : List (String × Bool)} {t2 : List (Str × Bool)} {l : List (Str × List (String × Bool) × List (Str × Bool))} : ExcC K (He.ga K C) → KitTab K C t1 → KitTabC K C t2 → IsvT K l → IsvT K ((C, t1, t2) :: l)
theorem IsvT.get {K : Frag} {C : Str} {t : List (String × Bool) × List (Str × Bool)} : ∀ {l : List (Str × List (String × Bool) × List (Str × Bool))}, IsvT K l → l.lookup C = some t → ExcC K (He.ga K C) ∧ KitTab K C t.1 ∧ KitTabC K C t.2
  | _, .nil, h => by cases h
  | _, .cons (C := E) h1 h2 h3 r, h => by
    by_cases e : C = E
    · subst e
      rw [List.lookup_cons_self] at h
      cases h
      exact ⟨h1, h2, h3⟩
    · have hb : (C == E) = false := by simpa using e
      rw [List.lookup_cons, hb] at h
      exact r.get h
theorem lookup_mem {T U : Type} [BEq T] [LawfulBEq T] {l : List (T × U)} {a : T} {b : U} (h : l.lookup a = some b) : (a, b) ∈ l := by
  induction l with
  | nil => cases h
  | cons q l ih =>
    obtain ⟨c, d⟩ := q
    by_cases e : a = c
    · subst e
      rw [List.lookup_cons_self] at h
      cases h
      exact List.mem_cons_self
    · have hb : (a == c) = false := by simpa using e
      rw [List.lookup_cons, hb] at h
      exact List.mem_cons_of_mem _ (ih h)
def isvD (tb : List (Str × List (String × Bool) × List (Str × Bool))) (ds : List D) (s : Sto) : Res D := match ds with
  | [.err C, .ty n] => (match tb.lookup C with
    | some t => (match t.1.lookup n with
      | some b => .ok (.bl b) s
      | none => .bad)
    | none => .bad)
  | [.err C, .glo n] => (match tb.lookup C with
    | some t => (match t.2.lookup n with
      | some b => .ok (.bl b) s
      | none => .bad)
    | none => .bad)
  | _ => .bad
theorem v_isv {X : Cx} {tb : List (Str × List (String × Bool) × List (Str × Bool))} (hT : IsvT X.K tb) : VRC X.K (rIsV X.K) (isvD tb) := fun w s xs ds Q E st rs hp => by
  unfold isvD at hp
  split at hp
  · rename_i C n
    cases rs with | cons q r => cases r with | cons q2 r2 =>
    cases r2
    cases q2
    cases q with
    | err z h hc hd hx =>
      cases e1 : tb.lookup C with
      | none => rw [e1] at hp; exact hp.elim
      | some t =>
        rw [e1] at hp
        dsimp only at hp
        obtain ⟨T, t1, t2⟩ := hT.get e1
        cases e2 : t.1.lookup n with
        | none => rw [e2] at hp; exact hp.elim
        | some b =>
          rw [e2] at hp
          exact ⟨_, _, _, _, _, _, .type n, b, rfl, T, h, hc, hd, fun dx y => (hx dx y).2, fun u ru => ru, t1 _ (lookup_mem e2), hp.pure st (.bl b)⟩
  · rename_i C n
    cases rs with | cons q r => cases r with | cons q2 r2 =>
    cases r2
    cases q2
    cases q with
    | err z h hc hd hx =>
      cases e1 : tb.lookup C with
      | none => rw [e1] at hp; exact hp.elim
      | some t =>
        rw [e1] at hp
        dsimp only at hp
        obtain ⟨T, t1, t2⟩ := hT.get e1
        cases e2 : t.2.lookup n with
        | none => rw [e2] at hp; exact hp.elim
        | some b =>
          rw [e2] at hp
          exact ⟨_, _, _, _, _, _, .ref (He.ga X.K n), b, rfl, T, h, hc, hd, fun dx y => (hx dx y).2, fun u ru => ru, t2 _ (lookup_mem e2), hp.pure st (.bl b)⟩
  · exact hp.elim
def errM (C : Str) (m : DM (List D)) : DE := bindM m fun ds => match ds with
  | [_] => pureM (.err C)
  | _ => fun _ _ => .bad
def errFM (m : DM (List D)) : DE := bindM m fun ds => match ds with
  | [d] => pureM d
  | _ => fun _ _ => .bad
section
variable {X : Cx} {W : WX} {a : Expr} {f cc : Str} {p pos pos2 : Pos} {B newId initId : String} {bm : List Value} {fI : Addr} {k : Nat} {fd : FuncData} {mr : DM (List D)}
theorem err_data {C : Str} {w1 : Wd} {s1 : Sto} {v : V} {dx aa : Addr} {oe : Obj} {ovs : Array Value} (st1 : StR X.K w1 s1) (ndx : w1.H dx = none) (na : (w1.frz dx (.xd [(f, v)])).H aa = none) (hc : oe.cls = .ref (He.ga X.K C)) (hd : oe.dict = some dx) (hdat : oe.data = .fields ovs) :
    ∃ w3, w3.H = upd (upd w1.H dx (.xd [(f, v)])) aa (.frz oe anyH) ∧ Ext w1 w3 ∧ StR X.K w3 s1 ∧ Rep X.K w3 (.ref aa) (.err C) := by
  have e2 := Wd.frz_ext st1 (o := .xd [(f, v)]) ndx
  have st2 := Wd.frz_st st1 (o := .xd [(f, v)]) ndx
  have e3 := Wd.frz_ext st2 (o := .frz oe anyH) na
  have st3 := Wd.frz_st st2 (o := .frz oe anyH) na
  refine ⟨(w1.frz dx (.xd [(f, v)])).frz aa (.frz oe anyH), rfl, e2.trans e3, st3, .err Wd.frz_z Wd.frz_h hc hdat fun dx' q' => ?_⟩
  rw [hd] at q'
  cases q'
  exact ⟨e3.Z _ Wd.frz_z, _, (e3.H _ Wd.frz_z).trans Wd.frz_h⟩
/-- C(e) as a value -/
theorem e_err1 (T : ExcD X (He.ga X.K cc) B newId initId bm fI) (F1 : FnOk X.prog X.w X.K X.mg X.base (L2.CX X.prog X.w) k fI fd ["self", f] (spI1 (He.ga X.K cc) f)) (hr : Room (k + 1) X.A) (hb : Binds X.K fd ["self", f] []) (hg : Gl X cc) (hm : X.mg cc = some (.ref (He.ga X.K cc))) (ha : PA X [a] (tA X.K W mr))
    (hdb : (cc == ("__debug__" : Str)) = false := by decide) (he : starEach [a] X.env = (false, eval a X.env) :: starEach [] X.env := by rfl) : PE X (.Call (.Name cc p) [a] [] pos) (tE X.K W (errM cc mr)) :=
  PE.imp (pe_ofMk (pmkB1 T F1 hr hb hg hm ha hdb he)) fun t H Q h => by
    obtain ⟨r, s, w, rfl, env, st, hp⟩ := h
    exact hp.bind env st fun vs ds s1 w1 e1 st1 r1 hp1 => by
      cases r1 with
      | nil => exact hp1.elim
      | @cons v d vs ds q r2 =>
        cases r2 with
        | cons _ _ => exact hp1.elim
        | nil =>
          refine ⟨v, rfl, fun dx ndx aa oe ovs na hc hd hdat => ?_⟩
          obtain ⟨w3, eH, e3, st3, r3⟩ := err_data (f := f) (v := v) st1 ndx na hc hd hdat
          have z := hp1 (.ref aa) w3 e3 st3 r3
          rw [eH] at z
          exact z
/-- C() as a value -/
theorem e_err0 (T : ExcD X (He.ga X.K cc) B newId initId bm fI) (F1 : FnOk X.prog X.w X.K X.mg X.base (L2.CX X.prog X.w) k fI fd ["self"] (spI0 (He.ga X.K cc))) (hr : Room (k + 1) X.A) (hb : Binds X.K fd ["self"] []) (hg : Gl X cc) (hm : X.mg cc = some (.ref (He.ga X.K cc)))
    (hdb : (cc == ("__debug__" : Str)) = false := by decide) : PE X (.Call (.Name cc p) [] [] pos) (tE X.K W (pureM (.err cc))) :=
  PE.imp (pe_ofMk (pmkB0 T F1 hr hb hg hm hdb)) fun t H Q h => by
    obtain ⟨r, s, w, rfl, env, st, hp⟩ := h
    intro aa oe ovs na hc hd hdat
    have e3 := Wd.frz_ext st (o := .frz oe anyH) na
    have st3 := Wd.frz_st st (o := .frz oe anyH) na
    exact hp (.ref aa) _ e3 st3 (.err Wd.frz_z Wd.frz_h hc hdat fun dx' q' => by rw [hd] at q'; cases q')
/-- C(e).f -/
theorem e_errF (T : ExcD X (He.ga X.K cc) B newId initId bm fI) (F1 : FnOk X.prog X.w X.K X.mg X.base (L2.CX X.prog X.w) k fI fd ["self", f] (spI1 (He.ga X.K cc) f)) (hr : Room (k + 1) X.A) (hb : Binds X.K fd ["self", f] []) (hg : Gl X cc) (hm : X.mg cc = some (.ref (He.ga X.K cc))) (XF : XfC X.K (He.ga X.K cc)) (hno : PySem.W.findIn X.K (.ref (He.ga X.K cc)) f = some none) (ha : PA X [a] (tA X.K W mr))
    (hdb : (cc == ("__debug__" : Str)) = false := by decide) (he : starEach [a] X.env = (false, eval a X.env) :: starEach [] X.env := by rfl)
    (hat : attributeBase (.Call (.Name cc p) [a] [] pos) f X.env (eval (.Call (.Name cc p) [a] [] pos) X.env) = eval (.Call (.Name cc p) [a] [] pos) X.env := by rfl) : PE X (.Attribute (.Call (.Name cc p) [a] [] pos) f pos2) (tE X.K W (errFM mr)) :=
  PE.imp (pe_xfV XF hno (pe_ofMk (pmkB1 T F1 hr hb hg hm ha hdb he)) hat) fun t H Q h => by
    obtain ⟨r, s, w, rfl, env, st, hp⟩ := h
    exact hp.bind env st fun vs ds s1 w1 e1 st1 r1 hp1 => by
      cases r1 with
      | nil => exact hp1.elim
      | @cons v d vs ds q r2 =>
        cases r2 with
        | cons _ _ => exact hp1.elim
        | nil =>
          refine ⟨v, rfl, fun dx ndx aa oe ovs na hc hd hdat => ?_⟩
          obtain ⟨w3, eH, e3, st3, r3⟩ := err_data (f := f) (v := v) st1 ndx na hc hd hdat
          have hne : dx ≠ aa := fun z => by
            rw [← z, upd_same] at na
            cases na
          have z := hp1 v w3 e3 st3 (q.ext e3)
          rw [eH] at z
          exact ⟨aa, oe, anyH, ovs, dx, [(f, v)], v, rfl, upd_same, hc, hdat, hd, by rw [upd_ne hne, upd_same], List.lookup_cons_self, z⟩
theorem e_errFk (T : ExcD X (He.ga X.K cc) B newId initId bm fI) (F1 : FnOk X.prog X.w X.K X.mg X.base (L2.CX X.prog X.w) k fI fd ["self", f] (spI1 (He.ga X.K cc) f)) (hr : Room (k + 1) X.A) (hb : BindsF X.K fd f) (hg : Gl X cc) (hm : X.mg cc = some (.ref (He.ga X.K cc))) (XF : XfC X.K (He.ga X.K cc)) (hno : PySem.W.findIn X.K (.ref (He.ga X.K cc)) f = some none) {kpos : Pos} (ha : PK X [⟨some f, a, kpos⟩] (tA X.K W mr))
    (hdb : (cc == ("__debug__" : Str)) = false := by decide) (hall : (backToKw pos (keywordEach [⟨some f, a, kpos⟩] X.env)).all (·.1.isSome) = true := by rfl) (hks : (backToKw pos (keywordEach [⟨some f, a, kpos⟩] X.env)).filterMap (·.1) = [f] := by rfl)
    (hpl : ((backTo pos (starEach [] X.env)).any (·.1) || (backToKw pos (keywordEach [⟨some f, a, kpos⟩] X.env)).any (·.1.isNone)) = false := by rfl)
    (hat : attributeBase (.Call (.Name cc p) [] [⟨some f, a, kpos⟩] pos) f X.env (eval (.Call (.Name cc p) [] [⟨some f, a, kpos⟩] pos) X.env) = eval (.Call (.Name cc p) [] [⟨some f, a, kpos⟩] pos) X.env := by rfl) : PE X (.Attribute (.Call (.Name cc p) [] [⟨some f, a, kpos⟩] pos) f pos2) (tE X.K W (errFM mr)) :=
  PE.imp (pe_xfV XF hno (pe_ofMk (pmkB1k T F1 hr hb hg hm ha hdb hall hks hpl)) hat) fun t H Q h => by
    obtain ⟨r, s, w, rfl, env, st, hp⟩ := h
    exact hp.bind env st fun vs ds s1 w1 e1 st1 r1 hp1 => by
      cases r1 with
      | nil => exact hp1.elim
      | @cons v d vs ds q r2 =>
        cases r2 with
        | cons _ _ => exact hp1.elim
        | nil =>
          refine ⟨v, rfl, fun dx ndx aa oe ovs na hc hd hdat => ?_⟩
          obtain ⟨w3, eH, e3, st3, r3⟩ := err_data (f := f) (v := v) st1 ndx na hc hd hdat
          have hne : dx ≠ aa := fun z => by
            rw [← z, upd_same] at na
            cases na
          have z := hp1 v w3 e3 st3 (q.ext e3)
          rw [eH] at z
          exact ⟨aa, oe, anyH, ovs, dx, [(f, v)], v, rfl, upd_same, hc, hdat, hd, by rw [upd_ne hne, upd_same], List.lookup_cons_self, z⟩
end
/-! ### l.count(True) -/
def isTrV : Value → Bool
  | .bool b => b
  | _ => false
def cntB (ds : List D) : Option (List Bool) := ds.mapM fun d => match d with
  | .bl b => some b
  | _ => none
def countD (x : D) (ds : List D) (s : Sto) : Res D := match lstOf s x with
  | some l => (match cntB l with
    | some bs => (match ds with
      | [.bl true] => .ok (.int (bs.count true : Nat)) s
      | _ => .bad)
    | none => .bad)
  | none => .bad
def rCntB (K : Frag) : V → List V → Hp → VK → Prop := fun x xs H Q => ∃ (p : Addr) (bs : List Bool), x = .ref p ∧ xs = [.bl true] ∧ SqL K H p (bs.map V.bl) ∧ Q (.int (bs.count true : Nat)) H
theorem cntB_cons {d : D} {ds : List D} {bs : List Bool} (h : cntB (d :: ds) = some bs) : ∃ b r, d = .bl b ∧ bs = b :: r ∧ cntB ds = some r := by
  unfold cntB at h ⊢
  rw [List.mapM_cons] at h
  cases d with
  | bl b =>
    cases e : (ds.mapM fun d => match d with
      | .bl b => some b
      | _ => none : Option (List Bool)) with
    | none => rw [e] at h; cases h
    | some r =>
      rw [e] at h
      cases h
      exact ⟨b, r, rfl, rfl, rfl⟩
  | _ => cases h
theorem cntB_reps {K : Frag} {w : Wd} : ∀ {ds : List D} {vs : List V} {bs : List Bool}, Reps K w vs ds → cntB ds = some bs → vs = bs.map V.bl
  | [], _, bs, .nil, h => by
    cases h
    rfl
  | d :: ds, _, bs, .cons r rs, h => by
    obtain ⟨b, q, rfl, rfl, h2⟩ := cntB_cons h
    cases r
    rw [cntB_reps rs h2]
    rfl
theorem bl_vals : ∀ {bs : List Bool} {us : List Value}, Vals (bs.map V.bl) us → us = bs.map Value.bool
  | [], _, .nil => rfl
  | b :: bs, _, .cons h r => by
    cases h
    rw [bl_vals r]
    rfl
theorem bl_count : ∀ bs : List Bool, (bs.map Value.bool).countP isTrV = bs.count true
  | [] => rfl
  | b :: bs => by
    rw [List.map_cons, List.countP_cons, List.count_cons, bl_count bs]
    cases b <;> rfl
theorem mt_countB {X : Cx} : MtR X "list.count" (rCntB X.K) := by
  intro pins s σ H x xs v us Q I rx rxs h
  obtain ⟨p, bs, rfl, rfl, hs, q⟩ := h
  cases rx
  obtain ⟨u, rfl, ru⟩ := rxs.one
  cases ru
  obtain ⟨its, rv, ⟨⟨cls, dd, data, sl⟩, n, ho, hc, hdn, hd⟩, hlen⟩ := I.list hs
  simp only at hc hd
  subst hc hd
  have hi := bl_vals rv
  refine call_meets PySem.F.slot_list_count ⟨_, ho, rfl⟩ PySem.F.entry_list_count (PySem.F.args_list_count_2 _ _)
    (SeqAt.list_countAt p its.toArray n dd sl (.bool true) isTrV) ⟨ho, fun y hy => ?_, ?_⟩
  · have hy : y ∈ its := by simpa using hy
    rw [hi] at hy
    obtain ⟨b, _, rfl⟩ := List.mem_map.mp hy
    have z := PySem.SeqAt.EqAt.bool_bool (A := X.A.in1) (s := s) b true
    rw [show (b == true) = isTrV (.bool b) from by cases b <;> rfl] at z
    exact z
  · have ec : its.toArray.toList.countP isTrV = bs.count true := by
      rw [show its.toArray.toList = its from rfl, hi]
      exact bl_count bs
    refine ⟨.int (bs.count true : Nat), H, I.tok _, ⟨s.toks, ?_⟩, q⟩
    show Value.int ((its.toArray.toList.countP isTrV : Nat) : Int) s.toks = Value.int ((bs.count true : Nat) : Int) s.toks
    rw [ec]
theorem v_countB {K : Frag} : VRM K (rCntB K) countD := fun w s x xs d ds Q E st r rs hp => by
  unfold countD at hp
  cases e1 : lstOf s d with
  | none => rw [e1] at hp; exact hp.elim
  | some l =>
    rw [e1] at hp
    dsimp only at hp
    obtain ⟨q, vs, rfl, hs, rv⟩ := lstOf_ok st r e1
    cases e2 : cntB l with
    | none => rw [e2] at hp; exact hp.elim
    | some bs =>
      rw [e2] at hp
      dsimp only at hp
      have ev := cntB_reps rv e2
      subst ev
      split at hp
      · obtain ⟨y, rfl, ry⟩ := rs.one
        cases ry
        exact ⟨q, bs, rfl, rfl, hs, hp.pure st (.int _)⟩
      · exact hp.elim
end Mp
set_option Elab.async false
set_option linter.all false
set_option maxRecDepth 100000
set_option maxHeartbeats 4000000
/-! Mp: a list that is changed no more is read as a frozen one. -/
namespace Mp
open PySem PySem.Spec PyProof.Rows L2
def iceV (i : Nat) : DE := fun r s => match r[i]? with
  | some (some (.cel n)) => (match s[n]? with
    | some (some (.lst l)) => .ok (.lst l) (s.set n none)
    | _ => .bad)
  | _ => .bad
theorem e_ice {X : Cx} {W : WX} {e : Expr} {i : Nat} (he : PE X e (tE X.K W (vM i))) : PE X e (tE X.K W (iceV i)) :=
  PE.imp he fun t H Q h => by
    obtain ⟨r, s, w, rfl, env, st, hp⟩ := h
    refine ⟨r, s, w, rfl, env, st, ?_⟩
    unfold iceV at hp
    split at hp
    · rename_i n hr
      split at hp
      · rename_i l hs
        unfold vM
        rw [hr]
        intro x w' e' st' rv
        cases rv with
        | @cel _ a ha =>
          obtain ⟨a', h1, h2, h3⟩ := st'.at_ n _ hs
          obtain rfl : a' = a := Option.some.inj (h1.symm.trans ha)
          obtain ⟨vs, hH, rs⟩ := h3
          exact hp (.ref a') (w'.ice a') (e'.trans Wd.ice_ext) (Wd.ice_st st' hs h1) (.lst (.inr rfl) hH (rs.ext Wd.ice_ext))
      · exact hp.elim
    · exact hp.elim
end Mp
set_option Elab.async false
set_option linter.all false
set_option maxRecDepth 100000
set_option maxHeartbeats 0
namespace G
open PySem PySem.Spec PyProof.Rows L2 Mp
abbrev PP : Program := (PySem.Challenge.rw_firstanswers_k00_errors).prog
def top (i : Nat) : Stmt := PySem.Challenge.pw_firstanswers_k00_errors.main.body.getD i (.Pass ⟨0, 0, 0, 0⟩)
theorem raise_row1 {T : FuncData → Prop} {C : Prop} (h : ∃ fd, T fd) (k : ∀ fd, T fd → C) : C := h.elim k
abbrev s_Contradiction___init__ : Stmt := inClass (top 15) 0
def d_Contradiction___init__ : DefM := ⟨fun K => He.ma K (He.ga K "Contradiction") "__init__", "__init__", "Contradiction.__init__", defArgs s_Contradiction___init__, defBody s_Contradiction___init__, defScope s_Contradiction___init__, [], none⟩
abbrev s_Done___init__ : Stmt := inClass (top 20) 0
def d_Done___init__ : DefM := ⟨fun K => He.ma K (He.ga K "Done") "__init__", "__init__", "Done.__init__", defArgs s_Done___init__, defBody s_Done___init__, defScope s_Done___init__, [], none⟩
abbrev s_InvalidAnswer___init__ : Stmt := inClass (top 8) 0
def d_InvalidAnswer___init__ : DefM := ⟨fun K => He.ma K (He.ga K "InvalidAnswer") "__init__", "__init__", "InvalidAnswer.__init__", defArgs s_InvalidAnswer___init__, defBody s_InvalidAnswer___init__, defScope s_InvalidAnswer___init__, [], none⟩
abbrev s_InvalidCoordinates___init__ : Stmt := inClass (top 9) 0
def d_InvalidCoordinates___init__ : DefM := ⟨fun K => He.ma K (He.ga K "InvalidCoordinates") "__init__", "__init__", "InvalidCoordinates.__init__", defArgs s_InvalidCoordinates___init__, defBody s_InvalidCoordinates___init__, defScope s_InvalidCoordinates___init__, [], none⟩
abbrev s_InvalidCost___init__ : Stmt := inClass (top 4) 0
def d_InvalidCost___init__ : DefM := ⟨fun K => He.ma K (He.ga K "InvalidCost") "__init__", "__init__", "InvalidCost.__init__", defArgs s_InvalidCost___init__, defBody s_InvalidCost___init__, defScope s_InvalidCost___init__, [], none⟩
abbrev s_InvalidCount___init__ : Stmt := inClass (top 6) 0
def d_InvalidCount___init__ : DefM := ⟨fun K => He.ma K (He.ga K "InvalidCount") "__init__", "__init__", "InvalidCount.__init__", defArgs s_InvalidCount___init__, defBody s_InvalidCount___init__, defScope s_InvalidCount___init__, [], none⟩
abbrev s_InvalidLetters___init__ : Stmt := inClass (top 3) 0
def d_InvalidLetters___init__ : DefM := ⟨fun K => He.ma K (He.ga K "InvalidLetters") "__init__", "__init__", "InvalidLetters.__init__", defArgs s_InvalidLetters___init__, defBody s_InvalidLetters___init__, defScope s_InvalidLetters___init__, [], none⟩
abbrev s_InvalidMachine___init__ : Stmt := inClass (top 7) 0
def d_InvalidMachine___init__ : DefM := ⟨fun K => He.ma K (He.ga K "InvalidMachine") "__init__", "__init__", "InvalidMachine.__init__", defArgs s_InvalidMachine___init__, defBody s_InvalidMachine___init__, defScope s_InvalidMachine___init__, [], none⟩
abbrev s_InvalidNumber___init__ : Stmt := inClass (top 2) 0
def d_InvalidNumber___init__ : DefM := ⟨fun K => He.ma K (He.ga K "InvalidNumber") "__init__", "__init__", "InvalidNumber.__init__", defArgs s_InvalidNumber___init__, defBody s_InvalidNumber___init__, defScope s_InvalidNumber___init__, [], none⟩
abbrev s_InvalidPrime___init__ : Stmt := inClass (top 1) 0
def d_InvalidPrime___init__ : DefM := ⟨fun K => He.ma K (He.ga K "InvalidPrime") "__init__", "__init__", "InvalidPrime.__init__", defArgs s_InvalidPrime___init__, defBody s_InvalidPrime___init__, defScope s_InvalidPrime___init__, [], none⟩
abbrev s_InvalidRow___init__ : Stmt := inClass (top 11) 0
def d_InvalidRow___init__ : DefM := ⟨fun K => He.ma K (He.ga K "InvalidRow") "__init__", "__init__", "InvalidRow.__init__", defArgs s_InvalidRow___init__, defBody s_InvalidRow___init__, defScope s_InvalidRow___init__, [], none⟩
abbrev s_InvalidText___init__ : Stmt := inClass (top 10) 0
def d_InvalidText___init__ : DefM := ⟨fun K => He.ma K (He.ga K "InvalidText") "__init__", "__init__", "InvalidText.__init__", defArgs s_InvalidText___init__, defBody s_InvalidText___init__, defScope s_InvalidText___init__, [], none⟩
abbrev s_InvalidWord___init__ : Stmt := inClass (top 5) 0
def d_InvalidWord___init__ : DefM := ⟨fun K => He.ma K (He.ga K "InvalidWord") "__init__", "__init__", "InvalidWord.__init__", defArgs s_InvalidWord___init__, defBody s_InvalidWord___init__, defScope s_InvalidWord___init__, [], none⟩
abbrev s_LimitReached___init__ : Stmt := inClass (top 25) 0
def d_LimitReached___init__ : DefM := ⟨fun K => He.ma K (He.ga K "LimitReached") "__init__", "__init__", "LimitReached.__init__", defArgs s_LimitReached___init__, defBody s_LimitReached___init__, defScope s_LimitReached___init__, [], none⟩
abbrev s_NoQuotient___init__ : Stmt := inClass (top 21) 0
def d_NoQuotient___init__ : DefM := ⟨fun K => He.ma K (He.ga K "NoQuotient") "__init__", "__init__", "NoQuotient.__init__", defArgs s_NoQuotient___init__, defBody s_NoQuotient___init__, defScope s_NoQuotient___init__, [], none⟩
abbrev s_NotFinite___init__ : Stmt := inClass (top 22) 0
def d_NotFinite___init__ : DefM := ⟨fun K => He.ma K (He.ga K "NotFinite") "__init__", "__init__", "NotFinite.__init__", defArgs s_NotFinite___init__, defBody s_NotFinite___init__, defScope s_NotFinite___init__, [], none⟩
abbrev s_NotKnown___init__ : Stmt := inClass (top 17) 0
def d_NotKnown___init__ : DefM := ⟨fun K => He.ma K (He.ga K "NotKnown") "__init__", "__init__", "NotKnown.__init__", defArgs s_NotKnown___init__, defBody s_NotKnown___init__, defScope s_NotKnown___init__, [], none⟩
abbrev s_NotNow___init__ : Stmt := inClass (top 18) 0
def d_NotNow___init__ : DefM := ⟨fun K => He.ma K (He.ga K "NotNow") "__init__", "__init__", "NotNow.__init__", defArgs s_NotNow___init__, defBody s_NotNow___init__, defScope s_NotNow___init__, [], none⟩
abbrev s_Nothing___init__ : Stmt := inClass (top 19) 0
def d_Nothing___init__ : DefM := ⟨fun K => He.ma K (He.ga K "Nothing") "__init__", "__init__", "Nothing.__init__", defArgs s_Nothing___init__, defBody s_Nothing___init__, defScope s_Nothing___init__, [], none⟩
abbrev s_OtherField___init__ : Stmt := inClass (top 12) 0
def d_OtherField___init__ : DefM := ⟨fun K => He.ma K (He.ga K "OtherField") "__init__", "__init__", "OtherField.__init__", defArgs s_OtherField___init__, defBody s_OtherField___init__, defScope s_OtherField___init__, [], none⟩
abbrev s_OtherLetters___init__ : Stmt := inClass (top 13) 0
def d_OtherLetters___init__ : DefM := ⟨fun K => He.ma K (He.ga K "OtherLetters") "__init__", "__init__", "OtherLetters.__init__", defArgs s_OtherLetters___init__, defBody s_OtherLetters___init__, defScope s_OtherLetters___init__, [], none⟩
abbrev s_OutOfRange___init__ : Stmt := inClass (top 16) 0
def d_OutOfRange___init__ : DefM := ⟨fun K => He.ma K (He.ga K "OutOfRange") "__init__", "__init__", "OutOfRange.__init__", defArgs s_OutOfRange___init__, defBody s_OutOfRange___init__, defScope s_OutOfRange___init__, [], none⟩
abbrev s_TooLong___init__ : Stmt := inClass (top 24) 0
def d_TooLong___init__ : DefM := ⟨fun K => He.ma K (He.ga K "TooLong") "__init__", "__init__", "TooLong.__init__", defArgs s_TooLong___init__, defBody s_TooLong___init__, defScope s_TooLong___init__, [], none⟩
abbrev s_TooMany___init__ : Stmt := inClass (top 23) 0
def d_TooMany___init__ : DefM := ⟨fun K => He.ma K (He.ga K "TooMany") "__init__", "__init__", "TooMany.__init__", defArgs s_TooMany___init__, defBody s_TooMany___init__, defScope s_TooMany___init__, [], none⟩
abbrev s_TooSmall___init__ : Stmt := inClass (top 14) 0
def d_TooSmall___init__ : DefM := ⟨fun K => He.ma K (He.ga K "TooSmall") "__init__", "__init__", "TooSmall.__init__", defArgs s_TooSmall___init__, defBody s_TooSmall___init__, defScope s_TooSmall___init__, [], none⟩
abbrev s__law_bare : Stmt := top 32
def d__law_bare : DefM := ⟨fun K => He.ga K "_law_bare", "_law_bare", "_law_bare", defArgs s__law_bare, defBody s__law_bare, defScope s__law_bare, [], none⟩
abbrev s__law_classes : Stmt := top 34
def d__law_classes : DefM := ⟨fun K => He.ga K "_law_classes", "_law_classes", "_law_classes", defArgs s__law_classes, defBody s__law_classes, defScope s__law_classes, [], none⟩
abbrev s__law_draw : Stmt := top 28
def d__law_draw : DefM := ⟨fun K => He.ga K "_law_draw", "_law_draw", "_law_draw", defArgs s__law_draw, defBody s__law_draw, defScope s__law_draw, [], none⟩
abbrev s__law_filled : Stmt := top 31
def d__law_filled : DefM := ⟨fun K => He.ga K "_law_filled", "_law_filled", "_law_filled", defArgs s__law_filled, defBody s__law_filled, defScope s__law_filled, [], none⟩
abbrev s__law_kinds : Stmt := top 33
def d__law_kinds : DefM := ⟨fun K => He.ga K "_law_kinds", "_law_kinds", "_law_kinds", defArgs s__law_kinds, defBody s__law_kinds, defScope s__law_kinds, [], none⟩
abbrev s__law_pick : Stmt := top 29
def d__law_pick : DefM := ⟨fun K => He.ga K "_law_pick", "_law_pick", "_law_pick", defArgs s__law_pick, defBody s__law_pick, defScope s__law_pick, [], none⟩
abbrev s__law_odd : Stmt := top 30
def d__law_odd : DefM := ⟨fun K => He.ga K "_law_odd", "_law_odd", "_law_odd", defArgs s__law_odd, defBody s__law_odd, defScope s__law_odd, [], none⟩
abbrev s__law_pen : Stmt := top 27
def d__law_pen : DefM := ⟨fun K => He.ga K "_law_pen", "_law_pen", "_law_pen", defArgs s__law_pen, defBody s__law_pen, defScope s__law_pen, [], none⟩
abbrev s_law : Stmt := top 35
def d_law : DefM := ⟨fun K => He.ga K "law", "law", "law", defArgs s_law, defBody s_law, defScope s_law, [], none⟩
def fn0 : List (DefM) := [d_Contradiction___init__, d_Done___init__, d_InvalidAnswer___init__, d_InvalidCoordinates___init__, d_InvalidCost___init__, d_InvalidCount___init__, d_InvalidLetters___init__, d_InvalidMachine___init__, d_InvalidNumber___init__, d_InvalidPrime___init__, d_InvalidRow___init__, d_InvalidText___init__, d_InvalidWord___init__, d_LimitReached___init__, d_NoQuotient___init__, d_NotFinite___init__, d_NotKnown___init__, d_NotNow___init__, d_Nothing___init__, d_OtherField___init__, d_OtherLetters___init__, d_OutOfRange___init__, d_TooLong___init__, d_TooMany___init__, d_TooSmall___init__]
def fn1 : List (DefM) := [d__law_bare, d__law_classes, d__law_draw, d__law_filled, d__law_kinds, d__law_pick, d__law_odd, d__law_pen, d_law]
def fn : List (DefM) := fn0 ++ fn1
def fb0 : List (Frag → Bool) := [ckF (.free "ValueError"), ckExc "Contradiction" "ValueError.__new__" mValue, ckF (.noat "Contradiction" "word"), ckF (.free "LookupError"), ckExc "Done" "LookupError.__new__" mLookup, ckExc "InvalidAnswer" "ValueError.__new__" mValue, ckF (.noat "InvalidAnswer" "number"), ckExc "InvalidCoordinates" "ValueError.__new__" mValue, ckExc "InvalidCost" "ValueError.__new__" mValue, ckF (.noat "InvalidCost" "letter"), ckExc "InvalidCount" "ValueError.__new__" mValue, ckF (.noat "InvalidCount" "value"), ckExc "InvalidLetters" "ValueError.__new__" mValue, ckF (.noat "InvalidLetters" "value"), ckExc "InvalidMachine" "ValueError.__new__" mValue, ckF (.noat "InvalidMachine" "part"), ckExc "InvalidNumber" "ValueError.__new__" mValue, ckF (.noat "InvalidNumber" "value"), ckExc "InvalidPrime" "ValueError.__new__" mValue, ckF (.noat "InvalidPrime" "value"), ckExc "InvalidRow" "ValueError.__new__" mValue, ckF (.noat "InvalidRow" "row"), ckExc "InvalidText" "ValueError.__new__" mValue, ckF (.noat "InvalidText" "line"), ckExc "InvalidWord" "ValueError.__new__" mValue]
def fb1 : List (Frag → Bool) := [ckF (.noat "InvalidWord" "value"), ckF (.free "RuntimeError"), ckExc "LimitReached" "RuntimeError.__new__" mRun, ckF (.noat "LimitReached" "limit"), ckF (.free "ArithmeticError"), ckExc "NoQuotient" "ArithmeticError.__new__" mArith, ckExc "NotFinite" "ArithmeticError.__new__" mArith, ckExc "NotKnown" "LookupError.__new__" mLookup, ckF (.noat "NotKnown" "value"), ckExc "NotNow" "LookupError.__new__" mLookup, ckF (.noat "NotNow" "word"), ckExc "Nothing" "LookupError.__new__" mLookup, ckExc "OtherField" "ValueError.__new__" mValue, ckExc "OtherLetters" "ValueError.__new__" mValue, ckExc "OutOfRange" "LookupError.__new__" mLookup, ckF (.noat "OutOfRange" "value"), ckF (.free "OverflowError"), ckExc "TooLong" "OverflowError.__new__" mOver, ckExc "TooMany" "OverflowError.__new__" mOver, ckF (.noat "TooMany" "limit"), ckExc "TooSmall" "ValueError.__new__" mValue, ckF (.noat "TooSmall" "least_size"), ckXc "TooSmall", ckKt "TooSmall" [("ArithmeticError", false), ("IndexError", false), ("KeyError", false), ("LookupError", false), ("OverflowError", false), ("RuntimeError", false), ("ValueError", true), ("ZeroDivisionError", false)], ckKc "TooSmall" [("Contradiction", false), ("Done", false), ("InvalidAnswer", false), ("InvalidCoordinates", false), ("InvalidCost", false), ("InvalidCount", false), ("InvalidLetters", false), ("InvalidMachine", false), ("InvalidNumber", false), ("InvalidPrime", false), ("InvalidRow", false), ("InvalidText", false), ("InvalidWord", false), ("LimitReached", false), ("NoQuotient", false), ("NotFinite", false), ("NotKnown", false), ("NotNow", false), ("Nothing", false), ("OtherField", false), ("OtherLetters", false), ("OutOfRange", false), ("TooLong", false), ("TooMany", false), ("TooSmall", true)]]
def fb2 : List (Frag → Bool) := [ckXc "TooMany", ckKt "TooMany" [("ArithmeticError", true), ("IndexError", false), ("KeyError", false), ("LookupError", false), ("OverflowError", true), ("RuntimeError", false), ("ValueError", false), ("ZeroDivisionError", false)], ckKc "TooMany" [("Contradiction", false), ("Done", false), ("InvalidAnswer", false), ("InvalidCoordinates", false), ("InvalidCost", false), ("InvalidCount", false), ("InvalidLetters", false), ("InvalidMachine", false), ("InvalidNumber", false), ("InvalidPrime", false), ("InvalidRow", false), ("InvalidText", false), ("InvalidWord", false), ("LimitReached", false), ("NoQuotient", false), ("NotFinite", false), ("NotKnown", false), ("NotNow", false), ("Nothing", false), ("OtherField", false), ("OtherLetters", false), ("OutOfRange", false), ("TooLong", false), ("TooMany", true), ("TooSmall", false)], ckXc "TooLong", ckKt "TooLong" [("ArithmeticError", true), ("IndexError", false), ("KeyError", false), ("LookupError", false), ("OverflowError", true), ("RuntimeError", false), ("ValueError", false), ("ZeroDivisionError", false)], ckKc "TooLong" [("Contradiction", false), ("Done", false), ("InvalidAnswer", false), ("InvalidCoordinates", false), ("InvalidCost", false), ("InvalidCount", false), ("InvalidLetters", false), ("InvalidMachine", false), ("InvalidNumber", false), ("InvalidPrime", false), ("InvalidRow", false), ("InvalidText", false), ("InvalidWord", false), ("LimitReached", false), ("NoQuotient", false), ("NotFinite", false), ("NotKnown", false), ("NotNow", false), ("Nothing", false), ("OtherField", false), ("OtherLetters", false), ("OutOfRange", false), ("TooLong", true), ("TooMany", false), ("TooSmall", false)], ckXc "OutOfRange", ckKt "OutOfRange" [("ArithmeticError", false), ("IndexError", false), ("KeyError", false), ("LookupError", true), ("OverflowError", false), ("RuntimeError", false), ("ValueError", false), ("ZeroDivisionError", false)], ckKc "OutOfRange" [("Contradiction", false), ("Done", false), ("InvalidAnswer", false), ("InvalidCoordinates", false), ("InvalidCost", false), ("InvalidCount", false), ("InvalidLetters", false), ("InvalidMachine", false), ("InvalidNumber", false), ("InvalidPrime", false), ("InvalidRow", false), ("InvalidText", false), ("InvalidWord", false), ("LimitReached", false), ("NoQuotient", false), ("NotFinite", false), ("NotKnown", false), ("NotNow", false), ("Nothing", false), ("OtherField", false), ("OtherLetters", false), ("OutOfRange", true), ("TooLong", false), ("TooMany", false), ("TooSmall", false)], ckXc "OtherLetters", ckKt "OtherLetters" [("ArithmeticError", false), ("IndexError", false), ("KeyError", false), ("LookupError", false), ("OverflowError", false), ("RuntimeError", false), ("ValueError", true), ("ZeroDivisionError", false)], ckKc "OtherLetters" [("Contradiction", false), ("Done", false), ("InvalidAnswer", false), ("InvalidCoordinates", false), ("InvalidCost", false), ("InvalidCount", false), ("InvalidLetters", false), ("InvalidMachine", false), ("InvalidNumber", false), ("InvalidPrime", false), ("InvalidRow", false), ("InvalidText", false), ("InvalidWord", false), ("LimitReached", false), ("NoQuotient", false), ("NotFinite", false), ("NotKnown", false), ("NotNow", false), ("Nothing", false), ("OtherField", false), ("OtherLetters", true), ("OutOfRange", false), ("TooLong", false), ("TooMany", false), ("TooSmall", false)], ckXc "OtherField", ckKt "OtherField" [("ArithmeticError", false), ("IndexError", false), ("KeyError", false), ("LookupError", false), ("OverflowError", false), ("RuntimeError", false), ("ValueError", true), ("ZeroDivisionError", false)], ckKc "OtherField" [("Contradiction", false), ("Done", false), ("InvalidAnswer", false), ("InvalidCoordinates", false), ("InvalidCost", false), ("InvalidCount", false), ("InvalidLetters", false), ("InvalidMachine", false), ("InvalidNumber", false), ("InvalidPrime", false), ("InvalidRow", false), ("InvalidText", false), ("InvalidWord", false), ("LimitReached", false), ("NoQuotient", false), ("NotFinite", false), ("NotKnown", false), ("NotNow", false), ("Nothing", false), ("OtherField", true), ("OtherLetters", false), ("OutOfRange", false), ("TooLong", false), ("TooMany", false), ("TooSmall", false)], ckXc "Nothing", ckKt "Nothing" [("ArithmeticError", false), ("IndexError", false), ("KeyError", false), ("LookupError", true), ("OverflowError", false), ("RuntimeError", false), ("ValueError", false), ("ZeroDivisionError", false)], ckKc "Nothing" [("Contradiction", false), ("Done", false), ("InvalidAnswer", false), ("InvalidCoordinates", false), ("InvalidCost", false), ("InvalidCount", false), ("InvalidLetters", false), ("InvalidMachine", false), ("InvalidNumber", false), ("InvalidPrime", false), ("InvalidRow", false), ("InvalidText", false), ("InvalidWord", false), ("LimitReached", false), ("NoQuotient", false), ("NotFinite", false), ("NotKnown", false), ("NotNow", false), ("Nothing", true), ("OtherField", false), ("OtherLetters", false), ("OutOfRange", false), ("TooLong", false), ("TooMany", false), ("TooSmall", false)], ckXc "NotNow", ckKt "NotNow" [("ArithmeticError", false), ("IndexError", false), ("KeyError", false), ("LookupError", true), ("OverflowError", false), ("RuntimeError", false), ("ValueError", false), ("ZeroDivisionError", false)], ckKc "NotNow" [("Contradiction", false), ("Done", false), ("InvalidAnswer", false), ("InvalidCoordinates", false), ("InvalidCost", false), ("InvalidCount", false), ("InvalidLetters", false), ("InvalidMachine", false), ("InvalidNumber", false), ("InvalidPrime", false), ("InvalidRow", false), ("InvalidText", false), ("InvalidWord", false), ("LimitReached", false), ("NoQuotient", false), ("NotFinite", false), ("NotKnown", false), ("NotNow", true), ("Nothing", false), ("OtherField", false), ("OtherLetters", false), ("OutOfRange", false), ("TooLong", false), ("TooMany", false), ("TooSmall", false)], ckXc "NotKnown", ckKt "NotKnown" [("ArithmeticError", false), ("IndexError", false), ("KeyError", false), ("LookupError", true), ("OverflowError", false), ("RuntimeError", false), ("ValueError", false), ("ZeroDivisionError", false)], ckKc "NotKnown" [("Contradiction", false), ("Done", false), ("InvalidAnswer", false), ("InvalidCoordinates", false), ("InvalidCost", false), ("InvalidCount", false), ("InvalidLetters", false), ("InvalidMachine", false), ("InvalidNumber", false), ("InvalidPrime", false), ("InvalidRow", false), ("InvalidText", false), ("InvalidWord", false), ("LimitReached", false), ("NoQuotient", false), ("NotFinite", false), ("NotKnown", true), ("NotNow", false), ("Nothing", false), ("OtherField", false), ("OtherLetters", false), ("OutOfRange", false), ("TooLong", false), ("TooMany", false), ("TooSmall", false)], ckXc "NotFinite"]
def fb3 : List (Frag → Bool) := [ckKt "NotFinite" [("ArithmeticError", true), ("IndexError", false), ("KeyError", false), ("LookupError", false), ("OverflowError", false), ("RuntimeError", false), ("ValueError", false), ("ZeroDivisionError", false)], ckKc "NotFinite" [("Contradiction", false), ("Done", false), ("InvalidAnswer", false), ("InvalidCoordinates", false), ("InvalidCost", false), ("InvalidCount", false), ("InvalidLetters", false), ("InvalidMachine", false), ("InvalidNumber", false), ("InvalidPrime", false), ("InvalidRow", false), ("InvalidText", false), ("InvalidWord", false), ("LimitReached", false), ("NoQuotient", false), ("NotFinite", true), ("NotKnown", false), ("NotNow", false), ("Nothing", false), ("OtherField", false), ("OtherLetters", false), ("OutOfRange", false), ("TooLong", false), ("TooMany", false), ("TooSmall", false)], ckXc "NoQuotient", ckKt "NoQuotient" [("ArithmeticError", true), ("IndexError", false), ("KeyError", false), ("LookupError", false), ("OverflowError", false), ("RuntimeError", false), ("ValueError", false), ("ZeroDivisionError", false)], ckKc "NoQuotient" [("Contradiction", false), ("Done", false), ("InvalidAnswer", false), ("InvalidCoordinates", false), ("InvalidCost", false), ("InvalidCount", false), ("InvalidLetters", false), ("InvalidMachine", false), ("InvalidNumber", false), ("InvalidPrime", false), ("InvalidRow", false), ("InvalidText", false), ("InvalidWord", false), ("LimitReached", false), ("NoQuotient", true), ("NotFinite", false), ("NotKnown", false), ("NotNow", false), ("Nothing", false), ("OtherField", false), ("OtherLetters", false), ("OutOfRange", false), ("TooLong", false), ("TooMany", false), ("TooSmall", false)], ckXc "LimitReached", ckKt "LimitReached" [("ArithmeticError", false), ("IndexError", false), ("KeyError", false), ("LookupError", false), ("OverflowError", false), ("RuntimeError", true), ("ValueError", false), ("ZeroDivisionError", false)], ckKc "LimitReached" [("Contradiction", false), ("Done", false), ("InvalidAnswer", false), ("InvalidCoordinates", false), ("InvalidCost", false), ("InvalidCount", false), ("InvalidLetters", false), ("InvalidMachine", false), ("InvalidNumber", false), ("InvalidPrime", false), ("InvalidRow", false), ("InvalidText", false), ("InvalidWord", false), ("LimitReached", true), ("NoQuotient", false), ("NotFinite", false), ("NotKnown", false), ("NotNow", false), ("Nothing", false), ("OtherField", false), ("OtherLetters", false), ("OutOfRange", false), ("TooLong", false), ("TooMany", false), ("TooSmall", false)], ckXc "InvalidWord", ckKt "InvalidWord" [("ArithmeticError", false), ("IndexError", false), ("KeyError", false), ("LookupError", false), ("OverflowError", false), ("RuntimeError", false), ("ValueError", true), ("ZeroDivisionError", false)], ckKc "InvalidWord" [("Contradiction", false), ("Done", false), ("InvalidAnswer", false), ("InvalidCoordinates", false), ("InvalidCost", false), ("InvalidCount", false), ("InvalidLetters", false), ("InvalidMachine", false), ("InvalidNumber", false), ("InvalidPrime", false), ("InvalidRow", false), ("InvalidText", false), ("InvalidWord", true), ("LimitReached", false), ("NoQuotient", false), ("NotFinite", false), ("NotKnown", false), ("NotNow", false), ("Nothing", false), ("OtherField", false), ("OtherLetters", false), ("OutOfRange", false), ("TooLong", false), ("TooMany", false), ("TooSmall", false)], ckXc "InvalidText", ckKt "InvalidText" [("ArithmeticError", false), ("IndexError", false), ("KeyError", false), ("LookupError", false), ("OverflowError", false), ("RuntimeError", false), ("ValueError", true), ("ZeroDivisionError", false)], ckKc "InvalidText" [("Contradiction", false), ("Done", false), ("InvalidAnswer", false), ("InvalidCoordinates", false), ("InvalidCost", false), ("InvalidCount", false), ("InvalidLetters", false), ("InvalidMachine", false), ("InvalidNumber", false), ("InvalidPrime", false), ("InvalidRow", false), ("InvalidText", true), ("InvalidWord", false), ("LimitReached", false), ("NoQuotient", false), ("NotFinite", false), ("NotKnown", false), ("NotNow", false), ("Nothing", false), ("OtherField", false), ("OtherLetters", false), ("OutOfRange", false), ("TooLong", false), ("TooMany", false), ("TooSmall", false)], ckXc "InvalidRow", ckKt "InvalidRow" [("ArithmeticError", false), ("IndexError", false), ("KeyError", false), ("LookupError", false), ("OverflowError", false), ("RuntimeError", false), ("ValueError", true), ("ZeroDivisionError", false)], ckKc "InvalidRow" [("Contradiction", false), ("Done", false), ("InvalidAnswer", false), ("InvalidCoordinates", false), ("InvalidCost", false), ("InvalidCount", false), ("InvalidLetters", false), ("InvalidMachine", false), ("InvalidNumber", false), ("InvalidPrime", false), ("InvalidRow", true), ("InvalidText", false), ("InvalidWord", false), ("LimitReached", false), ("NoQuotient", false), ("NotFinite", false), ("NotKnown", false), ("NotNow", false), ("Nothing", false), ("OtherField", false), ("OtherLetters", false), ("OutOfRange", false), ("TooLong", false), ("TooMany", false), ("TooSmall", false)], ckXc "InvalidPrime", ckKt "InvalidPrime" [("ArithmeticError", false), ("IndexError", false), ("KeyError", false), ("LookupError", false), ("OverflowError", false), ("RuntimeError", false), ("ValueError", true), ("ZeroDivisionError", false)], ckKc "InvalidPrime" [("Contradiction", false), ("Done", false), ("InvalidAnswer", false), ("InvalidCoordinates", false), ("InvalidCost", false), ("InvalidCount", false), ("InvalidLetters", false), ("InvalidMachine", false), ("InvalidNumber", false), ("InvalidPrime", true), ("InvalidRow", false), ("InvalidText", false), ("InvalidWord", false), ("LimitReached", false), ("NoQuotient", false), ("NotFinite", false), ("NotKnown", false), ("NotNow", false), ("Nothing", false), ("OtherField", false), ("OtherLetters", false), ("OutOfRange", false), ("TooLong", false), ("TooMany", false), ("TooSmall", false)], ckXc "InvalidNumber", ckKt "InvalidNumber" [("ArithmeticError", false), ("IndexError", false), ("KeyError", false), ("LookupError", false), ("OverflowError", false), ("RuntimeError", false), ("ValueError", true), ("ZeroDivisionError", false)], ckKc "InvalidNumber" [("Contradiction", false), ("Done", false), ("InvalidAnswer", false), ("InvalidCoordinates", false), ("InvalidCost", false), ("InvalidCount", false), ("InvalidLetters", false), ("InvalidMachine", false), ("InvalidNumber", true), ("InvalidPrime", false), ("InvalidRow", false), ("InvalidText", false), ("InvalidWord", false), ("LimitReached", false), ("NoQuotient", false), ("NotFinite", false), ("NotKnown", false), ("NotNow", false), ("Nothing", false), ("OtherField", false), ("OtherLetters", false), ("OutOfRange", false), ("TooLong", false), ("TooMany", false), ("TooSmall", false)], ckXc "InvalidMachine", ckKt "InvalidMachine" [("ArithmeticError", false), ("IndexError", false), ("KeyError", false), ("LookupError", false), ("OverflowError", false), ("RuntimeError", false), ("ValueError", true), ("ZeroDivisionError", false)]]
def fb4 : List (Frag → Bool) := [ckKc "InvalidMachine" [("Contradiction", false), ("Done", false), ("InvalidAnswer", false), ("InvalidCoordinates", false), ("InvalidCost", false), ("InvalidCount", false), ("InvalidLetters", false), ("InvalidMachine", true), ("InvalidNumber", false), ("InvalidPrime", false), ("InvalidRow", false), ("InvalidText", false), ("InvalidWord", false), ("LimitReached", false), ("NoQuotient", false), ("NotFinite", false), ("NotKnown", false), ("NotNow", false), ("Nothing", false), ("OtherField", false), ("OtherLetters", false), ("OutOfRange", false), ("TooLong", false), ("TooMany", false), ("TooSmall", false)], ckXc "InvalidLetters", ckKt "InvalidLetters" [("ArithmeticError", false), ("IndexError", false), ("KeyError", false), ("LookupError", false), ("OverflowError", false), ("RuntimeError", false), ("ValueError", true), ("ZeroDivisionError", false)], ckKc "InvalidLetters" [("Contradiction", false), ("Done", false), ("InvalidAnswer", false), ("InvalidCoordinates", false), ("InvalidCost", false), ("InvalidCount", false), ("InvalidLetters", true), ("InvalidMachine", false), ("InvalidNumber", false), ("InvalidPrime", false), ("InvalidRow", false), ("InvalidText", false), ("InvalidWord", false), ("LimitReached", false), ("NoQuotient", false), ("NotFinite", false), ("NotKnown", false), ("NotNow", false), ("Nothing", false), ("OtherField", false), ("OtherLetters", false), ("OutOfRange", false), ("TooLong", false), ("TooMany", false), ("TooSmall", false)], ckXc "InvalidCount", ckKt "InvalidCount" [("ArithmeticError", false), ("IndexError", false), ("KeyError", false), ("LookupError", false), ("OverflowError", false), ("RuntimeError", false), ("ValueError", true), ("ZeroDivisionError", false)], ckKc "InvalidCount" [("Contradiction", false), ("Done", false), ("InvalidAnswer", false), ("InvalidCoordinates", false), ("InvalidCost", false), ("InvalidCount", true), ("InvalidLetters", false), ("InvalidMachine", false), ("InvalidNumber", false), ("InvalidPrime", false), ("InvalidRow", false), ("InvalidText", false), ("InvalidWord", false), ("LimitReached", false), ("NoQuotient", false), ("NotFinite", false), ("NotKnown", false), ("NotNow", false), ("Nothing", false), ("OtherField", false), ("OtherLetters", false), ("OutOfRange", false), ("TooLong", false), ("TooMany", false), ("TooSmall", false)], ckXc "InvalidCost", ckKt "InvalidCost" [("ArithmeticError", false), ("IndexError", false), ("KeyError", false), ("LookupError", false), ("OverflowError", false), ("RuntimeError", false), ("ValueError", true), ("ZeroDivisionError", false)], ckKc "InvalidCost" [("Contradiction", false), ("Done", false), ("InvalidAnswer", false), ("InvalidCoordinates", false), ("InvalidCost", true), ("InvalidCount", false), ("InvalidLetters", false), ("InvalidMachine", false), ("InvalidNumber", false), ("InvalidPrime", false), ("InvalidRow", false), ("InvalidText", false), ("InvalidWord", false), ("LimitReached", false), ("NoQuotient", false), ("NotFinite", false), ("NotKnown", false), ("NotNow", false), ("Nothing", false), ("OtherField", false), ("OtherLetters", false), ("OutOfRange", false), ("TooLong", false), ("TooMany", false), ("TooSmall", false)], ckXc "InvalidCoordinates", ckKt "InvalidCoordinates" [("ArithmeticError", false), ("IndexError", false), ("KeyError", false), ("LookupError", false), ("OverflowError", false), ("RuntimeError", false), ("ValueError", true), ("ZeroDivisionError", false)], ckKc "InvalidCoordinates" [("Contradiction", false), ("Done", false), ("InvalidAnswer", false), ("InvalidCoordinates", true), ("InvalidCost", false), ("InvalidCount", false), ("InvalidLetters", false), ("InvalidMachine", false), ("InvalidNumber", false), ("InvalidPrime", false), ("InvalidRow", false), ("InvalidText", false), ("InvalidWord", false), ("LimitReached", false), ("NoQuotient", false), ("NotFinite", false), ("NotKnown", false), ("NotNow", false), ("Nothing", false), ("OtherField", false), ("OtherLetters", false), ("OutOfRange", false), ("TooLong", false), ("TooMany", false), ("TooSmall", false)], ckXc "InvalidAnswer", ckKt "InvalidAnswer" [("ArithmeticError", false), ("IndexError", false), ("KeyError", false), ("LookupError", false), ("OverflowError", false), ("RuntimeError", false), ("ValueError", true), ("ZeroDivisionError", false)], ckKc "InvalidAnswer" [("Contradiction", false), ("Done", false), ("InvalidAnswer", true), ("InvalidCoordinates", false), ("InvalidCost", false), ("InvalidCount", false), ("InvalidLetters", false), ("InvalidMachine", false), ("InvalidNumber", false), ("InvalidPrime", false), ("InvalidRow", false), ("InvalidText", false), ("InvalidWord", false), ("LimitReached", false), ("NoQuotient", false), ("NotFinite", false), ("NotKnown", false), ("NotNow", false), ("Nothing", false), ("OtherField", false), ("OtherLetters", false), ("OutOfRange", false), ("TooLong", false), ("TooMany", false), ("TooSmall", false)], ckXc "Done", ckKt "Done" [("ArithmeticError", false), ("IndexError", false), ("KeyError", false), ("LookupError", true), ("OverflowError", false), ("RuntimeError", false), ("ValueError", false), ("ZeroDivisionError", false)], ckKc "Done" [("Contradiction", false), ("Done", true), ("InvalidAnswer", false), ("InvalidCoordinates", false), ("InvalidCost", false), ("InvalidCount", false), ("InvalidLetters", false), ("InvalidMachine", false), ("InvalidNumber", false), ("InvalidPrime", false), ("InvalidRow", false), ("InvalidText", false), ("InvalidWord", false), ("LimitReached", false), ("NoQuotient", false), ("NotFinite", false), ("NotKnown", false), ("NotNow", false), ("Nothing", false), ("OtherField", false), ("OtherLetters", false), ("OutOfRange", false), ("TooLong", false), ("TooMany", false), ("TooSmall", false)], ckXc "Contradiction", ckKt "Contradiction" [("ArithmeticError", false), ("IndexError", false), ("KeyError", false), ("LookupError", false), ("OverflowError", false), ("RuntimeError", false), ("ValueError", true), ("ZeroDivisionError", false)], ckKc "Contradiction" [("Contradiction", true), ("Done", false), ("InvalidAnswer", false), ("InvalidCoordinates", false), ("InvalidCost", false), ("InvalidCount", false), ("InvalidLetters", false), ("InvalidMachine", false), ("InvalidNumber", false), ("InvalidPrime", false), ("InvalidRow", false), ("InvalidText", false), ("InvalidWord", false), ("LimitReached", false), ("NoQuotient", false), ("NotFinite", false), ("NotKnown", false), ("NotNow", false), ("Nothing", false), ("OtherField", false), ("OtherLetters", false), ("OutOfRange", false), ("TooLong", false), ("TooMany", false), ("TooSmall", false)], ckF (.glo "OtherLetters"), ckF (.glo "OtherField"), ckF (.glo "InvalidCoordinates")]
def fb5 : List (Frag → Bool) := [ckF (.glo "NotFinite"), ckF (.glo "NoQuotient"), ckF (.glo "Done"), ckF (.glo "Nothing"), ckF (.glo "TooLong"), ckF (.glo "InvalidLetters"), ckF (.free "isinstance"), ckF (.glo "InvalidNumber"), ckF (.glo "InvalidPrime"), ckF (.glo "InvalidCount"), ckF (.glo "InvalidWord"), ckF (.glo "InvalidCost"), ckF (.glo "InvalidRow"), ckF (.glo "InvalidAnswer"), ckF (.glo "InvalidMachine"), ckF (.glo "InvalidText"), ckF (.glo "Contradiction"), ckF (.glo "TooSmall"), ckF (.glo "NotNow"), ckF (.glo "NotKnown"), ckF (.glo "OutOfRange"), ckF (.glo "TooMany"), ckF (.glo "LimitReached"), ckF (.free "int"), ckF (.free "len")]
def fb6 : List (Frag → Bool) := [ckF (.free "abs"), ckF (.free "ZeroDivisionError"), ckF (.free "KeyError"), ckF (.free "IndexError"), ckF (.free "zip"), ckF (.glo "_law_draw"), ckF (.glo "_law_pick"), ckF (.free "list"), ckF (.glo "_law_pen"), ckF (.free "min"), ckF (.free "range"), ckF (.glo "_law_odd"), ckF (.glo "_law_filled"), ckSys, ckF (.free "repr"), ckF (.glo "_law_kinds"), ckF (.glo "_law_classes"), ckF (.glo "_law_bare"), ckF (.glo "law")]
def fb : List (Frag → Bool) := fb0 ++ fb1 ++ fb2 ++ fb3 ++ fb4 ++ fb5 ++ fb6
abbrev FX (K : Frag) (mg : Str → Option Value) : Prop := Fx PP fb fn K mg
def loose0 : List (PySem.Str) := ["__name__", "InvalidPrime", "InvalidNumber", "InvalidLetters", "InvalidCost", "InvalidWord", "InvalidCount", "InvalidMachine", "InvalidAnswer", "InvalidCoordinates", "InvalidText", "InvalidRow", "OtherField", "OtherLetters", "TooSmall", "Contradiction", "OutOfRange", "NotKnown", "NotNow", "Nothing", "Done", "NoQuotient", "NotFinite", "TooMany", "TooLong"]
def loose1 : List (PySem.Str) := ["LimitReached", "_law_pen", "_law_draw", "_law_pick", "_law_odd", "_law_filled", "_law_bare", "_law_kinds", "_law_classes"]
def loose : List (PySem.Str) := loose0 ++ loose1
abbrev R : PySem.W.OpenRow := PySem.W.OpenLaw.row PySem.Challenge.rw_firstanswers_k00_errors
abbrev hk : PySem.W.Hook := hookM 6 PP.main.file fb fn
def ob (s : PySem.W.SharedT) : AlM := obsMG 6 PP.main.file fb fn (HandSHeadRun.getT s)
theorem ob_eq (s : PySem.W.SharedT) : ob s = hk.obs s.abs := obsMG_eq (HandSHeadRun.getT_eq s)
theorem run_a (w : World) (os : OsState) : hdA R 20000 w os = some true := by
  kernel_rfl
theorem run_b (w : World) (os : OsState) : hdB R (PySem.W.view R.prog [35]) 20000 loose w os = some (PySem.W.openGood (PySem.W.view R.prog [35]) loose) := by
  kernel_rfl
theorem run_c (w : World) (os : OsState) : hdC R ob 20000 w os = some (hk.val w) := by
  kernel_rfl
theorem run (w : World) : HandSHeadRun.RunEq R (PySem.W.view R.prog [35]) hk ob 20000 loose w := run_split (H := hk) (run_a w) (run_b w) (run_c w)
end G
set_option Elab.async false
/-! plain number theory: Fermat's little theorem -/
namespace Pl
end Pl
set_option Elab.async false
set_option linter.all false
/-! plain: remainders -/
namespace Pl
end Pl
set_option Elab.async false
set_option linter.all false
/-! plain: fractions as rationals -/
namespace Pl
def dv (t b : Int) : Int := if 0 < b then (Int.gcd t b : Nat) else -((Int.gcd t b : Nat) : Int)
end Pl
set_option Elab.async false
set_option linter.all false
/-! plain: remainders of fractions -/
namespace Pl
end Pl
set_option Elab.async false
set_option linter.all false
set_option maxRecDepth 100000
/-! Pl: what is wanted behind a computation on data; one rule a construct. -/
namespace Pl
open Mp
open PySem (Str sizeLine)
/-- what is wanted of an expression's end -/
def RP {T : Type} (Q : T → Sto → Prop) (E : Str → List (Str × D) → Sto → Prop) : Res T → Prop
  | .ok a s => Q a s
  | .exc C fs s => E C fs s
  | .bad => False
structure PQ where
  nx : En → Sto → Prop
  rt : D → Sto → Prop
  bk : En → Sto → Prop
  ct : En → Sto → Prop
  ex : Str → List (Str × D) → En → Sto → Prop
def FP (q : PQ) : Fl → Prop
  | .nx r s => q.nx r s
  | .rt d s => q.rt d s
  | .bk r s => q.bk r s
  | .ct r s => q.ct r s
  | .exc C fs r s => q.ex C fs r s
  | .bad => False
abbrev XT := Str → List (Str × D) → Sto → Prop
abbrev noX : XT := fun _ _ _ => False
section
variable {T U : Type} {Q Q' : T → Sto → Prop} {E E' : XT} {r : En} {s : Sto} {q q' : PQ}
theorem RP.mono {m : Res T} (h : RP Q E m) (hq : ∀ a s, Q a s → Q' a s) (he : ∀ C fs s, E C fs s → E' C fs s) : RP Q' E' m := by
  cases m with
  | ok a s => exact hq a s h
  | exc C fs s => exact he C fs s h
  | bad => exact h
theorem RP.imp {m : Res T} (h : RP Q noX m) (hq : ∀ a s, Q a s → Q' a s) : RP Q' E m := h.mono hq fun _ _ _ z => z.elim
theorem RP.of {m : Res T} {a : T} {s' : Sto} (h : m = .ok a s') (hq : Q a s') : RP Q E m := by
  rw [h]
  exact hq
theorem RP.ex {m : Res T} (h : RP Q noX m) : ∃ a s', m = .ok a s' ∧ Q a s' := by
  cases m with
  | ok a s => exact ⟨a, s, rfl, h⟩
  | exc C fs s => exact h.elim
  | bad => exact h.elim
theorem FP.mono {f : Fl} (h : FP q f) (h1 : ∀ r s, q.nx r s → q'.nx r s) (h2 : ∀ d s, q.rt d s → q'.rt d s) (h3 : ∀ r s, q.bk r s → q'.bk r s) (h4 : ∀ r s, q.ct r s → q'.ct r s) (h5 : ∀ C fs r s, q.ex C fs r s → q'.ex C fs r s) : FP q' f := by
  cases f with
  | nx r s => exact h1 _ _ h
  | rt d s => exact h2 _ _ h
  | bk r s => exact h3 _ _ h
  | ct r s => exact h4 _ _ h
  | exc C fs r s => exact h5 _ _ _ _ h
  | bad => exact h
theorem w_ok {a : T} (h : Q a s) : RP Q E (.ok a s) := h
theorem w_bind {m : DM T} {f : T → DM U} {Q : U → Sto → Prop} (h : RP (fun a s' => RP Q E (f a r s')) E (m r s)) : RP Q E (Mp.bindM m f r s) := by
  unfold Mp.bindM
  cases e : m r s <;> rw [e] at h <;> exact h
theorem w_pure {a : T} (h : Q a s) : RP Q E (pureM a r s) := h
theorem w_then {m : DM T} {f : T → DS} (h : RP (fun a s' => FP q (f a r s')) (fun C fs s' => q.ex C fs r s') (m r s)) : FP q (thenS m f r s) := by
  unfold thenS
  cases e : m r s <;> rw [e] at h <;> exact h
theorem w_seq {a b : DS} (h : FP ⟨fun r' s' => FP q (b r' s'), q.rt, q.bk, q.ct, q.ex⟩ (a r s)) : FP q (seqS a b r s) := by
  unfold seqS
  cases e : a r s <;> rw [e] at h <;> exact h
/-- with a word between two statements -/
theorem w_mid {a b : DS} (P : En → Sto → Prop) (h1 : FP ⟨P, q.rt, q.bk, q.ct, q.ex⟩ (a r s)) (h2 : ∀ r' s', P r' s' → FP q (b r' s')) : FP q (seqS a b r s) := w_seq (h1.mono h2 (fun _ _ h => h) (fun _ _ h => h) (fun _ _ h => h) fun _ _ _ _ h => h)
end
section
variable {Q : D → Sto → Prop} {E : XT} {r : En} {s : Sto} {q : PQ} {a b c : DE} {f : D → D → Sto → Res D}
theorem w_v {i : Nat} {d : D} (h : r[i]? = some (some d)) (hq : Q d s) : RP Q E (vM i r s) := by
  unfold vM
  rw [h]
  exact hq
theorem w_c {d : D} (hq : Q d s) : RP Q E (cM d r s) := hq
theorem w_bin (h : RP (fun x s1 => RP (fun y s2 => RP Q E (f x y s2)) E (b r s1)) E (a r s)) : RP Q E (binM f a b r s) := w_bind (h.mono (fun _ _ h => w_bind h) fun _ _ _ h => h)
theorem w_un {g : D → Sto → Res D} (h : RP (fun x s1 => RP Q E (g x s1)) E (a r s)) : RP Q E (unM g a r s) := w_bind h
theorem w_arg {m : DM (List D)} {g : List D → Sto → Res D} (h : RP (fun x s1 => RP Q E (g x s1)) E (m r s)) : RP Q E (argM g m r s) := w_bind h
theorem w_call {m : DM (List D)} {g : DF} (h : RP (fun x s1 => RP Q E (g x s1)) E (m r s)) : RP Q E (callM g m r s) := w_bind h
theorem w_nil {Q : List D → Sto → Prop} (h : Q [] s) : RP Q E (nilA r s) := h
theorem w_cons {Q : List D → Sto → Prop} {m : DM (List D)} (h : RP (fun x s1 => RP (fun l s2 => Q (x :: l) s2) E (m r s1)) E (a r s)) : RP Q E (consA a m r s) := w_bind (h.mono (fun _ _ h => w_bind h) fun _ _ _ h => h)
theorem w_star {Q : List D → Sto → Prop} (h : RP (fun x s1 => ∃ l, x = .tup l ∧ Q l s1) E (a r s)) : RP Q E (starA a r s) := w_bind (h.mono (fun x s ⟨l, e, h⟩ => by
  subst e
  exact h) fun _ _ _ h => h)
theorem w_tru {Q : Bool → Sto → Prop} (h : RP (fun x s1 => ∃ k, truD s1 x = some k ∧ Q k s1) E (a r s)) : RP Q E (truM a r s) := w_bind (h.mono (fun x s ⟨k, e, h⟩ => by
  rw [e]
  exact h) fun _ _ _ h => h)
theorem w_bl {Q : Bool → Sto → Prop} (h : RP (fun x s1 => ∃ k, x = .bl k ∧ Q k s1) E (a r s)) : RP Q E (blM a r s) := w_bind (h.mono (fun x s ⟨k, e, h⟩ => by
  subst e
  exact h) fun _ _ _ h => h)
theorem w_not (h : RP (fun k s1 => Q (.bl (!k)) s1) E (truM a r s)) : RP Q E (notV a r s) := w_bind h
theorem w_and (h : RP (fun x s1 => ∃ k, truD s1 x = some k ∧ (k = true → RP Q E (b r s1)) ∧ (k = false → Q x s1)) E (a r s)) : RP Q E (andV a b r s) := w_bind (h.mono (fun x s ⟨k, e, h1, h2⟩ => w_bind (w_tru (w_c ⟨k, e, by
  cases k
  · exact h2 rfl
  · exact h1 rfl⟩))) fun _ _ _ h => h)
theorem w_or (h : RP (fun x s1 => ∃ k, truD s1 x = some k ∧ (k = false → RP Q E (b r s1)) ∧ (k = true → Q x s1)) E (a r s)) : RP Q E (orV a b r s) := w_bind (h.mono (fun x s ⟨k, e, h1, h2⟩ => w_bind (w_tru (w_c ⟨k, e, by
  cases k
  · exact h1 rfl
  · exact h2 rfl⟩))) fun _ _ _ h => h)
theorem w_notT {Q : Bool → Sto → Prop} {c : DM Bool} (h : RP (fun k s1 => Q (!k) s1) E (c r s)) : RP Q E (notT c r s) := w_bind h
theorem w_andT {Q : Bool → Sto → Prop} {c d : DM Bool} (h : RP (fun k s1 => (k = true → RP Q E (d r s1)) ∧ (k = false → Q false s1)) E (c r s)) : RP Q E (andT c d r s) := w_bind (h.mono (fun k s h => by
  cases k
  · exact h.2 rfl
  · exact h.1 rfl) fun _ _ _ h => h)
theorem w_orT {Q : Bool → Sto → Prop} {c d : DM Bool} (h : RP (fun k s1 => (k = false → RP Q E (d r s1)) ∧ (k = true → Q true s1)) E (c r s)) : RP Q E (orT c d r s) := w_bind (h.mono (fun k s h => by
  cases k
  · exact h.1 rfl
  · exact h.2 rfl) fun _ _ _ h => h)
theorem w_ifM {c : DM Bool} (h : RP (fun k s1 => (k = true → RP Q E (a r s1)) ∧ (k = false → RP Q E (b r s1))) E (c r s)) : RP Q E (ifM c a b r s) := w_bind (h.mono (fun k s h => by
  cases k
  · exact h.2 rfl
  · exact h.1 rfl) fun _ _ _ h => h)
theorem w_chain {g : D → D → Sto → Res D} (h : RP (fun x s1 => RP (fun y s2 => RP (fun z s3 => ∃ k, z = .bl k ∧ (k = true → RP (fun u s4 => RP Q E (g y u s4)) E (c r s3)) ∧ (k = false → Q (.bl false) s3)) E (f x y s2)) E (b r s1)) E (a r s)) : RP Q E (chainM f g a b c r s) := w_bind (h.mono (fun x s1 h => w_bind (h.mono (fun y s2 h => by
  cases e : f x y s2 with
  | ok z s3 =>
    rw [e] at h
    obtain ⟨k, rfl, h1, h2⟩ := h
    cases k
    · exact h2 rfl
    · exact w_bind (m := c) (f := fun u => fun _ s => g y u s) (h1 rfl)
  | exc C fs s3 => rw [e] at h; exact h
  | bad => rw [e] at h; exact h) fun _ _ _ h => h)) fun _ _ _ h => h)
theorem w_attr {tb : List (Str × Ak)} {f : Str} (h : RP (fun x s1 => RP Q E (attrD tb f x s1)) E (a r s)) : RP Q E (attrM tb f a r s) := w_bind h
theorem w_meth {tb : List (Str × DF)} {m : Str} {l : DM (List D)} (h : RP (fun x s1 => ∃ C fs f, insOf s1 x = some (C, fs) ∧ fs.lookup m = none ∧ tb.lookup C = some f ∧ RP (fun ds s2 => RP Q E (f (x :: ds) s2)) E (l r s1)) E (a r s)) : RP Q E (methM tb m a l r s) := w_bind (h.mono (fun x s1 ⟨C, fs, f, e1, e2, e3, h⟩ => by
  rw [e1]
  dsimp only
  rw [e2]
  dsimp only
  rw [e3]
  exact w_bind h) fun _ _ _ h => h)
theorem w_super {tb : List (Str × DF)} {l : DM (List D)} (h : RP (fun x s1 => ∃ C fs f, insOf s1 x = some (C, fs) ∧ tb.lookup C = some f ∧ RP (fun ds s2 => RP Q E (f (x :: ds) s2)) E (l r s1)) E (vM 0 r s)) : RP Q E (superM tb l r s) := w_bind (h.mono (fun x s1 ⟨C, fs, f, e1, e3, h⟩ => by
  rw [e1]
  dsimp only
  rw [e3]
  exact w_bind h) fun _ _ _ h => h)
theorem w_superS {tb : List (Str × DF)} {l : DM (List D)} (h : RP (fun _ s' => q.nx r s') (fun C fs s' => q.ex C fs r s') (superM tb l r s)) : FP q (superS tb l r s) := w_then h
theorem w_make {k : Bool} {C : Str} {m : DF} {l : DM (List D)} (h : RP (fun ds s1 => RP (fun v s2 => v = .non ∧ RP Q E (freezeI k s1.length s2)) E (m (.cel s1.length :: ds) (s1 ++ [some (.ins C [])]))) E (l r s)) : RP Q E (makeM k C m l r s) := w_bind (h.mono (fun ds s1 h => by
  cases e : m (.cel s1.length :: ds) (s1 ++ [some (.ins C [])]) with
  | ok v s2 =>
    rw [e] at h
    obtain ⟨rfl, h⟩ := h
    exact h
  | exc C fs s3 => rw [e] at h; exact h
  | bad => rw [e] at h; exact h) fun _ _ _ h => h)
theorem w_opt {Q : Option Int → Sto → Prop} (h : RP (fun x s1 => ∃ i, x = .int i ∧ Q (some i) s1) E (a r s)) : RP Q E (optM a r s) := w_bind (h.mono (fun x s ⟨i, e, h⟩ => by
  subst e
  exact h) fun _ _ _ h => h)
theorem w_sli {k : Bool} {l u : DM (Option Int)} (h : RP (fun x s1 => RP (fun lo s2 => RP (fun hi s3 => RP Q E (sliD k x lo hi s3)) E (u r s2)) E (l r s1)) E (a r s)) : RP Q E (sliM k a l u r s) := w_bind (h.mono (fun _ _ h => w_bind (h.mono (fun _ _ h => w_bind h) fun _ _ _ h => h)) fun _ _ _ h => h)
/-! dict displays -/
theorem w_pairs0 {Q : List (D × D) → Sto → Prop} (h : Q [] s) : RP Q E (pairsM [] r s) := h
theorem w_pairs1 {Q : List (D × D) → Sto → Prop} {l : List (DE × DE)} (h : RP (fun x s1 => RP (fun y s2 => RP (fun l s3 => Q ((x, y) :: l) s3) E (pairsM l r s2)) E (b r s1)) E (a r s)) : RP Q E (pairsM ((a, b) :: l) r s) := w_bind (h.mono (fun _ _ h => w_bind (h.mono (fun _ _ h => w_bind h) fun _ _ _ h => h)) fun _ _ _ h => h)
theorem w_disp {l : List (DE × DE)} (h : RP (fun ps s1 => ∃ kvs, keyed ps = some kvs ∧ kvs.length ≤ 15 ∧ Q (.cel s1.length) (s1 ++ [some (.dct (mergeA [] kvs))])) E (pairsM l r s)) : RP Q E (dispM l r s) := w_bind (h.mono (fun ps s1 ⟨kvs, e, hl, h⟩ => by
  rw [e]
  dsimp only
  rw [if_pos hl]
  exact h) fun _ _ _ h => h)
/-! statements -/
theorem w_skip (h : q.nx r s) : FP q (skipS r s) := h
theorem w_brk (h : q.bk r s) : FP q (brkS r s) := h
theorem w_cnt (h : q.ct r s) : FP q (cntS r s) := h
theorem w_set {i : Nat} (h : RP (fun d s' => q.nx (r.set i (some d)) s') (fun C fs s' => q.ex C fs r s') (a r s)) : FP q (setS i a r s) := w_then h
theorem w_expr (h : RP (fun _ s' => q.nx r s') (fun C fs s' => q.ex C fs r s') (a r s)) : FP q (exprS a r s) := w_then h
theorem w_ret (h : RP (fun d s' => q.rt d s') (fun C fs s' => q.ex C fs r s') (a r s)) : FP q (retS a r s) := w_then h
theorem w_retN (h : q.rt .non s) : FP q (retN r s) := h
theorem w_if {c : DM Bool} {x y : DS} (h : RP (fun k s1 => (k = true → FP q (x r s1)) ∧ (k = false → FP q (y r s1))) (fun C fs s' => q.ex C fs r s') (c r s)) : FP q (ifS c x y r s) := w_then (h.mono (fun k s h => by
  cases k
  · exact h.2 rfl
  · exact h.1 rfl) fun _ _ _ h => h)
theorem w_asg {g : DG} (h : RP (fun d s' => ∃ p, g d r s' = some p ∧ q.nx p.1 p.2) (fun C fs s' => q.ex C fs r s') (a r s)) : FP q (asgS a g r s) := w_then (h.mono (fun d s ⟨p, e, h⟩ => by
  rw [e]
  exact h) fun _ _ _ h => h)
theorem w_par2 {i j : Nat} {m : DM (List D)} (h : RP (fun ds s' => ∃ x y, ds = [x, y] ∧ q.nx ((r.set i (some x)).set j (some y)) s') (fun C fs s' => q.ex C fs r s') (m r s)) : FP q (par2S i j m r s) := w_then (h.mono (fun d s ⟨x, y, e, h⟩ => by
  subst e
  exact h) fun _ _ _ h => h)
theorem w_par3 {i j k : Nat} {m : DM (List D)} (h : RP (fun ds s' => ∃ x y z, ds = [x, y, z] ∧ q.nx (((r.set i (some x)).set j (some y)).set k (some z)) s') (fun C fs s' => q.ex C fs r s') (m r s)) : FP q (par3S i j k m r s) := w_then (h.mono (fun d s ⟨x, y, z, e, h⟩ => by
  subst e
  exact h) fun _ _ _ h => h)
theorem w_aug {i : Nat} (h : RP (fun d s' => q.nx (r.set i (some d)) s') (fun C fs s' => q.ex C fs r s') (binM f (vM i) a r s)) : FP q (augS i f a r s) := w_then h
theorem w_sub (h : RP (fun y s1 => RP (fun x s2 => RP (fun z s3 => ∃ s4, putI x z y s3 = some s4 ∧ q.nx r s4) (fun C fs s' => q.ex C fs r s') (b r s2)) (fun C fs s' => q.ex C fs r s') (a r s1)) (fun C fs s' => q.ex C fs r s') (c r s)) : FP q (subS a b c r s) := w_then (h.mono (fun _ _ h => w_then (h.mono (fun _ _ h => w_then (h.mono (fun z s3 ⟨s4, e, h⟩ => by
  rw [e]
  exact h) fun _ _ _ h => h)) fun _ _ _ h => h)) fun _ _ _ h => h)
theorem w_fld {tb : List Str} {f : Str} (h : RP (fun y s1 => RP (fun x s2 => ∃ n C fs, x = .cel n ∧ s2[n]? = some (some (.ins C fs)) ∧ C ∈ tb ∧ fs.length < 1000 ∧ q.nx r (s2.set n (some (.ins C (putD f y fs))))) (fun C fs s' => q.ex C fs r s') (a r s1)) (fun C fs s' => q.ex C fs r s') (b r s)) : FP q (fldS tb f a b r s) := w_then (h.mono (fun _ _ h => w_then (h.mono (fun x s2 ⟨n, C, fs, e, e1, h1, h2, h⟩ => by
  subst e
  dsimp only
  rw [e1]
  dsimp only
  rw [if_pos ⟨h1, h2⟩]
  exact h) fun _ _ _ h => h)) fun _ _ _ h => h)
theorem w_raise {C f : Str} {m : DM (List D)} (h : RP (fun ds s' => ∃ d, ds = [d] ∧ q.ex C [(f, d)] r s') (fun C fs s' => q.ex C fs r s') (m r s)) : FP q (raiseS C f m r s) := w_then (h.mono (fun d s ⟨x, e, h⟩ => by
  subst e
  exact h) fun _ _ _ h => h)
theorem w_raise0 {C : Str} (h : q.ex C [] r s) : FP q (raise0S C r s) := h
theorem w_noExc {f : Fl} (h : FP ⟨q.nx, q.rt, q.bk, q.ct, fun _ _ _ _ => False⟩ f) : FP q (noExc f) := by
  cases f with
  | exc C fs r s => exact h.elim
  | _ => exact h
theorem w_try {x y : DS} {tb : List (Str × Bool)} (h : FP ⟨q.nx, q.rt, q.bk, q.ct, fun C fs r' s' => ∃ k, tb.lookup C = some k ∧ (k = true → FP ⟨q.nx, q.rt, q.bk, q.ct, fun _ _ _ _ => False⟩ (y r' s')) ∧ (k = false → q.ex C fs r' s')⟩ (x r s)) : FP q (tryS x tb y r s) := by
  unfold tryS
  cases e : x r s with
  | exc C fs r' s' =>
    rw [e] at h
    obtain ⟨k, e1, h1, h2⟩ := h
    dsimp only
    rw [e1]
    cases k
    · exact h2 rfl
    · exact w_noExc (h1 rfl)
  | nx r s => rw [e] at h; exact h
  | rt d s => rw [e] at h; exact h
  | bk r s => rw [e] at h; exact h
  | ct r s => rw [e] at h; exact h
  | bad => rw [e] at h; exact h
/-! bodies -/
abbrev bodyQ (Q : D → Sto → Prop) (E : XT) : PQ := ⟨fun _ s' => Q .non s', Q, fun _ _ => False, fun _ _ => False, fun C fs _ s' => E C fs s'⟩
theorem w_bodyX {n : Nat} {b : DS} {ds : List D} (h : FP (bodyQ Q E) (b (ds.map some ++ List.replicate (n - ds.length) none) s)) : RP Q E (bodyX n b ds s) := by
  unfold bodyX
  cases e : b (ds.map some ++ List.replicate (n - ds.length) none) s <;> rw [e] at h <;> exact h
theorem w_body {k n : Nat} {dd : List D} {b : DS} {ds es : List D} {r : En} (h0 : argsD k dd ds = some es) (hr : es.map some ++ List.replicate (n - es.length) none = r) (h : FP (bodyQ Q E) (b r s)) : RP Q E (bodyM k dd n b ds s) := by
  unfold bodyM
  rw [h0]
  subst hr
  exact w_bodyX h
/-! loops -/
theorem w_for0 {m : DM Src} {g : DG} {b : DS} (h : RP (fun c s' => FP q (forF c g b c.its r s')) (fun C fs s' => q.ex C fs r s') (m r s)) : FP q (forS m g b r s) := w_then h
theorem forF_inv {c : Src} {g : DG} {b : DS} (I : Nat → En → Sto → Prop) (hc : ∀ i r s, I i r s → SrcOk c s) :
    ∀ (l : List D) (i : Nat) (r : En) (s : Sto), i ≤ c.its.length → c.its.drop i = l → I i r s → (∀ i d r s, c.its[i]? = some d → I i r s → ∃ p, g d r s = some p ∧ FP ⟨I (i + 1), q.rt, q.nx, I (i + 1), q.ex⟩ (b p.1 p.2)) → (∀ r s, I c.its.length r s → q.nx r s) → FP q (forF c g b l r s)
  | [], i, r, s, hle, hl, hi, hs, he => by
    have h1 : i = c.its.length := by
      have := congrArg List.length hl
      simp at this
      omega
    unfold forF
    rw [if_pos (hc i r s hi)]
    subst h1
    exact he r s hi
  | d :: l, i, r, s, hle, hl, hi, hs, he => by
    have hlt : i < c.its.length := by
      have := congrArg List.length hl
      simp at this
      omega
    have hd : c.its[i]? = some d := by
      have := congrArg (fun z => z[0]?) hl
      simpa using this
    obtain ⟨p, hp, hb⟩ := hs i d r s hd hi
    have hl' : c.its.drop (i + 1) = l := by
      rw [← List.tail_drop, hl]
      rfl
    unfold forF
    rw [if_pos (hc i r s hi), hp]
    dsimp only
    cases e : b p.1 p.2 with
    | nx r' s' => rw [e] at hb; exact forF_inv I hc l (i + 1) r' s' hlt hl' hb hs he
    | ct r' s' => rw [e] at hb; exact forF_inv I hc l (i + 1) r' s' hlt hl' hb hs he
    | bk r' s' => rw [e] at hb; exact hb
    | rt d s' => rw [e] at hb; exact hb
    | exc C fs r' s' => rw [e] at hb; exact hb
    | bad => rw [e] at hb; exact hb
/-- a for loop by what holds between two turns -/
theorem w_for {c : Src} {g : DG} {b : DS} (I : Nat → En → Sto → Prop) (hc : c.cel = none) (h0 : I 0 r s) (hs : ∀ i d r s, c.its[i]? = some d → I i r s → ∃ p, g d r s = some p ∧ FP ⟨I (i + 1), q.rt, q.nx, I (i + 1), q.ex⟩ (b p.1 p.2)) (he : ∀ r s, I c.its.length r s → q.nx r s) : FP q (forF c g b c.its r s) :=
  forF_inv I (fun _ _ _ _ => by unfold SrcOk; rw [hc]; trivial) c.its 0 r s (Nat.zero_le _) rfl h0 hs he
/-- .. over a cell that stays as it is -/
theorem w_forC {c : Src} {g : DG} {b : DS} (I : Nat → En → Sto → Prop) (hc : ∀ i r s, I i r s → SrcOk c s) (h0 : I 0 r s) (hs : ∀ i d r s, c.its[i]? = some d → I i r s → ∃ p, g d r s = some p ∧ FP ⟨I (i + 1), q.rt, q.nx, I (i + 1), q.ex⟩ (b p.1 p.2)) (he : ∀ r s, I c.its.length r s → q.nx r s) : FP q (forF c g b c.its r s) :=
  forF_inv I hc c.its 0 r s (Nat.zero_le _) rfl h0 hs he
theorem lcF_inv {c : Src} {g : DG} {tt : DM Bool} {te : DE} {Q : List D → Sto → Prop} (I : Nat → List D → Sto → Prop) (hc : ∀ i l s, I i l s → SrcOk c s)
    (hs : ∀ i d l s, c.its[i]? = some d → I i l s → ∃ p, g d r s = some p ∧ RP (fun k s1 => (k = true → RP (fun y s2 => l.length < sizeLine ∧ I (i + 1) (l ++ [y]) s2) noX (te p.1 s1)) ∧ (k = false → I (i + 1) l s1)) noX (tt p.1 p.2)) (he : ∀ l s, I c.its.length l s → Q l s) :
    ∀ (l : List D) (i : Nat) (acc : List D) (s : Sto), i ≤ c.its.length → c.its.drop i = l → I i acc s → RP Q E (lcF c g tt te r l acc s)
  | [], i, acc, s, hle, hl, hi => by
    have h1 : i = c.its.length := by
      have := congrArg List.length hl
      simp at this
      omega
    unfold lcF
    rw [if_pos (hc i acc s hi)]
    subst h1
    exact he acc s hi
  | d :: l, i, acc, s, hle, hl, hi => by
    have hlt : i < c.its.length := by
      have := congrArg List.length hl
      simp at this
      omega
    have hd : c.its[i]? = some d := by
      have := congrArg (fun z => z[0]?) hl
      simpa using this
    obtain ⟨p, hp, hb⟩ := hs i d acc s hd hi
    have hl' : c.its.drop (i + 1) = l := by
      rw [← List.tail_drop, hl]
      rfl
    unfold lcF
    rw [if_pos (hc i acc s hi), hp]
    dsimp only
    cases e : tt p.1 p.2 with
    | ok k s1 =>
      rw [e] at hb
      dsimp only
      cases k with
      | false => exact lcF_inv I hc hs he l (i + 1) acc s1 hlt hl' (hb.2 rfl)
      | true =>
        have h1 := hb.1 rfl
        rw [if_pos rfl]
        cases e2 : te p.1 s1 with
        | ok y s2 =>
          rw [e2] at h1
          dsimp only
          rw [if_pos h1.1]
          exact lcF_inv I hc hs he l (i + 1) (acc ++ [y]) s2 hlt hl' h1.2
        | exc C fs s2 => rw [e2] at h1; exact h1.elim
        | bad => rw [e2] at h1; exact h1.elim
    | exc C fs s1 => rw [e] at hb; exact hb.elim
    | bad => rw [e] at hb; exact hb.elim
theorem w_lc0 {k : Bool} {mi : DM Src} {g : DG} {tt : DM Bool} {te : DE} {vs : List Nat} (h : RP (fun c s' => RP (fun acc s2 => RP Q E (newL k acc s2)) noX (lcF c g tt te (wipeE r vs) c.its [] s')) E (mi r s)) : RP Q E (lcM k mi g tt te vs r s) := w_bind (h.mono (fun c s1 h => by
  cases e : lcF c g tt te (wipeE r vs) c.its [] s1 with
  | ok acc s2 => rw [e] at h; exact h
  | exc C fs s2 => rw [e] at h; exact h.elim
  | bad => rw [e] at h; exact h.elim) fun _ _ _ h => h)
theorem w_lc {c : Src} {g : DG} {tt : DM Bool} {te : DE} {Q : List D → Sto → Prop} (I : Nat → List D → Sto → Prop) (hc : c.cel = none) (h0 : I 0 [] s)
    (hs : ∀ i d l s, c.its[i]? = some d → I i l s → ∃ p, g d r s = some p ∧ RP (fun k s1 => (k = true → RP (fun y s2 => l.length < sizeLine ∧ I (i + 1) (l ++ [y]) s2) noX (te p.1 s1)) ∧ (k = false → I (i + 1) l s1)) noX (tt p.1 p.2)) (he : ∀ l s, I c.its.length l s → Q l s) : RP Q E (lcF c g tt te r c.its [] s) :=
  lcF_inv I (fun _ _ _ _ => by unfold SrcOk; rw [hc]; trivial) hs he c.its 0 [] s (Nat.zero_le _) rfl h0
end
section
variable {Q : Src → Sto → Prop} {E : XT} {r : En} {s : Sto} {a : DE}
theorem srcM_of {x : D} {c : Src} (h : srcD s x = some c) : srcM s x = .ok c s := by
  unfold srcM
  cases x with
  | dct m => cases h; rfl
  | cel n =>
    have h' : (match s[n]? with
      | some (some (.lst l)) => some (⟨l, some n⟩ : Src)
      | _ => none) = some c := h
    cases e : s[n]? with
    | none => rw [e] at h'; cases h'
    | some o =>
      rw [e] at h'
      cases o with
      | none => cases h'
      | some ct =>
        cases ct with
        | lst l =>
          cases h'
          simp only [lockD, srcD, e, okO]
        | _ => cases h'
  | _ =>
    simp only [lockD]
    rw [h]
    rfl
theorem w_seqI (h : RP (fun x s1 => ∃ c, srcD s1 x = some c ∧ Q c s1) E (a r s)) : RP Q E (seqI a r s) := w_bind (h.mono (fun x s ⟨c, e, h⟩ => by
  rw [srcM_of e]
  exact h) fun _ _ _ h => h)
theorem w_argI {m : DM (List D)} {g : List D → Sto → Res Src} (h : RP (fun x s1 => RP Q E (g x s1)) E (m r s)) : RP Q E (argI g m r s) := w_bind h
theorem w_range1 {j : Int} (h1 : -(2 ^ 62) ≤ j) (h2 : j < 2 ^ 62) (h : Q ⟨intL 0 j.toNat, none⟩ s) : RP Q E (rangeD1 [.int j] s) := by
  unfold rangeD1
  dsimp only
  rw [if_pos ⟨h1, h2⟩]
  exact h
theorem intL_len {lo : Int} {n : Nat} : (intL lo n).length = n := by simp [intL]
theorem intL_get {lo : Int} {n i : Nat} {d : D} (h : (intL lo n)[i]? = some d) : i < n ∧ d = .int (lo + i) := by
  have hi := (List.getElem?_eq_some_iff.mp h).1
  rw [intL_len] at hi
  refine ⟨hi, ?_⟩
  unfold intL at h
  rw [List.getElem?_map, List.getElem?_range hi] at h
  simpa using h.symm
end
end Pl
set_option Elab.async false
set_option linter.all false
set_option maxRecDepth 100000
/-! Pl: operators on data. -/
namespace Pl
open Mp
open PySem (Str sizeLine)
section
variable {Q : D → Sto → Prop} {E : XT} {r : En} {s : Sto} {i j : Int} {x y : Str}
theorem o_addI (h : Q (.int (i + j)) s) : RP Q E (addD (.int i) (.int j) s) := h
theorem o_addL {l m : List D} (hl : l.length + m.length ≤ sizeLine) (h : Q (.lst (l ++ m)) s) : RP Q E (addD (.lst l) (.lst m) s) := by
  unfold addD
  dsimp only [lstX]
  rw [if_pos hl]
  exact h
theorem o_addI' (h : Q (.int (i + j)) s) : RP Q E (addI (.int i) (.int j) s) := h
theorem o_sub (h : Q (.int (i - j)) s) : RP Q E (subD (.int i) (.int j) s) := h
theorem log_lt' {n k : Nat} (h : n < 2 ^ k) (hk : 0 < k) : n.log2 < k := by
  by_cases z : n = 0
  · subst z
    have : Nat.log2 0 = 0 := by decide
    omega
  · exact (Nat.log2_lt z).mpr h
theorem mulC_of {a b : Nat} (hi : i.natAbs < 2 ^ a) (hj : j.natAbs < 2 ^ b) (ha : 0 < a) (hb : 0 < b) (h : a + b ≤ 1000000) : mulC i j = true := by
  unfold mulC
  refine decide_eq_true ?_
  have h1 := log_lt' hi ha
  have h2 := log_lt' hj hb
  omega
theorem o_mul (hc : mulC i j = true) (h : Q (.int (i * j)) s) : RP Q E (mulD (.int i) (.int j) s) := by
  unfold mulD
  dsimp only
  rw [if_pos hc]
  exact h
/-- of small ones -/
theorem o_mul64 (hi : i.natAbs < 18446744073709551616) (hj : j.natAbs < 18446744073709551616) (h : Q (.int (i * j)) s) : RP Q E (mulD (.int i) (.int j) s) := o_mul (mulC_of (a := 64) (b := 64) hi hj (by decide) (by decide) (by decide)) h
theorem log_of {n b : Nat} (h : n < 2 ^ b) (hb : 0 < b) : n.log2 < b := log_lt' h hb
theorem o_div (h0 : 0 < j) (h1 : j.natAbs.log2 < 9000) (h : Q (.int (i / j)) s) : RP Q E (divD (.int i) (.int j) s) := by
  unfold divD
  dsimp only
  rw [if_pos ⟨h0, h1⟩]
  exact h
theorem o_div64 (h0 : 0 < j) (h1 : j < 18446744073709551616) (h : Q (.int (i / j)) s) : RP Q E (divD (.int i) (.int j) s) :=
  o_div h0 (Nat.lt_of_lt_of_le (log_of (b := 64) (by omega) (by decide)) (by decide)) h
theorem o_mod (h0 : 0 < j) (h : Q (.int (i % j)) s) : RP Q E (modD (.int i) (.int j) s) := by
  unfold modD
  dsimp only
  rw [if_pos h0]
  exact h
theorem o_pow (h0 : 0 ≤ j) (h1 : j ≤ 1000000) (h2 : i.natAbs < 2 ^ 64) (h : Q (.int (i ^ j.toNat)) s) : RP Q E (powD (.int i) (.int j) s) := by
  unfold powD
  dsimp only
  rw [if_pos ⟨h0, h1, h2⟩]
  exact h
theorem o_powV {v : Int} (h0 : 0 ≤ j) (h1 : j ≤ 1000000) (h2 : i.natAbs < 2 ^ 64) (hv : i ^ j.toNat = v) (h : Q (.int v) s) : RP Q E (powD (.int i) (.int j) s) := o_pow h0 h1 h2 (by rw [hv]; exact h)
theorem o_max2 (h : Q (.int (if j > i then j else i)) s) : RP Q E (max2D [.int i, .int j] s) := h
theorem o_min2 (h : Q (.int (if j < i then j else i)) s) : RP Q E (min2D [.int i, .int j] s) := h
theorem o_neg (h : Q (.int (-i)) s) : RP Q E (negD (.int i) s) := h
theorem o_lt (h : Q (.bl (decide (i < j))) s) : RP Q E (ltI (.int i) (.int j) s) := h
theorem o_le (h : Q (.bl (decide (i ≤ j))) s) : RP Q E (leI (.int i) (.int j) s) := h
theorem o_gt (h : Q (.bl (decide (j < i))) s) : RP Q E (gtI (.int i) (.int j) s) := h
theorem o_ge (h : Q (.bl (decide (j ≤ i))) s) : RP Q E (geI (.int i) (.int j) s) := h
theorem o_eqI (h : Q (.bl (decide (i = j))) s) : RP Q E (eqD (.int i) (.int j) s) := h
theorem o_neI (h : Q (.bl (!decide (i = j))) s) : RP Q E (neD (.int i) (.int j) s) := h
theorem o_eqS (h : Q (.bl (decide (x = y))) s) : RP Q E (eqD (.str x) (.str y) s) := h
theorem o_neS (h : Q (.bl (!decide (x = y))) s) : RP Q E (neD (.str x) (.str y) s) := h
theorem o_abs (h : Q (.int (if i < 0 then -i else i)) s) : RP Q E (absD [.int i] s) := h
theorem o_int (h : Q (.int i) s) : RP Q E (Mp.intD [.int i] s) := h
theorem o_intB {b : Bool} (h : Q (.int (if b then 1 else 0)) s) : RP Q E (Mp.intD [.bl b] s) := h
theorem o_tup {l : List D} (hl : l.length ≤ sizeLine) (h : Q (.tup l) s) : RP Q E (tupD l s) := by
  unfold tupD
  rw [if_pos hl]
  exact h
theorem o_lst {l : List D} (hl : l.length ≤ sizeLine) (h : Q (.lst l) s) : RP Q E (lstD false l s) := by
  unfold lstD
  rw [if_pos hl]
  exact h
theorem o_lstC {l : List D} (hl : l.length ≤ sizeLine) (h : Q (.cel s.length) (s ++ [some (.lst l)])) : RP Q E (lstD true l s) := by
  unfold lstD
  rw [if_pos hl]
  exact h
theorem o_newL {l : List D} (h : Q (.lst l) s) : RP Q E (newL false l s) := h
theorem o_lenL {l : List D} (h : Q (.int (l.length : Nat)) s) : RP Q E (lenD [.lst l] s) := h
theorem o_lenT {l : List D} (h : Q (.int (l.length : Nat)) s) : RP Q E (lenD [.tup l] s) := h
theorem o_list {x : D} {l : List D} (hs : seqOf s x = some l) (h : Q (.lst l) s) : RP Q E (listD false [x] s) := by
  unfold listD
  dsimp only
  rw [hs]
  exact h
theorem o_isi {it : Isi} {x c : D} {t : Tg} {b : Bool} (h1 : tagD s x = some t) (h2 : isiT it t c = some b) (h : Q (.bl b) s) : RP Q E (isiD it [x, c] s) := by
  unfold isiD
  dsimp only
  rw [h1]
  dsimp only
  rw [h2]
  exact h
theorem o_idxD {n : Nat} {m : List (L2.Key × D)} {x y d : D} {k : L2.Key} (h1 : dctOf s x = some m) (h2 : keyD y = some k) (h3 : getK m k = some d) (h : Q d s) : RP Q E (idxD x y s) := by
  unfold idxD
  rw [h1]
  dsimp only
  rw [h2]
  dsimp only
  rw [h3]
  exact h
theorem o_fld {tb : List (Str × Ak)} {f C : Str} {x d : D} {fs : List (Str × D)} (h1 : insOf s x = some (C, fs)) (h2 : tb.lookup C = some .fld) (h3 : fs.lookup f = some d) (h : Q d s) : RP Q E (attrD tb f x s) := by
  unfold attrD
  rw [h1]
  dsimp only
  rw [h2]
  dsimp only
  rw [h3]
  exact h
/-- xs[i] of a frozen list, a tuple -/
theorem o_idxL {l : List D} {d : D} {k : Nat} (h0 : i = (k : Int)) (h1 : l[k]? = some d) (h : Q d s) : RP Q E (idxD (.lst l) (.int i) s) := by
  have hk := (List.getElem?_eq_some_iff.mp h1).1
  have e : L2.atI l i = some d := by
    subst h0
    unfold L2.atI L2.ixN
    rw [if_pos (by omega), if_pos (by omega)]
    simpa using h1
  show RP Q E (okO s (L2.atI l i))
  rw [e]
  exact h
theorem cut_take {l : List D} {k : Int} (hk : 0 ≤ k) : cutD l none (some k) = l.take k.toNat := by
  unfold cutD
  have e0 : _root_.HT.sIx l.length 0 none = 0 := rfl
  have e1 : _root_.HT.sIx l.length l.length (some k) = min k.toNat l.length := if_neg (by omega)
  rw [e0, e1, List.drop_zero, Nat.sub_zero]
  by_cases h : k.toNat ≤ l.length
  · rw [Nat.min_eq_left h]
  · rw [Nat.min_eq_right (by omega), List.take_length, List.take_of_length_le (by omega)]
end
end Pl
set_option Elab.async false
set_option linter.all false
set_option maxRecDepth 100000
/-! Pl: how long a repr is. -/
namespace Pl
open Mp
open PySem (Str sizeLine PyData)
open PySem
mutual
def wt : PyData → Nat
  | .none => 4
  | .bool _ => 5
  | .int _ => 600
  | .str x => (reprText x).length
  | .list xs => wtAll xs + 4
  | .tuple xs => wtAll xs + 4
  | .dict _ => 0
def wtAll : List PyData → Nat
  | [] => 0
  | x :: xs => wt x + 2 + wtAll xs
end
theorem int_len {i : Int} (h : i.natAbs.log2 < 1920) : (Str.ofString (toString i)).length ≤ 600 := by
  have hb : i.natAbs < 2 ^ 1920 := by
    by_cases z : i.natAbs = 0
    · rw [z]
      exact Nat.two_pow_pos 1920
    · exact (Nat.log2_lt z).mp h
  have hc : (2 : Nat) ^ 1920 < 10 ^ 599 := by decide +kernel
  by_cases h0 : 0 ≤ i
  · exact Nat.le_trans (PyProof.Rows.toString_length_le (k := 599) h0 (by decide) (by
      have : (i.natAbs : Int) < ((10 ^ 599 : Nat) : Int) := by exact_mod_cast Nat.lt_trans hb hc
      rw [Int.natAbs_of_nonneg h0] at this
      simpa using this)) (by decide)
  · have e : toString i = "-" ++ toString (-i) := by
      cases i with
      | ofNat n => exact absurd (Int.natCast_nonneg n) h0
      | negSucc n => rfl
    have h1 := PyProof.Rows.toString_length_le (v := -i) (k := 599) (by omega) (by decide) (by
      have : (i.natAbs : Int) < ((10 ^ 599 : Nat) : Int) := by exact_mod_cast Nat.lt_trans hb hc
      rw [show ((i.natAbs : Nat) : Int) = -i by omega] at this
      simpa using this)
    rw [e, PyProof.Rows.ofString_length, String.toList_append, List.length_append]
    rw [PyProof.Rows.ofString_length] at h1
    have : ("-" : String).toList.length = 1 := by decide
    omega
theorem textFrom_le : ∀ (ts : List Str) (k : Nat) (acc : Str), (textFrom k acc ts).length ≤ acc.length + piled ts
  | [], k, acc => by
    show acc.length ≤ acc.length + piled []
    omega
  | t :: r, k, acc => by
    have h := textFrom_le r (k + 1) (acc ++ (if k > 0 then ", " else "" : String) ++ t)
    have e : (acc ++ (if k > 0 then ", " else "" : String) ++ t).length = acc.length + (if k > 0 then 2 else 0) + t.length := by
      rw [strLen_append, strLen_append]
      split <;> rfl
    have d1 : (if k > 0 then 2 else 0 : Nat) ≤ 2 := by split <;> omega
    rw [piled_cons]
    show (textFrom (k + 1) _ r).length ≤ _
    omega
theorem join_le : ∀ ts : List Str, (Str.join ", " ts).length ≤ piled ts
  | [] => by decide
  | t :: r => by
    have := join_length_add (t :: r) (by simp)
    omega
mutual
theorem shown_len : ∀ p : PyData, p.showable = true → p.hasDict = false → p.shown.length ≤ wt p
  | .none, _, _ => by rw [PyData.shown, wt]; decide
  | .bool b, _, _ => by rw [PyData.shown, wt]; cases b <;> decide
  | .int i, h, _ => by
    rw [PyData.shown, wt]
    rw [PyData.showable] at h
    exact int_len (of_decide_eq_true h)
  | .str x, _, _ => by rw [PyData.shown, wt]; exact Nat.le_refl _
  | .list xs, h, hd => by
    rw [PyData.showable] at h
    rw [PyData.hasDict] at hd
    have := shownAll_len xs h hd
    rw [PyData.shown, wt]
    unfold listText
    rw [strLen_append]
    have h2 := textFrom_le (PyData.shownAll xs) 0 "["
    have h3 : (("[" : String) : Str).length = 1 := by decide
    have h4 : (("]" : String) : Str).length = 1 := by decide
    omega
  | .tuple xs, h, hd => by
    rw [PyData.showable] at h
    rw [PyData.hasDict] at hd
    have := shownAll_len xs h hd
    rw [PyData.shown, wt]
    unfold tupleText
    rw [strLen_append, strLen_append]
    have h2 := join_le (PyData.shownAll xs)
    have h3 : (("(" : String) : Str).length = 1 := by decide
    have h4 : ((if (PyData.shownAll xs).length == 1 then ",)" else ")" : String) : Str).length ≤ 2 := by split <;> decide
    omega
  | .dict kvs, _, hd => by
    rw [PyData.hasDict] at hd
    cases hd
theorem shownAll_len : ∀ xs : List PyData, PyData.showableAll xs = true → PyData.hasDictAll xs = false → piled (PyData.shownAll xs) ≤ wtAll xs
  | [], _, _ => by rw [PyData.shownAll, wtAll]; decide
  | x :: xs, h, hd => by
    rw [PyData.showableAll, Bool.and_eq_true] at h
    rw [PyData.hasDictAll, Bool.or_eq_false_iff] at hd
    have h1 := shown_len x h.1 hd.1
    have h2 := shownAll_len xs h.2 hd.2
    rw [PyData.shownAll, piled_cons, wtAll]
    omega
end
end Pl
set_option Elab.async false
set_option linter.all false
set_option maxRecDepth 100000
/-! Pl: the pen of a law. -/
namespace Pl
open Mp
open PySem (Str sizeLine)
/-- the pen's cell -/
def penC (cells : List Int) (b l : Int) : Ct := .dct [(.inr "cells", .lst (cells.map .int)), (.inr "begun", .int b), (.inr "left", .int l)]
/-- cell n is a pen with at most b draws begun -/
def Pen (s : Sto) (n : Nat) (b : Int) : Prop := ∃ cells g l, s[n]? = some (some (penC cells g l)) ∧ cells.length ≤ 63 ∧ 0 ≤ g ∧ g ≤ b ∧ 0 ≤ l
/-- all but cell n stays -/
def Fr (n : Nat) (s s' : Sto) : Prop := s.length ≤ s'.length ∧ ∀ i, i < s.length → i ≠ n → s'[i]? = s[i]?
theorem Fr.refl {n : Nat} {s : Sto} : Fr n s s := ⟨Nat.le_refl _, fun _ _ _ => rfl⟩
theorem Fr.trans {n : Nat} {s s' s'' : Sto} (h : Fr n s s') (k : Fr n s' s'') : Fr n s s'' := ⟨Nat.le_trans h.1 k.1, fun i hi ne => (k.2 i (Nat.lt_of_lt_of_le hi h.1) ne).trans (h.2 i hi ne)⟩
theorem Fr.set {n : Nat} {s : Sto} {c : Option Ct} : Fr n s (s.set n c) := ⟨by rw [List.length_set]; exact Nat.le_refl _, fun i _ ne => List.getElem?_set_ne (fun e => ne e.symm)⟩
theorem Pen.mono {s : Sto} {n : Nat} {b c : Int} (h : Pen s n b) (hb : b ≤ c) : Pen s n c := by
  obtain ⟨cells, g, l, h1, h2, h3, h4, h5⟩ := h
  exact ⟨cells, g, l, h1, h2, h3, Int.le_trans h4 hb, h5⟩
theorem Pen.lt {s : Sto} {n : Nat} {b : Int} (h : Pen s n b) : n < s.length := by
  obtain ⟨cells, g, l, h1, _⟩ := h
  exact (List.getElem?_eq_some_iff.mp h1).1
theorem Pen.app {s : Sto} {n : Nat} {b : Int} (h : Pen s n b) (c : Option Ct) : Pen (s ++ [c]) n b := by
  have hl := h.lt
  obtain ⟨cells, g, l, h1, h2⟩ := h
  exact ⟨cells, g, l, by rw [List.getElem?_append_left hl]; exact h1, h2⟩
end Pl
namespace Pl
open Mp
open PySem (Str sizeLine PyData)
section
variable {Q : D → Sto → Prop} {E : XT} {s : Sto} {n : Nat} {c : List Int} {g l x : Int}
theorem pen_left (hs : s[n]? = some (some (penC c g l))) (h : Q (.int l) s) : RP Q E (idxD (.cel n) (.str "left") s) := by
  refine o_idxD (n := n) (m := [(.inr "cells", .lst (c.map .int)), (.inr "begun", .int g), (.inr "left", .int l)]) (k := .inr "left") (d := .int l) ?_ rfl ?_ h
  · unfold dctOf
    dsimp only
    rw [hs]
    rfl
  · rfl
theorem pen_begun (hs : s[n]? = some (some (penC c g l))) (h : Q (.int g) s) : RP Q E (idxD (.cel n) (.str "begun") s) := by
  refine o_idxD (n := n) (m := [(.inr "cells", .lst (c.map .int)), (.inr "begun", .int g), (.inr "left", .int l)]) (k := .inr "begun") (d := .int g) ?_ rfl ?_ h
  · unfold dctOf
    dsimp only
    rw [hs]
    rfl
  · rfl
theorem pen_cells (hs : s[n]? = some (some (penC c g l))) (h : Q (.lst (c.map .int)) s) : RP Q E (idxD (.cel n) (.str "cells") s) := by
  refine o_idxD (n := n) (m := [(.inr "cells", .lst (c.map .int)), (.inr "begun", .int g), (.inr "left", .int l)]) (k := .inr "cells") (d := .lst (c.map .int)) ?_ rfl ?_ h
  · unfold dctOf
    dsimp only
    rw [hs]
    rfl
  · rfl
theorem pen_putL (hs : s[n]? = some (some (penC c g l))) : putI (.cel n) (.str "left") (.int x) s = some (s.set n (some (penC c g x))) := by
  unfold putI
  dsimp only
  rw [hs]
  rfl
theorem pen_putB (hs : s[n]? = some (some (penC c g l))) : putI (.cel n) (.str "begun") (.int x) s = some (s.set n (some (penC c x l))) := by
  unfold putI
  dsimp only
  rw [hs]
  rfl
theorem pen_at (hs : s[n]? = some (some (penC c g l))) {y : Ct} : (s.set n (some y))[n]? = some (some y) := List.getElem?_set_self (List.getElem?_eq_some_iff.mp hs).1
theorem toPys_ints : ∀ c : List Int, toPys (c.map D.int) = some (c.map PyData.int)
  | [] => rfl
  | i :: c => by
    show (toPy (.int i)).bind (fun x => (toPys (c.map D.int)).map fun y => x :: y) = _
    rw [toPys_ints c]
    rfl
theorem lay_ints : ∀ c : List Int, PyData.canLayAll0 (c.map PyData.int) = true
  | [] => rfl
  | i :: c => by
    rw [List.map_cons, PyData.canLayAll0, lay_ints c]
    rfl
theorem dep_ints : ∀ c : List Int, PyData.depthAll (c.map PyData.int) = 0
  | [] => rfl
  | i :: c => by
    rw [List.map_cons, PyData.depthAll, dep_ints c]
    rfl
theorem shaped_ints (c : List Int) : PySem.SeqAt.shaped (.list (c.map .int)) = true := by
  unfold PySem.SeqAt.shaped
  rw [PyData.canLay0, lay_ints, PyData.depth, dep_ints]
  rfl
theorem o_neNil (h : Q (.bl (!c.isEmpty)) s) : RP Q E (neD (.lst (c.map .int)) (.lst []) s) := by
  show RP Q E (eqG0 true (.lst (c.map .int)) (.lst []) s)
  have e1 : toPy (.lst (c.map .int)) = some (.list (c.map .int)) := by
    rw [toPy, toPys_ints]
    rfl
  have e2 : toPy (.lst []) = some (.list []) := rfl
  unfold eqG0
  rw [e1, e2]
  dsimp only
  rw [if_pos (by rw [shaped_ints]; rfl)]
  have e3 : PyData.eqv (.list (c.map .int)) (.list []) = c.isEmpty := by
    rw [PyData.eqv]
    cases c with
    | nil => rfl
    | cons i c => rfl
  show Q (.bl (if true = true then !PyData.eqv (.list (c.map .int)) (.list []) else _)) s
  rw [e3]
  exact h
end
end Pl
set_option Elab.async false
set_option linter.all false
set_option maxRecDepth 100000
/-! Pl: try .. except .. as e. -/
namespace Pl
open Mp
open PySem (Str sizeLine PyData Addr)
section
variable {Q : D → Sto → Prop} {E : XT} {r : En} {s : Sto} {q : PQ}
theorem FP.rt_eq {v : D} {s2 : Sto} {f : Fl} (h : FP ⟨fun _ _ => False, fun d s => d = v ∧ s = s2, fun _ _ => False, fun _ _ => False, fun _ _ _ _ => False⟩ f) : f = .rt v s2 := by
  cases f with
  | rt d s =>
    obtain ⟨rfl, rfl⟩ := h
    rfl
  | nx _ _ => exact h.elim
  | bk _ _ => exact h.elim
  | ct _ _ => exact h.elim
  | exc _ _ _ _ => exact h.elim
  | bad => exact h.elim
abbrev retQ (v : D) (s2 : Sto) : PQ := ⟨fun _ _ => False, fun d s => d = v ∧ s = s2, fun _ _ => False, fun _ _ => False, fun _ _ _ _ => False⟩
/-- a handler that returns -/
theorem w_tryAs {i : Nat} {C0 : Str} {mb : DS} {tb : List (Str × Bool)} {mh : Addr → Option Addr → List (Str × D) → DS} (h : FP ⟨q.nx, q.rt, q.bk, q.ct, fun C fs r' s' => ∃ k, tb.lookup C = some k ∧ (k = true → C = C0 ∧ ∃ v s2, (∀ a d, FP (retQ v s2) (mh a d fs (r'.set i (some (.exn a d C fs))) s')) ∧ q.rt v s2) ∧ (k = false → q.ex C fs r' s')⟩ (mb r s)) : FP q (tryAsS i C0 mb tb mh r s) := by
  unfold tryAsS
  cases e : mb r s with
  | exc C fs r' s' =>
    rw [e] at h
    obtain ⟨k, e1, h1, h2⟩ := h
    dsimp only
    rw [e1]
    cases k
    · exact h2 rfl
    · obtain ⟨rfl, v, s2, h3, h4⟩ := h1 rfl
      dsimp only
      rw [if_pos rfl]
      have h5 : ∀ a d, offS i (mh a d fs (r'.set i (some (.exn a d C fs))) s') = .rt v s2 := fun a d => by
        rw [(h3 a d).rt_eq]
        rfl
      rw [joinF_of fun a d => (h5 a d).trans (h5 0 none).symm, h5]
      exact h4
  | nx r s => rw [e] at h; exact h
  | rt d s => rw [e] at h; exact h
  | bk r s => rw [e] at h; exact h
  | ct r s => rw [e] at h; exact h
  | bad => rw [e] at h; exact h
theorem o_isx {a : Addr} {d : Option Addr} {tt : List (String × Bool)} {C : Str} {fs : List (Str × D)} {n : String} {b : Bool} (hb : tt.lookup n = some b) (h : Q (.bl b) s) : RP Q E (isxD a d tt [.exn a d C fs, .ty n] s) := by
  unfold isxD
  dsimp only
  rw [if_pos ⟨rfl, rfl⟩, hb]
  exact h
theorem w_exn {a : Addr} {d : Option Addr} {f : Str} {m : DE} (h : RP (fun x s1 => ∃ C fs v, x = .exn a d C fs ∧ fs.lookup f = some v ∧ Q v s1) E (m r s)) : RP Q E (exnM a d f m r s) := w_bind (h.mono (fun x s1 ⟨C, fs, v, e, e2, h⟩ => by
  subst e
  dsimp only
  rw [if_pos ⟨rfl, rfl⟩, e2]
  exact h) fun _ _ _ h => h)
end
end Pl
set_option Elab.async false
set_option linter.all false
set_option maxRecDepth 100000
/-! Pl: rules for lists that grow, dict comprehensions, zip of a starred tuple, sorting. -/
namespace Pl
open Mp
open PySem (Str sizeLine PyData)
section
variable {Q : D → Sto → Prop} {E : XT} {r : En} {s : Sto} {q : PQ} {a : DE}
theorem RP.eqn {T : Type} {m : Res T} {v : T} {s' : Sto} (h : RP (fun y t => t = s' ∧ y = v) noX m) : m = .ok v s' := by
  obtain ⟨x, t, e, rfl, rfl⟩ := h.ex
  exact e
/-! dict comprehensions -/
/-! methods -/
theorem w_bm {ty : Sto → D → Bool} {f : D → List D → Sto → Res D} {l : DM (List D)} (h : RP (fun x s1 => ty s1 x = true ∧ RP (fun ds s2 => RP Q E (f x ds s2)) E (l r s1)) E (a r s)) : RP Q E (bmD ty f a l r s) := w_bind (h.mono (fun x s ⟨e, h⟩ => by
  rw [if_pos e]
  exact w_bind h) fun _ _ _ h => h)
theorem o_app {n : Nat} {l : List D} {d : D} (hs : s[n]? = some (some (.lst l))) (hl : l.length < sizeLine) (h : Q .non (s.set n (some (.lst (l ++ [d]))))) : RP Q E (appD (.cel n) [d] s) := by
  unfold appD
  dsimp only
  rw [hs]
  dsimp only
  rw [if_pos hl]
  exact h
end
end Pl
set_option Elab.async false
set_option linter.all false
set_option maxRecDepth 100000
/-! Pl: letters and words as texts. -/
namespace Pl
open Mp
open PySem (Str sizeLine PyData)
def ch (i : Nat) : Str := ⟨#[97 + i]⟩
end Pl
set_option Elab.async false
set_option linter.all false
set_option maxRecDepth 100000
set_option maxHeartbeats 4000000
/-! Pl: lambdas handed to a def; texts by their signs. -/
namespace Pl
open Mp
open PySem (Str sizeLine PyData Addr)
section
variable {Q : D → Sto → Prop} {E : XT} {r : En} {s : Sto} {te : DE}
/-- a comprehension with a test over a mapped list, which leaves the store -/
theorem w_lcY {T : Type} {c : Src} {g : DG} {tt : DM Bool} {te : DE} {Q : List D → Sto → Prop} (xs : List T) (f F : T → D) (C : T → Bool) (hi : c.its = xs.map f) (hc : c.cel = none) (hl : xs.length ≤ sizeLine)
    (hs : ∀ x ∈ xs, ∃ p, g (f x) r s = some (p, s) ∧ RP (fun k s1 => s1 = s ∧ k = C x) noX (tt p s) ∧ (C x = true → RP (fun y t => t = s ∧ y = F x) noX (te p s))) (he : Q ((xs.filter C).map F) s) : RP Q E (lcF c g tt te r c.its [] s) :=
  w_lc (fun i l s' => s' = s ∧ l = ((xs.take i).filter C).map F ∧ l.length ≤ i) hc ⟨rfl, by simp, Nat.le_refl _⟩ (fun i d l s' hd ⟨e1, e2, e3⟩ => by
    subst e1
    rw [hi, List.getElem?_map] at hd
    cases ex : xs[i]? with
    | none => rw [ex] at hd; cases hd
    | some x =>
      rw [ex] at hd
      cases hd
      have hil := (List.getElem?_eq_some_iff.mp ex).1
      obtain ⟨p, h1, h2, h3⟩ := hs x (List.mem_of_getElem? ex)
      refine ⟨_, h1, ?_⟩
      refine RP.of h2.eqn ⟨fun hk => ?_, fun hk => ?_⟩
      · refine RP.of (h3 hk).eqn ⟨by omega, rfl, ?_, by simp; omega⟩
        rw [e2, List.take_succ, ex]
        simp [hk]
      · refine ⟨rfl, ?_, by omega⟩
        rw [e2, List.take_succ, ex]
        simp [hk]) (fun l s' ⟨e1, e2, _⟩ => by
    subst e1
    rw [hi, List.length_map, List.take_length] at e2
    rw [e2]
    exact he)
end
end Pl
set_option Elab.async false
set_option linter.all false
set_option maxRecDepth 100000
set_option maxHeartbeats 4000000
/-! Pl: sums of products over a ring. -/
namespace Pl
section
end
end Pl
namespace Pl
open Mp
open PySem (Str sizeLine)
end Pl
namespace Pl
open Mp
open PySem (Str sizeLine PyData)
section
variable {s : Sto} {Q : D → Sto → Prop} {E : XT}
theorem o_ext {n : Nat} {l l2 : List D} {d : D} (hs : s[n]? = some (some (.lst l))) (hx : lstX s d = some l2) (hl : l.length + l2.length ≤ sizeLine) (h : Q .non (s.set n (some (.lst (l ++ l2))))) : RP Q E (extD (.cel n) [d] s) := by
  unfold extD
  dsimp only
  rw [hs]
  dsimp only
  rw [hx]
  dsimp only
  rw [if_pos hl]
  exact h
end
end Pl
set_option Elab.async false
set_option linter.all false
set_option maxRecDepth 100000
set_option maxHeartbeats 4000000
/-! Pl: rules for two clauses, starred items, dict(..), own operators, several except clauses. -/
namespace Pl
open Mp
open PySem (Str sizeLine PyData Addr)
section
variable {Q : D → Sto → Prop} {E : XT} {r : En} {s : Sto} {q : PQ} {a b : DE}
/-! two clauses -/
theorem w_lc20 {k : Bool} {mi mi1 : DM Src} {g g1 : DG} {tt tt1 : DM Bool} {te : DE} {vs vs1 : List Nat} (h : RP (fun c s' => RP (fun acc s2 => RP Q E (newL k acc s2)) noX (lcF2 c g tt mi1 g1 tt1 te vs1 (wipeE r vs) c.its [] s')) E (mi r s)) : RP Q E (lc2M k mi g tt mi1 g1 tt1 te vs vs1 r s) := w_bind (h.mono (fun c s1 h => by
  cases e : lcF2 c g tt mi1 g1 tt1 te vs1 (wipeE r vs) c.its [] s1 with
  | ok acc s2 => rw [e] at h; exact h
  | exc C fs s2 => rw [e] at h; exact h.elim
  | bad => rw [e] at h; exact h.elim) fun _ _ _ h => h)
theorem w_seqJ {Q : Src → Sto → Prop} (h : RP (fun x s1 => ∃ c, srcJ s1 x = some c ∧ Q c s1) E (a r s)) : RP Q E (seqJ a r s) := w_bind (h.mono (fun x s ⟨c, e, h⟩ => by
  rw [e]
  exact h) fun _ _ _ h => h)
/-! starred items -/
theorem w_starC {Q : List D → Sto → Prop} {m : DM (List D)} (h : RP (fun x s1 => ∃ l, seqOf s1 x = some l ∧ RP (fun ys s2 => Q (l ++ ys) s2) E (m r s1)) E (a r s)) : RP Q E (starC a m r s) := w_bind (h.mono (fun x s ⟨l, e, h⟩ => w_bind (by
  show RP _ E (okO s (seqOf s x))
  rw [e]
  exact w_bind h)) fun _ _ _ h => h)
theorem w_spr (h : RP (fun x s1 => ∃ m, dctOf s1 x = some m ∧ Q (.dct m) s1) E (a r s)) : RP Q E (sprM a r s) := w_bind (h.mono (fun x s ⟨m, e, h⟩ => by
  rw [e]
  exact h) fun _ _ _ h => h)
/-! dict(..) -/
/-! own operators -/
theorem o_own0 {tb : List (Str × DF)} {f : D → D → Sto → Res D} {x y : D} (h0 : insOf s x = none) (h : RP Q E (f x y s)) : RP Q E (ownD tb f x y s) := by
  unfold ownD
  rw [h0]
  exact h
theorem o_eqO0 {neg : Bool} {tb : List ((Str × Str) × DF)} {x y : D} (h0 : insOf s x = none) (h : RP Q E (eqG neg x y s)) : RP Q E (eqO neg tb x y s) := by
  unfold eqO
  rw [h0]
  exact h
/-! several except clauses -/
theorem w_tryN {x : DS} {hs : List Hd} (h : FP ⟨q.nx, q.rt, q.bk, q.ct, fun C fs r' s' => FP q (manyF hs C fs r' s')⟩ (x r s)) : FP q (tryNS x hs r s) := by
  unfold tryNS
  cases e : x r s with
  | exc C fs r' s' => rw [e] at h; exact h
  | nx r s => rw [e] at h; exact h
  | rt d s => rw [e] at h; exact h
  | bk r s => rw [e] at h; exact h
  | ct r s => rw [e] at h; exact h
  | bad => rw [e] at h; exact h
end
end Pl
namespace Pl
open Mp
open PySem (Str sizeLine PyData Addr)
section
end
end Pl
namespace Pl
open Mp
open PySem (Str sizeLine PyData Addr)
section
end
end Pl
set_option Elab.async false
set_option linter.all false
set_option maxRecDepth 100000
/-! Pl: how long a repr is, dicts too. -/
namespace Pl
open Mp
open PySem (Str sizeLine PyData)
open PySem
mutual
def wd : PyData → Nat
  | .none => 4
  | .bool _ => 5
  | .int _ => 600
  | .str x => (reprText x).length
  | .list xs => wdAll xs + 4
  | .tuple xs => wdAll xs + 4
  | .dict kvs => wdKv kvs + 4
def wdAll : List PyData → Nat
  | [] => 0
  | x :: xs => wd x + 2 + wdAll xs
def wdKv : List (PyData × PyData) → Nat
  | [] => 0
  | (a, b) :: r => wd a + wd b + 4 + wdKv r
end
/-! texts of sound signs -/
def SOk (z : Str) : Prop := ∀ c ∈ z.cps.toList, c < 0x110000
theorem SOk.of (x : String) : SOk (Str.ofString x) := by
  rw [Str.ofString_eq_toList]
  intro c hc
  have hc : c ∈ x.toList.map Char.toNat := by simpa using hc
  obtain ⟨k, _, rfl⟩ := List.mem_map.mp hc
  have := k.valid
  show k.val.toNat < _
  rcases this with h | h <;> omega
theorem SOk.app {a b : Str} (ha : SOk a) (hb : SOk b) : SOk (a ++ b) := fun c hc => by
  have hc : c ∈ (a.cps ++ b.cps).toList := hc
  rw [Array.toList_append, List.mem_append] at hc
  exact hc.elim (ha c) (hb c)
theorem SOk.join : ∀ {ts : List Str}, (∀ t ∈ ts, SOk t) → SOk (Str.join ", " ts)
  | [], _ => fun c hc => by cases hc
  | [x], h => h x List.mem_cons_self
  | x :: y :: r, h => by
    show SOk (x ++ Str.ofString ", " ++ Str.join ", " (y :: r))
    exact ((h x List.mem_cons_self).app (SOk.of _)).app (SOk.join fun t ht => h t (List.mem_cons_of_mem _ ht))
mutual
/-- all texts in it are sound when shown -/
def snd : PyData → Prop
  | .none => True
  | .bool _ => True
  | .int _ => True
  | .str x => SOk (reprText x)
  | .list xs => sndAll xs
  | .tuple xs => sndAll xs
  | .dict kvs => sndKv kvs
def sndAll : List PyData → Prop
  | [] => True
  | x :: xs => snd x ∧ sndAll xs
def sndKv : List (PyData × PyData) → Prop
  | [] => True
  | (a, b) :: r => snd a ∧ snd b ∧ sndKv r
end
/-- data that can be shown: so much fuel, so deep, so wide -/
def Rdy (m k W : Nat) (d : D) : Prop := ∃ p, (∀ (s : Sto) n, m ≤ n → rdP s n d = some p) ∧ p.showable = true ∧ p.depth ≤ k ∧ wd p ≤ W ∧ snd p
def Rds (m k W : Nat) (l : List D) : Prop := ∃ ps, (∀ (s : Sto) n, m ≤ n → rdPs s n l = some ps) ∧ PyData.showableAll ps = true ∧ PyData.depthAll ps ≤ k ∧ wdAll ps ≤ W ∧ ps.length = l.length ∧ sndAll ps
section
variable {m m' k k' W W' : Nat} {d : D} {l : List D}
theorem Rdy.mono (h : Rdy m k W d) (h1 : m ≤ m') (h2 : k ≤ k') (h3 : W ≤ W') : Rdy m' k' W' d := by
  obtain ⟨p, e, a, b, c, o⟩ := h
  exact ⟨p, fun s n hn => e s n (Nat.le_trans h1 hn), a, Nat.le_trans b h2, Nat.le_trans c h3, o⟩
theorem Rds.nil : Rds 1 0 0 [] := by
  refine ⟨[], fun s n hn => ?_, rfl, Nat.le_refl _, Nat.le_refl _, rfl, trivial⟩
  obtain ⟨n, rfl⟩ : ∃ j, n = j + 1 := ⟨n - 1, by omega⟩
  simp only [rdPs]
theorem Rds.cons (h : Rdy m k W d) (h2 : Rds m' k' W' l) : Rds (max m m' + 1) (max k k') (W + 2 + W') (d :: l) := by
  obtain ⟨p, e1, a1, b1, c1, o1⟩ := h
  obtain ⟨ps, e2, a2, b2, c2, l2, o2⟩ := h2
  refine ⟨p :: ps, fun s n hn => ?_, ?_, ?_, ?_, by rw [List.length_cons, l2, List.length_cons], by rw [sndAll]; exact ⟨o1, o2⟩⟩
  · obtain ⟨n, rfl⟩ : ∃ j, n = j + 1 := ⟨n - 1, by omega⟩
    simp only [rdPs]
    rw [e1 s n (by omega), e2 s n (by omega)]
    rfl
  · rw [PyData.showableAll, a1, a2]
    rfl
  · rw [PyData.depthAll]
    omega
  · rw [wdAll]
    omega
theorem Rds.all : ∀ {l : List D}, (∀ d ∈ l, Rdy m k W d) → Rds (m + l.length + 1) k ((W + 2) * l.length) l
  | [], _ => by
    refine ⟨[], fun s n hn => ?_, rfl, Nat.zero_le _, Nat.zero_le _, rfl, trivial⟩
    obtain ⟨n, rfl⟩ : ∃ j, n = j + 1 := ⟨n - 1, by omega⟩
    simp only [rdPs]
  | d :: l, h => by
    obtain ⟨p, e1, a1, b1, c1, o1⟩ := h d List.mem_cons_self
    obtain ⟨ps, e2, a2, b2, c2, l2, o2⟩ := Rds.all (l := l) fun x hx => h x (List.mem_cons_of_mem _ hx)
    refine ⟨p :: ps, fun s n hn => ?_, ?_, ?_, ?_, by rw [List.length_cons, l2, List.length_cons], by rw [sndAll]; exact ⟨o1, o2⟩⟩
    · rw [List.length_cons] at hn
      obtain ⟨n, rfl⟩ : ∃ j, n = j + 1 := ⟨n - 1, by omega⟩
      simp only [rdPs]
      rw [e1 s n (by omega), e2 s n (by omega)]
      rfl
    · rw [PyData.showableAll, a1, a2]
      rfl
    · rw [PyData.depthAll]
      omega
    · rw [wdAll, List.length_cons, Nat.mul_succ]
      omega
theorem Rdy.int {i : Int} (h : i.natAbs < 2 ^ 1900) : Rdy 1 0 600 (.int i) := by
  refine ⟨.int i, fun s n hn => ?_, ?_, Nat.le_refl _, Nat.le_refl _, trivial⟩
  · obtain ⟨n, rfl⟩ : ∃ j, n = j + 1 := ⟨n - 1, by omega⟩
    simp only [rdP]
  · rw [PyData.showable]
    refine decide_eq_true ?_
    by_cases z : i.natAbs = 0
    · rw [z]
      decide
    · exact (Nat.log2_lt z).mpr (Nat.lt_of_lt_of_le h (Nat.pow_le_pow_right (by decide) (by decide)))
theorem Rdy.str {z : Str} (h : ∀ c ∈ z.cps.toList, c < 16 ^ 8) (ho : SOk (reprText z)) : Rdy 1 0 (10 * z.length + 2) (.str z) := by
  refine ⟨.str z, fun s n hn => ?_, rfl, Nat.le_refl _, PySem.StrLaws.reprText_len z h, by rw [snd]; exact ho⟩
  obtain ⟨n, rfl⟩ : ∃ j, n = j + 1 := ⟨n - 1, by omega⟩
  simp only [rdP]
theorem Rdy.tup (h : Rds m k W l) : Rdy (m + 1) (k + 1) (W + 4) (.tup l) := by
  obtain ⟨ps, e, a, b, c, _, o⟩ := h
  refine ⟨.tuple ps, fun s n hn => ?_, by rw [PyData.showable]; exact a, by rw [PyData.depth]; omega, by rw [wd]; omega, by rw [snd]; exact o⟩
  obtain ⟨n, rfl⟩ : ∃ j, n = j + 1 := ⟨n - 1, by omega⟩
  simp only [rdP]
  rw [e s n (by omega)]
  rfl
theorem Rdy.lst (h : Rds m k W l) : Rdy (m + 1) (k + 1) (W + 4) (.lst l) := by
  obtain ⟨ps, e, a, b, c, _, o⟩ := h
  refine ⟨.list ps, fun s n hn => ?_, by rw [PyData.showable]; exact a, by rw [PyData.depth]; omega, by rw [wd]; omega, by rw [snd]; exact o⟩
  obtain ⟨n, rfl⟩ : ∃ j, n = j + 1 := ⟨n - 1, by omega⟩
  simp only [rdP]
  rw [e s n (by omega)]
  rfl
theorem kv_show : ∀ {ks ps : List PyData}, PyData.showableAll ks = true → PyData.showableAll ps = true → ks.length = ps.length → PyData.showableKv (ks.zip ps) = true ∧ PyData.depthKv (ks.zip ps) ≤ max (PyData.depthAll ks) (PyData.depthAll ps) ∧ wdKv (ks.zip ps) ≤ wdAll ks + wdAll ps
  | [], [], _, _, _ => ⟨rfl, by simp [PyData.depthKv], by simp [wdKv]⟩
  | [], _ :: _, _, _, h => by cases h
  | _ :: _, [], _, _, h => by cases h
  | x :: ks, y :: ps, h1, h2, h3 => by
    rw [PyData.showableAll, Bool.and_eq_true] at h1 h2
    obtain ⟨a, b, c⟩ := kv_show h1.2 h2.2 (by simpa using h3)
    rw [List.zip_cons_cons, PyData.showableKv, PyData.depthKv, wdKv, PyData.depthAll, PyData.depthAll, wdAll, wdAll]
    refine ⟨by rw [h1.1, h2.1, a]; rfl, by omega, by omega⟩
theorem kv_snd : ∀ {ks ps : List PyData}, sndAll ks → sndAll ps → sndKv (ks.zip ps)
  | [], ps, _, _ => by rw [List.zip_nil_left]; trivial
  | x :: ks, [], _, _ => by rw [List.zip_nil_right]; trivial
  | x :: ks, y :: ps, h1, h2 => by
    rw [sndAll] at h1 h2
    rw [List.zip_cons_cons, sndKv]
    exact ⟨h1.1, h2.1, kv_snd h1.2 h2.2⟩
theorem Rdy.dct {m0 : List (L2.Key × D)} {K : Nat} (hk : PyData.showableAll (m0.map fun p => keyP p.1) = true) (hd : PyData.depthAll (m0.map fun p => keyP p.1) = 0) (hw : wdAll (m0.map fun p => keyP p.1) ≤ K) (ho : sndAll (m0.map fun p => keyP p.1)) (h : Rds m k W (m0.map (·.2))) : Rdy (m + 1) (k + 1) (K + W + 4) (.dct m0) := by
  obtain ⟨ps, e, a, b, c, hl, o⟩ := h
  obtain ⟨x, y, z⟩ := kv_show hk a (by rw [hl, List.length_map, List.length_map])
  refine ⟨.dict ((m0.map fun p => keyP p.1).zip ps), fun s n hn => ?_, by rw [PyData.showable]; exact x, by rw [PyData.depth]; omega, by rw [wd]; omega, by rw [snd]; exact kv_snd ho o⟩
  obtain ⟨n, rfl⟩ : ∃ j, n = j + 1 := ⟨n - 1, by omega⟩
  simp only [rdP]
  rw [e s n (by omega)]
  rfl
end
end Pl
set_option Elab.async false
set_option linter.all false
set_option maxRecDepth 100000
set_option maxHeartbeats 0
namespace G
open PySem PySem.Spec PyProof.Rows L2 Mp
section
variable {w : World} {K : Frag} {mg : Str → Option Value} {base : Heap}
theorem z0 (Z : FX K mg) : mg "ValueError" = none := Z.free 0 rfl
theorem z1 (Z : FX K mg) : OexB K (He.ga K "Contradiction") "ValueError" "ValueError.__new__" "ValueError.__init__" mValue ∧ PySem.W.findIn K (.ref (He.ga K "Contradiction")) "__init__" = some (some (.ref (He.ma K (He.ga K "Contradiction") "__init__"))) ∧ PySem.W.typeIn K (.ref (He.ma K (He.ga K "Contradiction") "__init__")) = some (.type "function") := Z.exc 1 bxValue rfl
theorem z2 (Z : FX K mg) : NoAttr K (He.ga K "Contradiction") "word" := Z.noat 2 rfl
theorem z3 (Z : FX K mg) : mg "LookupError" = none := Z.free 3 rfl
theorem z4 (Z : FX K mg) : OexB K (He.ga K "Done") "LookupError" "LookupError.__new__" "LookupError.__init__" mLookup ∧ PySem.W.findIn K (.ref (He.ga K "Done")) "__init__" = some (some (.ref (He.ma K (He.ga K "Done") "__init__"))) ∧ PySem.W.typeIn K (.ref (He.ma K (He.ga K "Done") "__init__")) = some (.type "function") := Z.exc 4 bxLookup rfl
theorem z5 (Z : FX K mg) : OexB K (He.ga K "InvalidAnswer") "ValueError" "ValueError.__new__" "ValueError.__init__" mValue ∧ PySem.W.findIn K (.ref (He.ga K "InvalidAnswer")) "__init__" = some (some (.ref (He.ma K (He.ga K "InvalidAnswer") "__init__"))) ∧ PySem.W.typeIn K (.ref (He.ma K (He.ga K "InvalidAnswer") "__init__")) = some (.type "function") := Z.exc 5 bxValue rfl
theorem z6 (Z : FX K mg) : NoAttr K (He.ga K "InvalidAnswer") "number" := Z.noat 6 rfl
theorem z7 (Z : FX K mg) : OexB K (He.ga K "InvalidCoordinates") "ValueError" "ValueError.__new__" "ValueError.__init__" mValue ∧ PySem.W.findIn K (.ref (He.ga K "InvalidCoordinates")) "__init__" = some (some (.ref (He.ma K (He.ga K "InvalidCoordinates") "__init__"))) ∧ PySem.W.typeIn K (.ref (He.ma K (He.ga K "InvalidCoordinates") "__init__")) = some (.type "function") := Z.exc 7 bxValue rfl
theorem z8 (Z : FX K mg) : OexB K (He.ga K "InvalidCost") "ValueError" "ValueError.__new__" "ValueError.__init__" mValue ∧ PySem.W.findIn K (.ref (He.ga K "InvalidCost")) "__init__" = some (some (.ref (He.ma K (He.ga K "InvalidCost") "__init__"))) ∧ PySem.W.typeIn K (.ref (He.ma K (He.ga K "InvalidCost") "__init__")) = some (.type "function") := Z.exc 8 bxValue rfl
theorem z9 (Z : FX K mg) : NoAttr K (He.ga K "InvalidCost") "letter" := Z.noat 9 rfl
theorem z10 (Z : FX K mg) : OexB K (He.ga K "InvalidCount") "ValueError" "ValueError.__new__" "ValueError.__init__" mValue ∧ PySem.W.findIn K (.ref (He.ga K "InvalidCount")) "__init__" = some (some (.ref (He.ma K (He.ga K "InvalidCount") "__init__"))) ∧ PySem.W.typeIn K (.ref (He.ma K (He.ga K "InvalidCount") "__init__")) = some (.type "function") := Z.exc 10 bxValue rfl
theorem z11 (Z : FX K mg) : NoAttr K (He.ga K "InvalidCount") "value" := Z.noat 11 rfl
theorem z12 (Z : FX K mg) : OexB K (He.ga K "InvalidLetters") "ValueError" "ValueError.__new__" "ValueError.__init__" mValue ∧ PySem.W.findIn K (.ref (He.ga K "InvalidLetters")) "__init__" = some (some (.ref (He.ma K (He.ga K "InvalidLetters") "__init__"))) ∧ PySem.W.typeIn K (.ref (He.ma K (He.ga K "InvalidLetters") "__init__")) = some (.type "function") := Z.exc 12 bxValue rfl
theorem z13 (Z : FX K mg) : NoAttr K (He.ga K "InvalidLetters") "value" := Z.noat 13 rfl
theorem z14 (Z : FX K mg) : OexB K (He.ga K "InvalidMachine") "ValueError" "ValueError.__new__" "ValueError.__init__" mValue ∧ PySem.W.findIn K (.ref (He.ga K "InvalidMachine")) "__init__" = some (some (.ref (He.ma K (He.ga K "InvalidMachine") "__init__"))) ∧ PySem.W.typeIn K (.ref (He.ma K (He.ga K "InvalidMachine") "__init__")) = some (.type "function") := Z.exc 14 bxValue rfl
theorem z15 (Z : FX K mg) : NoAttr K (He.ga K "InvalidMachine") "part" := Z.noat 15 rfl
theorem z16 (Z : FX K mg) : OexB K (He.ga K "InvalidNumber") "ValueError" "ValueError.__new__" "ValueError.__init__" mValue ∧ PySem.W.findIn K (.ref (He.ga K "InvalidNumber")) "__init__" = some (some (.ref (He.ma K (He.ga K "InvalidNumber") "__init__"))) ∧ PySem.W.typeIn K (.ref (He.ma K (He.ga K "InvalidNumber") "__init__")) = some (.type "function") := Z.exc 16 bxValue rfl
theorem z17 (Z : FX K mg) : NoAttr K (He.ga K "InvalidNumber") "value" := Z.noat 17 rfl
theorem z18 (Z : FX K mg) : OexB K (He.ga K "InvalidPrime") "ValueError" "ValueError.__new__" "ValueError.__init__" mValue ∧ PySem.W.findIn K (.ref (He.ga K "InvalidPrime")) "__init__" = some (some (.ref (He.ma K (He.ga K "InvalidPrime") "__init__"))) ∧ PySem.W.typeIn K (.ref (He.ma K (He.ga K "InvalidPrime") "__init__")) = some (.type "function") := Z.exc 18 bxValue rfl
theorem z19 (Z : FX K mg) : NoAttr K (He.ga K "InvalidPrime") "value" := Z.noat 19 rfl
theorem z20 (Z : FX K mg) : OexB K (He.ga K "InvalidRow") "ValueError" "ValueError.__new__" "ValueError.__init__" mValue ∧ PySem.W.findIn K (.ref (He.ga K "InvalidRow")) "__init__" = some (some (.ref (He.ma K (He.ga K "InvalidRow") "__init__"))) ∧ PySem.W.typeIn K (.ref (He.ma K (He.ga K "InvalidRow") "__init__")) = some (.type "function") := Z.exc 20 bxValue rfl
theorem z21 (Z : FX K mg) : NoAttr K (He.ga K "InvalidRow") "row" := Z.noat 21 rfl
theorem z22 (Z : FX K mg) : OexB K (He.ga K "InvalidText") "ValueError" "ValueError.__new__" "ValueError.__init__" mValue ∧ PySem.W.findIn K (.ref (He.ga K "InvalidText")) "__init__" = some (some (.ref (He.ma K (He.ga K "InvalidText") "__init__"))) ∧ PySem.W.typeIn K (.ref (He.ma K (He.ga K "InvalidText") "__init__")) = some (.type "function") := Z.exc 22 bxValue rfl
theorem z23 (Z : FX K mg) : NoAttr K (He.ga K "InvalidText") "line" := Z.noat 23 rfl
theorem z24 (Z : FX K mg) : OexB K (He.ga K "InvalidWord") "ValueError" "ValueError.__new__" "ValueError.__init__" mValue ∧ PySem.W.findIn K (.ref (He.ga K "InvalidWord")) "__init__" = some (some (.ref (He.ma K (He.ga K "InvalidWord") "__init__"))) ∧ PySem.W.typeIn K (.ref (He.ma K (He.ga K "InvalidWord") "__init__")) = some (.type "function") := Z.exc 24 bxValue rfl
theorem z25 (Z : FX K mg) : NoAttr K (He.ga K "InvalidWord") "value" := Z.noat 25 rfl
theorem z26 (Z : FX K mg) : mg "RuntimeError" = none := Z.free 26 rfl
theorem z27 (Z : FX K mg) : OexB K (He.ga K "LimitReached") "RuntimeError" "RuntimeError.__new__" "RuntimeError.__init__" mRun ∧ PySem.W.findIn K (.ref (He.ga K "LimitReached")) "__init__" = some (some (.ref (He.ma K (He.ga K "LimitReached") "__init__"))) ∧ PySem.W.typeIn K (.ref (He.ma K (He.ga K "LimitReached") "__init__")) = some (.type "function") := Z.exc 27 bxRun rfl
theorem z28 (Z : FX K mg) : NoAttr K (He.ga K "LimitReached") "limit" := Z.noat 28 rfl
theorem z29 (Z : FX K mg) : mg "ArithmeticError" = none := Z.free 29 rfl
theorem z30 (Z : FX K mg) : OexB K (He.ga K "NoQuotient") "ArithmeticError" "ArithmeticError.__new__" "ArithmeticError.__init__" mArith ∧ PySem.W.findIn K (.ref (He.ga K "NoQuotient")) "__init__" = some (some (.ref (He.ma K (He.ga K "NoQuotient") "__init__"))) ∧ PySem.W.typeIn K (.ref (He.ma K (He.ga K "NoQuotient") "__init__")) = some (.type "function") := Z.exc 30 bxArith rfl
theorem z31 (Z : FX K mg) : OexB K (He.ga K "NotFinite") "ArithmeticError" "ArithmeticError.__new__" "ArithmeticError.__init__" mArith ∧ PySem.W.findIn K (.ref (He.ga K "NotFinite")) "__init__" = some (some (.ref (He.ma K (He.ga K "NotFinite") "__init__"))) ∧ PySem.W.typeIn K (.ref (He.ma K (He.ga K "NotFinite") "__init__")) = some (.type "function") := Z.exc 31 bxArith rfl
theorem z32 (Z : FX K mg) : OexB K (He.ga K "NotKnown") "LookupError" "LookupError.__new__" "LookupError.__init__" mLookup ∧ PySem.W.findIn K (.ref (He.ga K "NotKnown")) "__init__" = some (some (.ref (He.ma K (He.ga K "NotKnown") "__init__"))) ∧ PySem.W.typeIn K (.ref (He.ma K (He.ga K "NotKnown") "__init__")) = some (.type "function") := Z.exc 32 bxLookup rfl
theorem z33 (Z : FX K mg) : NoAttr K (He.ga K "NotKnown") "value" := Z.noat 33 rfl
theorem z34 (Z : FX K mg) : OexB K (He.ga K "NotNow") "LookupError" "LookupError.__new__" "LookupError.__init__" mLookup ∧ PySem.W.findIn K (.ref (He.ga K "NotNow")) "__init__" = some (some (.ref (He.ma K (He.ga K "NotNow") "__init__"))) ∧ PySem.W.typeIn K (.ref (He.ma K (He.ga K "NotNow") "__init__")) = some (.type "function") := Z.exc 34 bxLookup rfl
theorem z35 (Z : FX K mg) : NoAttr K (He.ga K "NotNow") "word" := Z.noat 35 rfl
theorem z36 (Z : FX K mg) : OexB K (He.ga K "Nothing") "LookupError" "LookupError.__new__" "LookupError.__init__" mLookup ∧ PySem.W.findIn K (.ref (He.ga K "Nothing")) "__init__" = some (some (.ref (He.ma K (He.ga K "Nothing") "__init__"))) ∧ PySem.W.typeIn K (.ref (He.ma K (He.ga K "Nothing") "__init__")) = some (.type "function") := Z.exc 36 bxLookup rfl
theorem z37 (Z : FX K mg) : OexB K (He.ga K "OtherField") "ValueError" "ValueError.__new__" "ValueError.__init__" mValue ∧ PySem.W.findIn K (.ref (He.ga K "OtherField")) "__init__" = some (some (.ref (He.ma K (He.ga K "OtherField") "__init__"))) ∧ PySem.W.typeIn K (.ref (He.ma K (He.ga K "OtherField") "__init__")) = some (.type "function") := Z.exc 37 bxValue rfl
theorem z38 (Z : FX K mg) : OexB K (He.ga K "OtherLetters") "ValueError" "ValueError.__new__" "ValueError.__init__" mValue ∧ PySem.W.findIn K (.ref (He.ga K "OtherLetters")) "__init__" = some (some (.ref (He.ma K (He.ga K "OtherLetters") "__init__"))) ∧ PySem.W.typeIn K (.ref (He.ma K (He.ga K "OtherLetters") "__init__")) = some (.type "function") := Z.exc 38 bxValue rfl
theorem z39 (Z : FX K mg) : OexB K (He.ga K "OutOfRange") "LookupError" "LookupError.__new__" "LookupError.__init__" mLookup ∧ PySem.W.findIn K (.ref (He.ga K "OutOfRange")) "__init__" = some (some (.ref (He.ma K (He.ga K "OutOfRange") "__init__"))) ∧ PySem.W.typeIn K (.ref (He.ma K (He.ga K "OutOfRange") "__init__")) = some (.type "function") := Z.exc 39 bxLookup rfl
theorem z40 (Z : FX K mg) : NoAttr K (He.ga K "OutOfRange") "value" := Z.noat 40 rfl
theorem z41 (Z : FX K mg) : mg "OverflowError" = none := Z.free 41 rfl
theorem z42 (Z : FX K mg) : OexB K (He.ga K "TooLong") "OverflowError" "OverflowError.__new__" "OverflowError.__init__" mOver ∧ PySem.W.findIn K (.ref (He.ga K "TooLong")) "__init__" = some (some (.ref (He.ma K (He.ga K "TooLong") "__init__"))) ∧ PySem.W.typeIn K (.ref (He.ma K (He.ga K "TooLong") "__init__")) = some (.type "function") := Z.exc 42 bxOver rfl
theorem z43 (Z : FX K mg) : OexB K (He.ga K "TooMany") "OverflowError" "OverflowError.__new__" "OverflowError.__init__" mOver ∧ PySem.W.findIn K (.ref (He.ga K "TooMany")) "__init__" = some (some (.ref (He.ma K (He.ga K "TooMany") "__init__"))) ∧ PySem.W.typeIn K (.ref (He.ma K (He.ga K "TooMany") "__init__")) = some (.type "function") := Z.exc 43 bxOver rfl
theorem z44 (Z : FX K mg) : NoAttr K (He.ga K "TooMany") "limit" := Z.noat 44 rfl
theorem z45 (Z : FX K mg) : OexB K (He.ga K "TooSmall") "ValueError" "ValueError.__new__" "ValueError.__init__" mValue ∧ PySem.W.findIn K (.ref (He.ga K "TooSmall")) "__init__" = some (some (.ref (He.ma K (He.ga K "TooSmall") "__init__"))) ∧ PySem.W.typeIn K (.ref (He.ma K (He.ga K "TooSmall") "__init__")) = some (.type "function") := Z.exc 45 bxValue rfl
theorem z46 (Z : FX K mg) : NoAttr K (He.ga K "TooSmall") "least_size" := Z.noat 46 rfl
theorem z47 (Z : FX K mg) : ExcC K (He.ga K "TooSmall") := Z.xc 47 rfl
theorem z48 (Z : FX K mg) : KitTab K "TooSmall" [("ArithmeticError", false), ("IndexError", false), ("KeyError", false), ("LookupError", false), ("OverflowError", false), ("RuntimeError", false), ("ValueError", true), ("ZeroDivisionError", false)] := Z.kt 48 rfl
theorem z49 (Z : FX K mg) : KitTabC K "TooSmall" [("Contradiction", false), ("Done", false), ("InvalidAnswer", false), ("InvalidCoordinates", false), ("InvalidCost", false), ("InvalidCount", false), ("InvalidLetters", false), ("InvalidMachine", false), ("InvalidNumber", false), ("InvalidPrime", false), ("InvalidRow", false), ("InvalidText", false), ("InvalidWord", false), ("LimitReached", false), ("NoQuotient", false), ("NotFinite", false), ("NotKnown", false), ("NotNow", false), ("Nothing", false), ("OtherField", false), ("OtherLetters", false), ("OutOfRange", false), ("TooLong", false), ("TooMany", false), ("TooSmall", true)] := Z.kc 49 rfl
theorem z50 (Z : FX K mg) : ExcC K (He.ga K "TooMany") := Z.xc 50 rfl
theorem z51 (Z : FX K mg) : KitTab K "TooMany" [("ArithmeticError", true), ("IndexError", false), ("KeyError", false), ("LookupError", false), ("OverflowError", true), ("RuntimeError", false), ("ValueError", false), ("ZeroDivisionError", false)] := Z.kt 51 rfl
theorem z52 (Z : FX K mg) : KitTabC K "TooMany" [("Contradiction", false), ("Done", false), ("InvalidAnswer", false), ("InvalidCoordinates", false), ("InvalidCost", false), ("InvalidCount", false), ("InvalidLetters", false), ("InvalidMachine", false), ("InvalidNumber", false), ("InvalidPrime", false), ("InvalidRow", false), ("InvalidText", false), ("InvalidWord", false), ("LimitReached", false), ("NoQuotient", false), ("NotFinite", false), ("NotKnown", false), ("NotNow", false), ("Nothing", false), ("OtherField", false), ("OtherLetters", false), ("OutOfRange", false), ("TooLong", false), ("TooMany", true), ("TooSmall", false)] := Z.kc 52 rfl
theorem z53 (Z : FX K mg) : ExcC K (He.ga K "TooLong") := Z.xc 53 rfl
theorem z54 (Z : FX K mg) : KitTab K "TooLong" [("ArithmeticError", true), ("IndexError", false), ("KeyError", false), ("LookupError", false), ("OverflowError", true), ("RuntimeError", false), ("ValueError", false), ("ZeroDivisionError", false)] := Z.kt 54 rfl
theorem z55 (Z : FX K mg) : KitTabC K "TooLong" [("Contradiction", false), ("Done", false), ("InvalidAnswer", false), ("InvalidCoordinates", false), ("InvalidCost", false), ("InvalidCount", false), ("InvalidLetters", false), ("InvalidMachine", false), ("InvalidNumber", false), ("InvalidPrime", false), ("InvalidRow", false), ("InvalidText", false), ("InvalidWord", false), ("LimitReached", false), ("NoQuotient", false), ("NotFinite", false), ("NotKnown", false), ("NotNow", false), ("Nothing", false), ("OtherField", false), ("OtherLetters", false), ("OutOfRange", false), ("TooLong", true), ("TooMany", false), ("TooSmall", false)] := Z.kc 55 rfl
theorem z56 (Z : FX K mg) : ExcC K (He.ga K "OutOfRange") := Z.xc 56 rfl
theorem z57 (Z : FX K mg) : KitTab K "OutOfRange" [("ArithmeticError", false), ("IndexError", false), ("KeyError", false), ("LookupError", true), ("OverflowError", false), ("RuntimeError", false), ("ValueError", false), ("ZeroDivisionError", false)] := Z.kt 57 rfl
theorem z58 (Z : FX K mg) : KitTabC K "OutOfRange" [("Contradiction", false), ("Done", false), ("InvalidAnswer", false), ("InvalidCoordinates", false), ("InvalidCost", false), ("InvalidCount", false), ("InvalidLetters", false), ("InvalidMachine", false), ("InvalidNumber", false), ("InvalidPrime", false), ("InvalidRow", false), ("InvalidText", false), ("InvalidWord", false), ("LimitReached", false), ("NoQuotient", false), ("NotFinite", false), ("NotKnown", false), ("NotNow", false), ("Nothing", false), ("OtherField", false), ("OtherLetters", false), ("OutOfRange", true), ("TooLong", false), ("TooMany", false), ("TooSmall", false)] := Z.kc 58 rfl
theorem z59 (Z : FX K mg) : ExcC K (He.ga K "OtherLetters") := Z.xc 59 rfl
theorem z60 (Z : FX K mg) : KitTab K "OtherLetters" [("ArithmeticError", false), ("IndexError", false), ("KeyError", false), ("LookupError", false), ("OverflowError", false), ("RuntimeError", false), ("ValueError", true), ("ZeroDivisionError", false)] := Z.kt 60 rfl
theorem z61 (Z : FX K mg) : KitTabC K "OtherLetters" [("Contradiction", false), ("Done", false), ("InvalidAnswer", false), ("InvalidCoordinates", false), ("InvalidCost", false), ("InvalidCount", false), ("InvalidLetters", false), ("InvalidMachine", false), ("InvalidNumber", false), ("InvalidPrime", false), ("InvalidRow", false), ("InvalidText", false), ("InvalidWord", false), ("LimitReached", false), ("NoQuotient", false), ("NotFinite", false), ("NotKnown", false), ("NotNow", false), ("Nothing", false), ("OtherField", false), ("OtherLetters", true), ("OutOfRange", false), ("TooLong", false), ("TooMany", false), ("TooSmall", false)] := Z.kc 61 rfl
theorem z62 (Z : FX K mg) : ExcC K (He.ga K "OtherField") := Z.xc 62 rfl
theorem z63 (Z : FX K mg) : KitTab K "OtherField" [("ArithmeticError", false), ("IndexError", false), ("KeyError", false), ("LookupError", false), ("OverflowError", false), ("RuntimeError", false), ("ValueError", true), ("ZeroDivisionError", false)] := Z.kt 63 rfl
theorem z64 (Z : FX K mg) : KitTabC K "OtherField" [("Contradiction", false), ("Done", false), ("InvalidAnswer", false), ("InvalidCoordinates", false), ("InvalidCost", false), ("InvalidCount", false), ("InvalidLetters", false), ("InvalidMachine", false), ("InvalidNumber", false), ("InvalidPrime", false), ("InvalidRow", false), ("InvalidText", false), ("InvalidWord", false), ("LimitReached", false), ("NoQuotient", false), ("NotFinite", false), ("NotKnown", false), ("NotNow", false), ("Nothing", false), ("OtherField", true), ("OtherLetters", false), ("OutOfRange", false), ("TooLong", false), ("TooMany", false), ("TooSmall", false)] := Z.kc 64 rfl
theorem z65 (Z : FX K mg) : ExcC K (He.ga K "Nothing") := Z.xc 65 rfl
theorem z66 (Z : FX K mg) : KitTab K "Nothing" [("ArithmeticError", false), ("IndexError", false), ("KeyError", false), ("LookupError", true), ("OverflowError", false), ("RuntimeError", false), ("ValueError", false), ("ZeroDivisionError", false)] := Z.kt 66 rfl
theorem z67 (Z : FX K mg) : KitTabC K "Nothing" [("Contradiction", false), ("Done", false), ("InvalidAnswer", false), ("InvalidCoordinates", false), ("InvalidCost", false), ("InvalidCount", false), ("InvalidLetters", false), ("InvalidMachine", false), ("InvalidNumber", false), ("InvalidPrime", false), ("InvalidRow", false), ("InvalidText", false), ("InvalidWord", false), ("LimitReached", false), ("NoQuotient", false), ("NotFinite", false), ("NotKnown", false), ("NotNow", false), ("Nothing", true), ("OtherField", false), ("OtherLetters", false), ("OutOfRange", false), ("TooLong", false), ("TooMany", false), ("TooSmall", false)] := Z.kc 67 rfl
theorem z68 (Z : FX K mg) : ExcC K (He.ga K "NotNow") := Z.xc 68 rfl
theorem z69 (Z : FX K mg) : KitTab K "NotNow" [("ArithmeticError", false), ("IndexError", false), ("KeyError", false), ("LookupError", true), ("OverflowError", false), ("RuntimeError", false), ("ValueError", false), ("ZeroDivisionError", false)] := Z.kt 69 rfl
theorem z70 (Z : FX K mg) : KitTabC K "NotNow" [("Contradiction", false), ("Done", false), ("InvalidAnswer", false), ("InvalidCoordinates", false), ("InvalidCost", false), ("InvalidCount", false), ("InvalidLetters", false), ("InvalidMachine", false), ("InvalidNumber", false), ("InvalidPrime", false), ("InvalidRow", false), ("InvalidText", false), ("InvalidWord", false), ("LimitReached", false), ("NoQuotient", false), ("NotFinite", false), ("NotKnown", false), ("NotNow", true), ("Nothing", false), ("OtherField", false), ("OtherLetters", false), ("OutOfRange", false), ("TooLong", false), ("TooMany", false), ("TooSmall", false)] := Z.kc 70 rfl
theorem z71 (Z : FX K mg) : ExcC K (He.ga K "NotKnown") := Z.xc 71 rfl
theorem z72 (Z : FX K mg) : KitTab K "NotKnown" [("ArithmeticError", false), ("IndexError", false), ("KeyError", false), ("LookupError", true), ("OverflowError", false), ("RuntimeError", false), ("ValueError", false), ("ZeroDivisionError", false)] := Z.kt 72 rfl
theorem z73 (Z : FX K mg) : KitTabC K "NotKnown" [("Contradiction", false), ("Done", false), ("InvalidAnswer", false), ("InvalidCoordinates", false), ("InvalidCost", false), ("InvalidCount", false), ("InvalidLetters", false), ("InvalidMachine", false), ("InvalidNumber", false), ("InvalidPrime", false), ("InvalidRow", false), ("InvalidText", false), ("InvalidWord", false), ("LimitReached", false), ("NoQuotient", false), ("NotFinite", false), ("NotKnown", true), ("NotNow", false), ("Nothing", false), ("OtherField", false), ("OtherLetters", false), ("OutOfRange", false), ("TooLong", false), ("TooMany", false), ("TooSmall", false)] := Z.kc 73 rfl
theorem z74 (Z : FX K mg) : ExcC K (He.ga K "NotFinite") := Z.xc 74 rfl
theorem z75 (Z : FX K mg) : KitTab K "NotFinite" [("ArithmeticError", true), ("IndexError", false), ("KeyError", false), ("LookupError", false), ("OverflowError", false), ("RuntimeError", false), ("ValueError", false), ("ZeroDivisionError", false)] := Z.kt 75 rfl
theorem z76 (Z : FX K mg) : KitTabC K "NotFinite" [("Contradiction", false), ("Done", false), ("InvalidAnswer", false), ("InvalidCoordinates", false), ("InvalidCost", false), ("InvalidCount", false), ("InvalidLetters", false), ("InvalidMachine", false), ("InvalidNumber", false), ("InvalidPrime", false), ("InvalidRow", false), ("InvalidText", false), ("InvalidWord", false), ("LimitReached", false), ("NoQuotient", false), ("NotFinite", true), ("NotKnown", false), ("NotNow", false), ("Nothing", false), ("OtherField", false), ("OtherLetters", false), ("OutOfRange", false), ("TooLong", false), ("TooMany", false), ("TooSmall", false)] := Z.kc 76 rfl
theorem z77 (Z : FX K mg) : ExcC K (He.ga K "NoQuotient") := Z.xc 77 rfl
theorem z78 (Z : FX K mg) : KitTab K "NoQuotient" [("ArithmeticError", true), ("IndexError", false), ("KeyError", false), ("LookupError", false), ("OverflowError", false), ("RuntimeError", false), ("ValueError", false), ("ZeroDivisionError", false)] := Z.kt 78 rfl
theorem z79 (Z : FX K mg) : KitTabC K "NoQuotient" [("Contradiction", false), ("Done", false), ("InvalidAnswer", false), ("InvalidCoordinates", false), ("InvalidCost", false), ("InvalidCount", false), ("InvalidLetters", false), ("InvalidMachine", false), ("InvalidNumber", false), ("InvalidPrime", false), ("InvalidRow", false), ("InvalidText", false), ("InvalidWord", false), ("LimitReached", false), ("NoQuotient", true), ("NotFinite", false), ("NotKnown", false), ("NotNow", false), ("Nothing", false), ("OtherField", false), ("OtherLetters", false), ("OutOfRange", false), ("TooLong", false), ("TooMany", false), ("TooSmall", false)] := Z.kc 79 rfl
theorem z80 (Z : FX K mg) : ExcC K (He.ga K "LimitReached") := Z.xc 80 rfl
theorem z81 (Z : FX K mg) : KitTab K "LimitReached" [("ArithmeticError", false), ("IndexError", false), ("KeyError", false), ("LookupError", false), ("OverflowError", false), ("RuntimeError", true), ("ValueError", false), ("ZeroDivisionError", false)] := Z.kt 81 rfl
theorem z82 (Z : FX K mg) : KitTabC K "LimitReached" [("Contradiction", false), ("Done", false), ("InvalidAnswer", false), ("InvalidCoordinates", false), ("InvalidCost", false), ("InvalidCount", false), ("InvalidLetters", false), ("InvalidMachine", false), ("InvalidNumber", false), ("InvalidPrime", false), ("InvalidRow", false), ("InvalidText", false), ("InvalidWord", false), ("LimitReached", true), ("NoQuotient", false), ("NotFinite", false), ("NotKnown", false), ("NotNow", false), ("Nothing", false), ("OtherField", false), ("OtherLetters", false), ("OutOfRange", false), ("TooLong", false), ("TooMany", false), ("TooSmall", false)] := Z.kc 82 rfl
theorem z83 (Z : FX K mg) : ExcC K (He.ga K "InvalidWord") := Z.xc 83 rfl
theorem z84 (Z : FX K mg) : KitTab K "InvalidWord" [("ArithmeticError", false), ("IndexError", false), ("KeyError", false), ("LookupError", false), ("OverflowError", false), ("RuntimeError", false), ("ValueError", true), ("ZeroDivisionError", false)] := Z.kt 84 rfl
theorem z85 (Z : FX K mg) : KitTabC K "InvalidWord" [("Contradiction", false), ("Done", false), ("InvalidAnswer", false), ("InvalidCoordinates", false), ("InvalidCost", false), ("InvalidCount", false), ("InvalidLetters", false), ("InvalidMachine", false), ("InvalidNumber", false), ("InvalidPrime", false), ("InvalidRow", false), ("InvalidText", false), ("InvalidWord", true), ("LimitReached", false), ("NoQuotient", false), ("NotFinite", false), ("NotKnown", false), ("NotNow", false), ("Nothing", false), ("OtherField", false), ("OtherLetters", false), ("OutOfRange", false), ("TooLong", false), ("TooMany", false), ("TooSmall", false)] := Z.kc 85 rfl
theorem z86 (Z : FX K mg) : ExcC K (He.ga K "InvalidText") := Z.xc 86 rfl
theorem z87 (Z : FX K mg) : KitTab K "InvalidText" [("ArithmeticError", false), ("IndexError", false), ("KeyError", false), ("LookupError", false), ("OverflowError", false), ("RuntimeError", false), ("ValueError", true), ("ZeroDivisionError", false)] := Z.kt 87 rfl
theorem z88 (Z : FX K mg) : KitTabC K "InvalidText" [("Contradiction", false), ("Done", false), ("InvalidAnswer", false), ("InvalidCoordinates", false), ("InvalidCost", false), ("InvalidCount", false), ("InvalidLetters", false), ("InvalidMachine", false), ("InvalidNumber", false), ("InvalidPrime", false), ("InvalidRow", false), ("InvalidText", true), ("InvalidWord", false), ("LimitReached", false), ("NoQuotient", false), ("NotFinite", false), ("NotKnown", false), ("NotNow", false), ("Nothing", false), ("OtherField", false), ("OtherLetters", false), ("OutOfRange", false), ("TooLong", false), ("TooMany", false), ("TooSmall", false)] := Z.kc 88 rfl
theorem z89 (Z : FX K mg) : ExcC K (He.ga K "InvalidRow") := Z.xc 89 rfl
theorem z90 (Z : FX K mg) : KitTab K "InvalidRow" [("ArithmeticError", false), ("IndexError", false), ("KeyError", false), ("LookupError", false), ("OverflowError", false), ("RuntimeError", false), ("ValueError", true), ("ZeroDivisionError", false)] := Z.kt 90 rfl
theorem z91 (Z : FX K mg) : KitTabC K "InvalidRow" [("Contradiction", false), ("Done", false), ("InvalidAnswer", false), ("InvalidCoordinates", false), ("InvalidCost", false), ("InvalidCount", false), ("InvalidLetters", false), ("InvalidMachine", false), ("InvalidNumber", false), ("InvalidPrime", false), ("InvalidRow", true), ("InvalidText", false), ("InvalidWord", false), ("LimitReached", false), ("NoQuotient", false), ("NotFinite", false), ("NotKnown", false), ("NotNow", false), ("Nothing", false), ("OtherField", false), ("OtherLetters", false), ("OutOfRange", false), ("TooLong", false), ("TooMany", false), ("TooSmall", false)] := Z.kc 91 rfl
theorem z92 (Z : FX K mg) : ExcC K (He.ga K "InvalidPrime") := Z.xc 92 rfl
theorem z93 (Z : FX K mg) : KitTab K "InvalidPrime" [("ArithmeticError", false), ("IndexError", false), ("KeyError", false), ("LookupError", false), ("OverflowError", false), ("RuntimeError", false), ("ValueError", true), ("ZeroDivisionError", false)] := Z.kt 93 rfl
theorem z94 (Z : FX K mg) : KitTabC K "InvalidPrime" [("Contradiction", false), ("Done", false), ("InvalidAnswer", false), ("InvalidCoordinates", false), ("InvalidCost", false), ("InvalidCount", false), ("InvalidLetters", false), ("InvalidMachine", false), ("InvalidNumber", false), ("InvalidPrime", true), ("InvalidRow", false), ("InvalidText", false), ("InvalidWord", false), ("LimitReached", false), ("NoQuotient", false), ("NotFinite", false), ("NotKnown", false), ("NotNow", false), ("Nothing", false), ("OtherField", false), ("OtherLetters", false), ("OutOfRange", false), ("TooLong", false), ("TooMany", false), ("TooSmall", false)] := Z.kc 94 rfl
theorem z95 (Z : FX K mg) : ExcC K (He.ga K "InvalidNumber") := Z.xc 95 rfl
theorem z96 (Z : FX K mg) : KitTab K "InvalidNumber" [("ArithmeticError", false), ("IndexError", false), ("KeyError", false), ("LookupError", false), ("OverflowError", false), ("RuntimeError", false), ("ValueError", true), ("ZeroDivisionError", false)] := Z.kt 96 rfl
theorem z97 (Z : FX K mg) : KitTabC K "InvalidNumber" [("Contradiction", false), ("Done", false), ("InvalidAnswer", false), ("InvalidCoordinates", false), ("InvalidCost", false), ("InvalidCount", false), ("InvalidLetters", false), ("InvalidMachine", false), ("InvalidNumber", true), ("InvalidPrime", false), ("InvalidRow", false), ("InvalidText", false), ("InvalidWord", false), ("LimitReached", false), ("NoQuotient", false), ("NotFinite", false), ("NotKnown", false), ("NotNow", false), ("Nothing", false), ("OtherField", false), ("OtherLetters", false), ("OutOfRange", false), ("TooLong", false), ("TooMany", false), ("TooSmall", false)] := Z.kc 97 rfl
theorem z98 (Z : FX K mg) : ExcC K (He.ga K "InvalidMachine") := Z.xc 98 rfl
theorem z99 (Z : FX K mg) : KitTab K "InvalidMachine" [("ArithmeticError", false), ("IndexError", false), ("KeyError", false), ("LookupError", false), ("OverflowError", false), ("RuntimeError", false), ("ValueError", true), ("ZeroDivisionError", false)] := Z.kt 99 rfl
theorem z100 (Z : FX K mg) : KitTabC K "InvalidMachine" [("Contradiction", false), ("Done", false), ("InvalidAnswer", false), ("InvalidCoordinates", false), ("InvalidCost", false), ("InvalidCount", false), ("InvalidLetters", false), ("InvalidMachine", true), ("InvalidNumber", false), ("InvalidPrime", false), ("InvalidRow", false), ("InvalidText", false), ("InvalidWord", false), ("LimitReached", false), ("NoQuotient", false), ("NotFinite", false), ("NotKnown", false), ("NotNow", false), ("Nothing", false), ("OtherField", false), ("OtherLetters", false), ("OutOfRange", false), ("TooLong", false), ("TooMany", false), ("TooSmall", false)] := Z.kc 100 rfl
theorem z101 (Z : FX K mg) : ExcC K (He.ga K "InvalidLetters") := Z.xc 101 rfl
theorem z102 (Z : FX K mg) : KitTab K "InvalidLetters" [("ArithmeticError", false), ("IndexError", false), ("KeyError", false), ("LookupError", false), ("OverflowError", false), ("RuntimeError", false), ("ValueError", true), ("ZeroDivisionError", false)] := Z.kt 102 rfl
theorem z103 (Z : FX K mg) : KitTabC K "InvalidLetters" [("Contradiction", false), ("Done", false), ("InvalidAnswer", false), ("InvalidCoordinates", false), ("InvalidCost", false), ("InvalidCount", false), ("InvalidLetters", true), ("InvalidMachine", false), ("InvalidNumber", false), ("InvalidPrime", false), ("InvalidRow", false), ("InvalidText", false), ("InvalidWord", false), ("LimitReached", false), ("NoQuotient", false), ("NotFinite", false), ("NotKnown", false), ("NotNow", false), ("Nothing", false), ("OtherField", false), ("OtherLetters", false), ("OutOfRange", false), ("TooLong", false), ("TooMany", false), ("TooSmall", false)] := Z.kc 103 rfl
theorem z104 (Z : FX K mg) : ExcC K (He.ga K "InvalidCount") := Z.xc 104 rfl
theorem z105 (Z : FX K mg) : KitTab K "InvalidCount" [("ArithmeticError", false), ("IndexError", false), ("KeyError", false), ("LookupError", false), ("OverflowError", false), ("RuntimeError", false), ("ValueError", true), ("ZeroDivisionError", false)] := Z.kt 105 rfl
theorem z106 (Z : FX K mg) : KitTabC K "InvalidCount" [("Contradiction", false), ("Done", false), ("InvalidAnswer", false), ("InvalidCoordinates", false), ("InvalidCost", false), ("InvalidCount", true), ("InvalidLetters", false), ("InvalidMachine", false), ("InvalidNumber", false), ("InvalidPrime", false), ("InvalidRow", false), ("InvalidText", false), ("InvalidWord", false), ("LimitReached", false), ("NoQuotient", false), ("NotFinite", false), ("NotKnown", false), ("NotNow", false), ("Nothing", false), ("OtherField", false), ("OtherLetters", false), ("OutOfRange", false), ("TooLong", false), ("TooMany", false), ("TooSmall", false)] := Z.kc 106 rfl
theorem z107 (Z : FX K mg) : ExcC K (He.ga K "InvalidCost") := Z.xc 107 rfl
theorem z108 (Z : FX K mg) : KitTab K "InvalidCost" [("ArithmeticError", false), ("IndexError", false), ("KeyError", false), ("LookupError", false), ("OverflowError", false), ("RuntimeError", false), ("ValueError", true), ("ZeroDivisionError", false)] := Z.kt 108 rfl
theorem z109 (Z : FX K mg) : KitTabC K "InvalidCost" [("Contradiction", false), ("Done", false), ("InvalidAnswer", false), ("InvalidCoordinates", false), ("InvalidCost", true), ("InvalidCount", false), ("InvalidLetters", false), ("InvalidMachine", false), ("InvalidNumber", false), ("InvalidPrime", false), ("InvalidRow", false), ("InvalidText", false), ("InvalidWord", false), ("LimitReached", false), ("NoQuotient", false), ("NotFinite", false), ("NotKnown", false), ("NotNow", false), ("Nothing", false), ("OtherField", false), ("OtherLetters", false), ("OutOfRange", false), ("TooLong", false), ("TooMany", false), ("TooSmall", false)] := Z.kc 109 rfl
theorem z110 (Z : FX K mg) : ExcC K (He.ga K "InvalidCoordinates") := Z.xc 110 rfl
theorem z111 (Z : FX K mg) : KitTab K "InvalidCoordinates" [("ArithmeticError", false), ("IndexError", false), ("KeyError", false), ("LookupError", false), ("OverflowError", false), ("RuntimeError", false), ("ValueError", true), ("ZeroDivisionError", false)] := Z.kt 111 rfl
theorem z112 (Z : FX K mg) : KitTabC K "InvalidCoordinates" [("Contradiction", false), ("Done", false), ("InvalidAnswer", false), ("InvalidCoordinates", true), ("InvalidCost", false), ("InvalidCount", false), ("InvalidLetters", false), ("InvalidMachine", false), ("InvalidNumber", false), ("InvalidPrime", false), ("InvalidRow", false), ("InvalidText", false), ("InvalidWord", false), ("LimitReached", false), ("NoQuotient", false), ("NotFinite", false), ("NotKnown", false), ("NotNow", false), ("Nothing", false), ("OtherField", false), ("OtherLetters", false), ("OutOfRange", false), ("TooLong", false), ("TooMany", false), ("TooSmall", false)] := Z.kc 112 rfl
theorem z113 (Z : FX K mg) : ExcC K (He.ga K "InvalidAnswer") := Z.xc 113 rfl
theorem z114 (Z : FX K mg) : KitTab K "InvalidAnswer" [("ArithmeticError", false), ("IndexError", false), ("KeyError", false), ("LookupError", false), ("OverflowError", false), ("RuntimeError", false), ("ValueError", true), ("ZeroDivisionError", false)] := Z.kt 114 rfl
theorem z115 (Z : FX K mg) : KitTabC K "InvalidAnswer" [("Contradiction", false), ("Done", false), ("InvalidAnswer", true), ("InvalidCoordinates", false), ("InvalidCost", false), ("InvalidCount", false), ("InvalidLetters", false), ("InvalidMachine", false), ("InvalidNumber", false), ("InvalidPrime", false), ("InvalidRow", false), ("InvalidText", false), ("InvalidWord", false), ("LimitReached", false), ("NoQuotient", false), ("NotFinite", false), ("NotKnown", false), ("NotNow", false), ("Nothing", false), ("OtherField", false), ("OtherLetters", false), ("OutOfRange", false), ("TooLong", false), ("TooMany", false), ("TooSmall", false)] := Z.kc 115 rfl
theorem z116 (Z : FX K mg) : ExcC K (He.ga K "Done") := Z.xc 116 rfl
theorem z117 (Z : FX K mg) : KitTab K "Done" [("ArithmeticError", false), ("IndexError", false), ("KeyError", false), ("LookupError", true), ("OverflowError", false), ("RuntimeError", false), ("ValueError", false), ("ZeroDivisionError", false)] := Z.kt 117 rfl
theorem z118 (Z : FX K mg) : KitTabC K "Done" [("Contradiction", false), ("Done", true), ("InvalidAnswer", false), ("InvalidCoordinates", false), ("InvalidCost", false), ("InvalidCount", false), ("InvalidLetters", false), ("InvalidMachine", false), ("InvalidNumber", false), ("InvalidPrime", false), ("InvalidRow", false), ("InvalidText", false), ("InvalidWord", false), ("LimitReached", false), ("NoQuotient", false), ("NotFinite", false), ("NotKnown", false), ("NotNow", false), ("Nothing", false), ("OtherField", false), ("OtherLetters", false), ("OutOfRange", false), ("TooLong", false), ("TooMany", false), ("TooSmall", false)] := Z.kc 118 rfl
theorem z119 (Z : FX K mg) : ExcC K (He.ga K "Contradiction") := Z.xc 119 rfl
theorem z120 (Z : FX K mg) : KitTab K "Contradiction" [("ArithmeticError", false), ("IndexError", false), ("KeyError", false), ("LookupError", false), ("OverflowError", false), ("RuntimeError", false), ("ValueError", true), ("ZeroDivisionError", false)] := Z.kt 120 rfl
theorem z121 (Z : FX K mg) : KitTabC K "Contradiction" [("Contradiction", true), ("Done", false), ("InvalidAnswer", false), ("InvalidCoordinates", false), ("InvalidCost", false), ("InvalidCount", false), ("InvalidLetters", false), ("InvalidMachine", false), ("InvalidNumber", false), ("InvalidPrime", false), ("InvalidRow", false), ("InvalidText", false), ("InvalidWord", false), ("LimitReached", false), ("NoQuotient", false), ("NotFinite", false), ("NotKnown", false), ("NotNow", false), ("Nothing", false), ("OtherField", false), ("OtherLetters", false), ("OutOfRange", false), ("TooLong", false), ("TooMany", false), ("TooSmall", false)] := Z.kc 121 rfl
theorem z122 (Z : FX K mg) : mg "OtherLetters" = some (.ref (He.ga K "OtherLetters")) := Z.glo 122 rfl
theorem z123 (Z : FX K mg) : mg "OtherField" = some (.ref (He.ga K "OtherField")) := Z.glo 123 rfl
theorem z124 (Z : FX K mg) : mg "InvalidCoordinates" = some (.ref (He.ga K "InvalidCoordinates")) := Z.glo 124 rfl
theorem z125 (Z : FX K mg) : mg "NotFinite" = some (.ref (He.ga K "NotFinite")) := Z.glo 125 rfl
theorem z126 (Z : FX K mg) : mg "NoQuotient" = some (.ref (He.ga K "NoQuotient")) := Z.glo 126 rfl
theorem z127 (Z : FX K mg) : mg "Done" = some (.ref (He.ga K "Done")) := Z.glo 127 rfl
theorem z128 (Z : FX K mg) : mg "Nothing" = some (.ref (He.ga K "Nothing")) := Z.glo 128 rfl
theorem z129 (Z : FX K mg) : mg "TooLong" = some (.ref (He.ga K "TooLong")) := Z.glo 129 rfl
theorem z130 (Z : FX K mg) : mg "InvalidLetters" = some (.ref (He.ga K "InvalidLetters")) := Z.glo 130 rfl
theorem z131 (Z : FX K mg) : mg "isinstance" = none := Z.free 131 rfl
theorem z132 (Z : FX K mg) : mg "InvalidNumber" = some (.ref (He.ga K "InvalidNumber")) := Z.glo 132 rfl
theorem z133 (Z : FX K mg) : mg "InvalidPrime" = some (.ref (He.ga K "InvalidPrime")) := Z.glo 133 rfl
theorem z134 (Z : FX K mg) : mg "InvalidCount" = some (.ref (He.ga K "InvalidCount")) := Z.glo 134 rfl
theorem z135 (Z : FX K mg) : mg "InvalidWord" = some (.ref (He.ga K "InvalidWord")) := Z.glo 135 rfl
theorem z136 (Z : FX K mg) : mg "InvalidCost" = some (.ref (He.ga K "InvalidCost")) := Z.glo 136 rfl
theorem z137 (Z : FX K mg) : mg "InvalidRow" = some (.ref (He.ga K "InvalidRow")) := Z.glo 137 rfl
theorem z138 (Z : FX K mg) : mg "InvalidAnswer" = some (.ref (He.ga K "InvalidAnswer")) := Z.glo 138 rfl
theorem z139 (Z : FX K mg) : mg "InvalidMachine" = some (.ref (He.ga K "InvalidMachine")) := Z.glo 139 rfl
theorem z140 (Z : FX K mg) : mg "InvalidText" = some (.ref (He.ga K "InvalidText")) := Z.glo 140 rfl
theorem z141 (Z : FX K mg) : mg "Contradiction" = some (.ref (He.ga K "Contradiction")) := Z.glo 141 rfl
theorem z142 (Z : FX K mg) : mg "TooSmall" = some (.ref (He.ga K "TooSmall")) := Z.glo 142 rfl
theorem z143 (Z : FX K mg) : mg "NotNow" = some (.ref (He.ga K "NotNow")) := Z.glo 143 rfl
theorem z144 (Z : FX K mg) : mg "NotKnown" = some (.ref (He.ga K "NotKnown")) := Z.glo 144 rfl
theorem z145 (Z : FX K mg) : mg "OutOfRange" = some (.ref (He.ga K "OutOfRange")) := Z.glo 145 rfl
theorem z146 (Z : FX K mg) : mg "TooMany" = some (.ref (He.ga K "TooMany")) := Z.glo 146 rfl
theorem z147 (Z : FX K mg) : mg "LimitReached" = some (.ref (He.ga K "LimitReached")) := Z.glo 147 rfl
theorem z148 (Z : FX K mg) : mg "int" = none := Z.free 148 rfl
theorem z149 (Z : FX K mg) : mg "len" = none := Z.free 149 rfl
theorem z150 (Z : FX K mg) : mg "abs" = none := Z.free 150 rfl
theorem z151 (Z : FX K mg) : mg "ZeroDivisionError" = none := Z.free 151 rfl
theorem z152 (Z : FX K mg) : mg "KeyError" = none := Z.free 152 rfl
theorem z153 (Z : FX K mg) : mg "IndexError" = none := Z.free 153 rfl
theorem z154 (Z : FX K mg) : mg "zip" = none := Z.free 154 rfl
theorem z155 (Z : FX K mg) : mg "_law_draw" = some (.ref (He.ga K "_law_draw")) := Z.glo 155 rfl
theorem z156 (Z : FX K mg) : mg "_law_pick" = some (.ref (He.ga K "_law_pick")) := Z.glo 156 rfl
theorem z157 (Z : FX K mg) : mg "list" = none := Z.free 157 rfl
theorem z158 (Z : FX K mg) : mg "_law_pen" = some (.ref (He.ga K "_law_pen")) := Z.glo 158 rfl
theorem z159 (Z : FX K mg) : mg "min" = none := Z.free 159 rfl
theorem z160 (Z : FX K mg) : mg "range" = none := Z.free 160 rfl
theorem z161 (Z : FX K mg) : mg "_law_odd" = some (.ref (He.ga K "_law_odd")) := Z.glo 161 rfl
theorem z162 (Z : FX K mg) : mg "_law_filled" = some (.ref (He.ga K "_law_filled")) := Z.glo 162 rfl
theorem z163 (Z : FX K mg) : SysD K := Z.sys 163 rfl
theorem z164 (Z : FX K mg) : mg "repr" = none := Z.free 164 rfl
theorem z165 (Z : FX K mg) : mg "_law_kinds" = some (.ref (He.ga K "_law_kinds")) := Z.glo 165 rfl
theorem z166 (Z : FX K mg) : mg "_law_classes" = some (.ref (He.ga K "_law_classes")) := Z.glo 166 rfl
theorem z167 (Z : FX K mg) : mg "_law_bare" = some (.ref (He.ga K "_law_bare")) := Z.glo 167 rfl
theorem z168 (Z : FX K mg) : mg "law" = some (.ref (He.ga K "law")) := Z.glo 168 rfl
theorem xk_Contradiction (Z : FX K mg) : ∃ fd, FnOk PP w K mg base (L2.CX PP w) 1 (He.ma K (He.ga K "Contradiction") "__init__") fd ["self", "word"] (spI1 (He.ga K "Contradiction") "word") ∧ Binds K fd ["self", "word"] [] ∧ BindsF K fd "word" := by
  obtain ⟨fd, F⟩ := Z.df 0 (d := d_Contradiction___init__) rfl rfl
  exact ⟨fd, fn_init1 F ⟨rfl, rfl, rfl, by decide +kernel, rfl, by decide +kernel, by decide +kernel⟩ rfl rfl (by decide) (by decide) (z0 Z) ((z1 Z)).1 (z2 Z), F.bindsN (ps := ["self", "word"]) (fun _ _ _ _ _ _ us hl => match us, hl with | [_, _], _ => rfl), bindsF_of F fun _ _ _ _ _ _ _ _ => rfl⟩
theorem x_Done (Z : FX K mg) : ∃ fd, FnOk PP w K mg base (L2.CX PP w) 1 (He.ma K (He.ga K "Done") "__init__") fd ["self"] (spI0 (He.ga K "Done")) ∧ Binds K fd ["self"] [] := by
  obtain ⟨fd, F⟩ := Z.df 1 (d := d_Done___init__) rfl rfl
  exact ⟨fd, fn_init0 F ⟨rfl, rfl, rfl, by decide +kernel, rfl, by decide +kernel, by decide +kernel⟩ rfl rfl (z3 Z) ((z4 Z)).1, F.bindsN (ps := ["self"]) fun _ _ _ _ _ _ us hl => match us, hl with | [_], _ => rfl⟩
theorem xk_InvalidAnswer (Z : FX K mg) : ∃ fd, FnOk PP w K mg base (L2.CX PP w) 1 (He.ma K (He.ga K "InvalidAnswer") "__init__") fd ["self", "number"] (spI1 (He.ga K "InvalidAnswer") "number") ∧ Binds K fd ["self", "number"] [] ∧ BindsF K fd "number" := by
  obtain ⟨fd, F⟩ := Z.df 2 (d := d_InvalidAnswer___init__) rfl rfl
  exact ⟨fd, fn_init1 F ⟨rfl, rfl, rfl, by decide +kernel, rfl, by decide +kernel, by decide +kernel⟩ rfl rfl (by decide) (by decide) (z0 Z) ((z5 Z)).1 (z6 Z), F.bindsN (ps := ["self", "number"]) (fun _ _ _ _ _ _ us hl => match us, hl with | [_, _], _ => rfl), bindsF_of F fun _ _ _ _ _ _ _ _ => rfl⟩
theorem x_InvalidCoordinates (Z : FX K mg) : ∃ fd, FnOk PP w K mg base (L2.CX PP w) 1 (He.ma K (He.ga K "InvalidCoordinates") "__init__") fd ["self"] (spI0 (He.ga K "InvalidCoordinates")) ∧ Binds K fd ["self"] [] := by
  obtain ⟨fd, F⟩ := Z.df 3 (d := d_InvalidCoordinates___init__) rfl rfl
  exact ⟨fd, fn_init0 F ⟨rfl, rfl, rfl, by decide +kernel, rfl, by decide +kernel, by decide +kernel⟩ rfl rfl (z0 Z) ((z7 Z)).1, F.bindsN (ps := ["self"]) fun _ _ _ _ _ _ us hl => match us, hl with | [_], _ => rfl⟩
theorem xk_InvalidCost (Z : FX K mg) : ∃ fd, FnOk PP w K mg base (L2.CX PP w) 1 (He.ma K (He.ga K "InvalidCost") "__init__") fd ["self", "letter"] (spI1 (He.ga K "InvalidCost") "letter") ∧ Binds K fd ["self", "letter"] [] ∧ BindsF K fd "letter" := by
  obtain ⟨fd, F⟩ := Z.df 4 (d := d_InvalidCost___init__) rfl rfl
  exact ⟨fd, fn_init1 F ⟨rfl, rfl, rfl, by decide +kernel, rfl, by decide +kernel, by decide +kernel⟩ rfl rfl (by decide) (by decide) (z0 Z) ((z8 Z)).1 (z9 Z), F.bindsN (ps := ["self", "letter"]) (fun _ _ _ _ _ _ us hl => match us, hl with | [_, _], _ => rfl), bindsF_of F fun _ _ _ _ _ _ _ _ => rfl⟩
theorem xk_InvalidCount (Z : FX K mg) : ∃ fd, FnOk PP w K mg base (L2.CX PP w) 1 (He.ma K (He.ga K "InvalidCount") "__init__") fd ["self", "value"] (spI1 (He.ga K "InvalidCount") "value") ∧ Binds K fd ["self", "value"] [] ∧ BindsF K fd "value" := by
  obtain ⟨fd, F⟩ := Z.df 5 (d := d_InvalidCount___init__) rfl rfl
  exact ⟨fd, fn_init1 F ⟨rfl, rfl, rfl, by decide +kernel, rfl, by decide +kernel, by decide +kernel⟩ rfl rfl (by decide) (by decide) (z0 Z) ((z10 Z)).1 (z11 Z), F.bindsN (ps := ["self", "value"]) (fun _ _ _ _ _ _ us hl => match us, hl with | [_, _], _ => rfl), bindsF_of F fun _ _ _ _ _ _ _ _ => rfl⟩
theorem xk_InvalidLetters (Z : FX K mg) : ∃ fd, FnOk PP w K mg base (L2.CX PP w) 1 (He.ma K (He.ga K "InvalidLetters") "__init__") fd ["self", "value"] (spI1 (He.ga K "InvalidLetters") "value") ∧ Binds K fd ["self", "value"] [] ∧ BindsF K fd "value" := by
  obtain ⟨fd, F⟩ := Z.df 6 (d := d_InvalidLetters___init__) rfl rfl
  exact ⟨fd, fn_init1 F ⟨rfl, rfl, rfl, by decide +kernel, rfl, by decide +kernel, by decide +kernel⟩ rfl rfl (by decide) (by decide) (z0 Z) ((z12 Z)).1 (z13 Z), F.bindsN (ps := ["self", "value"]) (fun _ _ _ _ _ _ us hl => match us, hl with | [_, _], _ => rfl), bindsF_of F fun _ _ _ _ _ _ _ _ => rfl⟩
theorem xk_InvalidMachine (Z : FX K mg) : ∃ fd, FnOk PP w K mg base (L2.CX PP w) 1 (He.ma K (He.ga K "InvalidMachine") "__init__") fd ["self", "part"] (spI1 (He.ga K "InvalidMachine") "part") ∧ Binds K fd ["self", "part"] [] ∧ BindsF K fd "part" := by
  obtain ⟨fd, F⟩ := Z.df 7 (d := d_InvalidMachine___init__) rfl rfl
  exact ⟨fd, fn_init1 F ⟨rfl, rfl, rfl, by decide +kernel, rfl, by decide +kernel, by decide +kernel⟩ rfl rfl (by decide) (by decide) (z0 Z) ((z14 Z)).1 (z15 Z), F.bindsN (ps := ["self", "part"]) (fun _ _ _ _ _ _ us hl => match us, hl with | [_, _], _ => rfl), bindsF_of F fun _ _ _ _ _ _ _ _ => rfl⟩
theorem xk_InvalidNumber (Z : FX K mg) : ∃ fd, FnOk PP w K mg base (L2.CX PP w) 1 (He.ma K (He.ga K "InvalidNumber") "__init__") fd ["self", "value"] (spI1 (He.ga K "InvalidNumber") "value") ∧ Binds K fd ["self", "value"] [] ∧ BindsF K fd "value" := by
  obtain ⟨fd, F⟩ := Z.df 8 (d := d_InvalidNumber___init__) rfl rfl
  exact ⟨fd, fn_init1 F ⟨rfl, rfl, rfl, by decide +kernel, rfl, by decide +kernel, by decide +kernel⟩ rfl rfl (by decide) (by decide) (z0 Z) ((z16 Z)).1 (z17 Z), F.bindsN (ps := ["self", "value"]) (fun _ _ _ _ _ _ us hl => match us, hl with | [_, _], _ => rfl), bindsF_of F fun _ _ _ _ _ _ _ _ => rfl⟩
theorem xk_InvalidPrime (Z : FX K mg) : ∃ fd, FnOk PP w K mg base (L2.CX PP w) 1 (He.ma K (He.ga K "InvalidPrime") "__init__") fd ["self", "value"] (spI1 (He.ga K "InvalidPrime") "value") ∧ Binds K fd ["self", "value"] [] ∧ BindsF K fd "value" := by
  obtain ⟨fd, F⟩ := Z.df 9 (d := d_InvalidPrime___init__) rfl rfl
  exact ⟨fd, fn_init1 F ⟨rfl, rfl, rfl, by decide +kernel, rfl, by decide +kernel, by decide +kernel⟩ rfl rfl (by decide) (by decide) (z0 Z) ((z18 Z)).1 (z19 Z), F.bindsN (ps := ["self", "value"]) (fun _ _ _ _ _ _ us hl => match us, hl with | [_, _], _ => rfl), bindsF_of F fun _ _ _ _ _ _ _ _ => rfl⟩
theorem xk_InvalidRow (Z : FX K mg) : ∃ fd, FnOk PP w K mg base (L2.CX PP w) 1 (He.ma K (He.ga K "InvalidRow") "__init__") fd ["self", "row"] (spI1 (He.ga K "InvalidRow") "row") ∧ Binds K fd ["self", "row"] [] ∧ BindsF K fd "row" := by
  obtain ⟨fd, F⟩ := Z.df 10 (d := d_InvalidRow___init__) rfl rfl
  exact ⟨fd, fn_init1 F ⟨rfl, rfl, rfl, by decide +kernel, rfl, by decide +kernel, by decide +kernel⟩ rfl rfl (by decide) (by decide) (z0 Z) ((z20 Z)).1 (z21 Z), F.bindsN (ps := ["self", "row"]) (fun _ _ _ _ _ _ us hl => match us, hl with | [_, _], _ => rfl), bindsF_of F fun _ _ _ _ _ _ _ _ => rfl⟩
theorem xk_InvalidText (Z : FX K mg) : ∃ fd, FnOk PP w K mg base (L2.CX PP w) 1 (He.ma K (He.ga K "InvalidText") "__init__") fd ["self", "line"] (spI1 (He.ga K "InvalidText") "line") ∧ Binds K fd ["self", "line"] [] ∧ BindsF K fd "line" := by
  obtain ⟨fd, F⟩ := Z.df 11 (d := d_InvalidText___init__) rfl rfl
  exact ⟨fd, fn_init1 F ⟨rfl, rfl, rfl, by decide +kernel, rfl, by decide +kernel, by decide +kernel⟩ rfl rfl (by decide) (by decide) (z0 Z) ((z22 Z)).1 (z23 Z), F.bindsN (ps := ["self", "line"]) (fun _ _ _ _ _ _ us hl => match us, hl with | [_, _], _ => rfl), bindsF_of F fun _ _ _ _ _ _ _ _ => rfl⟩
theorem xk_InvalidWord (Z : FX K mg) : ∃ fd, FnOk PP w K mg base (L2.CX PP w) 1 (He.ma K (He.ga K "InvalidWord") "__init__") fd ["self", "value"] (spI1 (He.ga K "InvalidWord") "value") ∧ Binds K fd ["self", "value"] [] ∧ BindsF K fd "value" := by
  obtain ⟨fd, F⟩ := Z.df 12 (d := d_InvalidWord___init__) rfl rfl
  exact ⟨fd, fn_init1 F ⟨rfl, rfl, rfl, by decide +kernel, rfl, by decide +kernel, by decide +kernel⟩ rfl rfl (by decide) (by decide) (z0 Z) ((z24 Z)).1 (z25 Z), F.bindsN (ps := ["self", "value"]) (fun _ _ _ _ _ _ us hl => match us, hl with | [_, _], _ => rfl), bindsF_of F fun _ _ _ _ _ _ _ _ => rfl⟩
theorem xk_LimitReached (Z : FX K mg) : ∃ fd, FnOk PP w K mg base (L2.CX PP w) 1 (He.ma K (He.ga K "LimitReached") "__init__") fd ["self", "limit"] (spI1 (He.ga K "LimitReached") "limit") ∧ Binds K fd ["self", "limit"] [] ∧ BindsF K fd "limit" := by
  obtain ⟨fd, F⟩ := Z.df 13 (d := d_LimitReached___init__) rfl rfl
  exact ⟨fd, fn_init1 F ⟨rfl, rfl, rfl, by decide +kernel, rfl, by decide +kernel, by decide +kernel⟩ rfl rfl (by decide) (by decide) (z26 Z) ((z27 Z)).1 (z28 Z), F.bindsN (ps := ["self", "limit"]) (fun _ _ _ _ _ _ us hl => match us, hl with | [_, _], _ => rfl), bindsF_of F fun _ _ _ _ _ _ _ _ => rfl⟩
theorem x_NoQuotient (Z : FX K mg) : ∃ fd, FnOk PP w K mg base (L2.CX PP w) 1 (He.ma K (He.ga K "NoQuotient") "__init__") fd ["self"] (spI0 (He.ga K "NoQuotient")) ∧ Binds K fd ["self"] [] := by
  obtain ⟨fd, F⟩ := Z.df 14 (d := d_NoQuotient___init__) rfl rfl
  exact ⟨fd, fn_init0 F ⟨rfl, rfl, rfl, by decide +kernel, rfl, by decide +kernel, by decide +kernel⟩ rfl rfl (z29 Z) ((z30 Z)).1, F.bindsN (ps := ["self"]) fun _ _ _ _ _ _ us hl => match us, hl with | [_], _ => rfl⟩
theorem x_NotFinite (Z : FX K mg) : ∃ fd, FnOk PP w K mg base (L2.CX PP w) 1 (He.ma K (He.ga K "NotFinite") "__init__") fd ["self"] (spI0 (He.ga K "NotFinite")) ∧ Binds K fd ["self"] [] := by
  obtain ⟨fd, F⟩ := Z.df 15 (d := d_NotFinite___init__) rfl rfl
  exact ⟨fd, fn_init0 F ⟨rfl, rfl, rfl, by decide +kernel, rfl, by decide +kernel, by decide +kernel⟩ rfl rfl (z29 Z) ((z31 Z)).1, F.bindsN (ps := ["self"]) fun _ _ _ _ _ _ us hl => match us, hl with | [_], _ => rfl⟩
theorem xk_NotKnown (Z : FX K mg) : ∃ fd, FnOk PP w K mg base (L2.CX PP w) 1 (He.ma K (He.ga K "NotKnown") "__init__") fd ["self", "value"] (spI1 (He.ga K "NotKnown") "value") ∧ Binds K fd ["self", "value"] [] ∧ BindsF K fd "value" := by
  obtain ⟨fd, F⟩ := Z.df 16 (d := d_NotKnown___init__) rfl rfl
  exact ⟨fd, fn_init1 F ⟨rfl, rfl, rfl, by decide +kernel, rfl, by decide +kernel, by decide +kernel⟩ rfl rfl (by decide) (by decide) (z3 Z) ((z32 Z)).1 (z33 Z), F.bindsN (ps := ["self", "value"]) (fun _ _ _ _ _ _ us hl => match us, hl with | [_, _], _ => rfl), bindsF_of F fun _ _ _ _ _ _ _ _ => rfl⟩
theorem xk_NotNow (Z : FX K mg) : ∃ fd, FnOk PP w K mg base (L2.CX PP w) 1 (He.ma K (He.ga K "NotNow") "__init__") fd ["self", "word"] (spI1 (He.ga K "NotNow") "word") ∧ Binds K fd ["self", "word"] [] ∧ BindsF K fd "word" := by
  obtain ⟨fd, F⟩ := Z.df 17 (d := d_NotNow___init__) rfl rfl
  exact ⟨fd, fn_init1 F ⟨rfl, rfl, rfl, by decide +kernel, rfl, by decide +kernel, by decide +kernel⟩ rfl rfl (by decide) (by decide) (z3 Z) ((z34 Z)).1 (z35 Z), F.bindsN (ps := ["self", "word"]) (fun _ _ _ _ _ _ us hl => match us, hl with | [_, _], _ => rfl), bindsF_of F fun _ _ _ _ _ _ _ _ => rfl⟩
theorem x_Nothing (Z : FX K mg) : ∃ fd, FnOk PP w K mg base (L2.CX PP w) 1 (He.ma K (He.ga K "Nothing") "__init__") fd ["self"] (spI0 (He.ga K "Nothing")) ∧ Binds K fd ["self"] [] := by
  obtain ⟨fd, F⟩ := Z.df 18 (d := d_Nothing___init__) rfl rfl
  exact ⟨fd, fn_init0 F ⟨rfl, rfl, rfl, by decide +kernel, rfl, by decide +kernel, by decide +kernel⟩ rfl rfl (z3 Z) ((z36 Z)).1, F.bindsN (ps := ["self"]) fun _ _ _ _ _ _ us hl => match us, hl with | [_], _ => rfl⟩
theorem x_OtherField (Z : FX K mg) : ∃ fd, FnOk PP w K mg base (L2.CX PP w) 1 (He.ma K (He.ga K "OtherField") "__init__") fd ["self"] (spI0 (He.ga K "OtherField")) ∧ Binds K fd ["self"] [] := by
  obtain ⟨fd, F⟩ := Z.df 19 (d := d_OtherField___init__) rfl rfl
  exact ⟨fd, fn_init0 F ⟨rfl, rfl, rfl, by decide +kernel, rfl, by decide +kernel, by decide +kernel⟩ rfl rfl (z0 Z) ((z37 Z)).1, F.bindsN (ps := ["self"]) fun _ _ _ _ _ _ us hl => match us, hl with | [_], _ => rfl⟩
theorem x_OtherLetters (Z : FX K mg) : ∃ fd, FnOk PP w K mg base (L2.CX PP w) 1 (He.ma K (He.ga K "OtherLetters") "__init__") fd ["self"] (spI0 (He.ga K "OtherLetters")) ∧ Binds K fd ["self"] [] := by
  obtain ⟨fd, F⟩ := Z.df 20 (d := d_OtherLetters___init__) rfl rfl
  exact ⟨fd, fn_init0 F ⟨rfl, rfl, rfl, by decide +kernel, rfl, by decide +kernel, by decide +kernel⟩ rfl rfl (z0 Z) ((z38 Z)).1, F.bindsN (ps := ["self"]) fun _ _ _ _ _ _ us hl => match us, hl with | [_], _ => rfl⟩
theorem xk_OutOfRange (Z : FX K mg) : ∃ fd, FnOk PP w K mg base (L2.CX PP w) 1 (He.ma K (He.ga K "OutOfRange") "__init__") fd ["self", "value"] (spI1 (He.ga K "OutOfRange") "value") ∧ Binds K fd ["self", "value"] [] ∧ BindsF K fd "value" := by
  obtain ⟨fd, F⟩ := Z.df 21 (d := d_OutOfRange___init__) rfl rfl
  exact ⟨fd, fn_init1 F ⟨rfl, rfl, rfl, by decide +kernel, rfl, by decide +kernel, by decide +kernel⟩ rfl rfl (by decide) (by decide) (z3 Z) ((z39 Z)).1 (z40 Z), F.bindsN (ps := ["self", "value"]) (fun _ _ _ _ _ _ us hl => match us, hl with | [_, _], _ => rfl), bindsF_of F fun _ _ _ _ _ _ _ _ => rfl⟩
theorem x_TooLong (Z : FX K mg) : ∃ fd, FnOk PP w K mg base (L2.CX PP w) 1 (He.ma K (He.ga K "TooLong") "__init__") fd ["self"] (spI0 (He.ga K "TooLong")) ∧ Binds K fd ["self"] [] := by
  obtain ⟨fd, F⟩ := Z.df 22 (d := d_TooLong___init__) rfl rfl
  exact ⟨fd, fn_init0 F ⟨rfl, rfl, rfl, by decide +kernel, rfl, by decide +kernel, by decide +kernel⟩ rfl rfl (z41 Z) ((z42 Z)).1, F.bindsN (ps := ["self"]) fun _ _ _ _ _ _ us hl => match us, hl with | [_], _ => rfl⟩
theorem xk_TooMany (Z : FX K mg) : ∃ fd, FnOk PP w K mg base (L2.CX PP w) 1 (He.ma K (He.ga K "TooMany") "__init__") fd ["self", "limit"] (spI1 (He.ga K "TooMany") "limit") ∧ Binds K fd ["self", "limit"] [] ∧ BindsF K fd "limit" := by
  obtain ⟨fd, F⟩ := Z.df 23 (d := d_TooMany___init__) rfl rfl
  exact ⟨fd, fn_init1 F ⟨rfl, rfl, rfl, by decide +kernel, rfl, by decide +kernel, by decide +kernel⟩ rfl rfl (by decide) (by decide) (z41 Z) ((z43 Z)).1 (z44 Z), F.bindsN (ps := ["self", "limit"]) (fun _ _ _ _ _ _ us hl => match us, hl with | [_, _], _ => rfl), bindsF_of F fun _ _ _ _ _ _ _ _ => rfl⟩
theorem xk_TooSmall (Z : FX K mg) : ∃ fd, FnOk PP w K mg base (L2.CX PP w) 1 (He.ma K (He.ga K "TooSmall") "__init__") fd ["self", "least_size"] (spI1 (He.ga K "TooSmall") "least_size") ∧ Binds K fd ["self", "least_size"] [] ∧ BindsF K fd "least_size" := by
  obtain ⟨fd, F⟩ := Z.df 24 (d := d_TooSmall___init__) rfl rfl
  exact ⟨fd, fn_init1 F ⟨rfl, rfl, rfl, by decide +kernel, rfl, by decide +kernel, by decide +kernel⟩ rfl rfl (by decide) (by decide) (z0 Z) ((z45 Z)).1 (z46 Z), F.bindsN (ps := ["self", "least_size"]) (fun _ _ _ _ _ _ us hl => match us, hl with | [_, _], _ => rfl), bindsF_of F fun _ _ _ _ _ _ _ _ => rfl⟩
abbrev isv1_TooSmall : List (String × Bool) := [("ArithmeticError", false), ("IndexError", false), ("KeyError", false), ("LookupError", false), ("OverflowError", false), ("RuntimeError", false), ("ValueError", true), ("ZeroDivisionError", false)]
abbrev isv2_TooSmall : List (Str × Bool) := [("Contradiction", false), ("Done", false), ("InvalidAnswer", false), ("InvalidCoordinates", false), ("InvalidCost", false), ("InvalidCount", false), ("InvalidLetters", false), ("InvalidMachine", false), ("InvalidNumber", false), ("InvalidPrime", false), ("InvalidRow", false), ("InvalidText", false), ("InvalidWord", false), ("LimitReached", false), ("NoQuotient", false), ("NotFinite", false), ("NotKnown", false), ("NotNow", false), ("Nothing", false), ("OtherField", false), ("OtherLetters", false), ("OutOfRange", false), ("TooLong", false), ("TooMany", false), ("TooSmall", true)]
abbrev isv1_TooMany : List (String × Bool) := [("ArithmeticError", true), ("IndexError", false), ("KeyError", false), ("LookupError", false), ("OverflowError", true), ("RuntimeError", false), ("ValueError", false), ("ZeroDivisionError", false)]
abbrev isv2_TooMany : List (Str × Bool) := [("Contradiction", false), ("Done", false), ("InvalidAnswer", false), ("InvalidCoordinates", false), ("InvalidCost", false), ("InvalidCount", false), ("InvalidLetters", false), ("InvalidMachine", false), ("InvalidNumber", false), ("InvalidPrime", false), ("InvalidRow", false), ("InvalidText", false), ("InvalidWord", false), ("LimitReached", false), ("NoQuotient", false), ("NotFinite", false), ("NotKnown", false), ("NotNow", false), ("Nothing", false), ("OtherField", false), ("OtherLetters", false), ("OutOfRange", false), ("TooLong", false), ("TooMany", true), ("TooSmall", false)]
abbrev isv1_TooLong : List (String × Bool) := [("ArithmeticError", true), ("IndexError", false), ("KeyError", false), ("LookupError", false), ("OverflowError", true), ("RuntimeError", false), ("ValueError", false), ("ZeroDivisionError", false)]
abbrev isv2_TooLong : List (Str × Bool) := [("Contradiction", false), ("Done", false), ("InvalidAnswer", false), ("InvalidCoordinates", false), ("InvalidCost", false), ("InvalidCount", false), ("InvalidLetters", false), ("InvalidMachine", false), ("InvalidNumber", false), ("InvalidPrime", false), ("InvalidRow", false), ("InvalidText", false), ("InvalidWord", false), ("LimitReached", false), ("NoQuotient", false), ("NotFinite", false), ("NotKnown", false), ("NotNow", false), ("Nothing", false), ("OtherField", false), ("OtherLetters", false), ("OutOfRange", false), ("TooLong", true), ("TooMany", false), ("TooSmall", false)]
abbrev isv1_OutOfRange : List (String × Bool) := [("ArithmeticError", false), ("IndexError", false), ("KeyError", false), ("LookupError", true), ("OverflowError", false), ("RuntimeError", false), ("ValueError", false), ("ZeroDivisionError", false)]
abbrev isv2_OutOfRange : List (Str × Bool) := [("Contradiction", false), ("Done", false), ("InvalidAnswer", false), ("InvalidCoordinates", false), ("InvalidCost", false), ("InvalidCount", false), ("InvalidLetters", false), ("InvalidMachine", false), ("InvalidNumber", false), ("InvalidPrime", false), ("InvalidRow", false), ("InvalidText", false), ("InvalidWord", false), ("LimitReached", false), ("NoQuotient", false), ("NotFinite", false), ("NotKnown", false), ("NotNow", false), ("Nothing", false), ("OtherField", false), ("OtherLetters", false), ("OutOfRange", true), ("TooLong", false), ("TooMany", false), ("TooSmall", false)]
abbrev isv1_OtherLetters : List (String × Bool) := [("ArithmeticError", false), ("IndexError", false), ("KeyError", false), ("LookupError", false), ("OverflowError", false), ("RuntimeError", false), ("ValueError", true), ("ZeroDivisionError", false)]
abbrev isv2_OtherLetters : List (Str × Bool) := [("Contradiction", false), ("Done", false), ("InvalidAnswer", false), ("InvalidCoordinates", false), ("InvalidCost", false), ("InvalidCount", false), ("InvalidLetters", false), ("InvalidMachine", false), ("InvalidNumber", false), ("InvalidPrime", false), ("InvalidRow", false), ("InvalidText", false), ("InvalidWord", false), ("LimitReached", false), ("NoQuotient", false), ("NotFinite", false), ("NotKnown", false), ("NotNow", false), ("Nothing", false), ("OtherField", false), ("OtherLetters", true), ("OutOfRange", false), ("TooLong", false), ("TooMany", false), ("TooSmall", false)]
abbrev isv1_OtherField : List (String × Bool) := [("ArithmeticError", false), ("IndexError", false), ("KeyError", false), ("LookupError", false), ("OverflowError", false), ("RuntimeError", false), ("ValueError", true), ("ZeroDivisionError", false)]
abbrev isv2_OtherField : List (Str × Bool) := [("Contradiction", false), ("Done", false), ("InvalidAnswer", false), ("InvalidCoordinates", false), ("InvalidCost", false), ("InvalidCount", false), ("InvalidLetters", false), ("InvalidMachine", false), ("InvalidNumber", false), ("InvalidPrime", false), ("InvalidRow", false), ("InvalidText", false), ("InvalidWord", false), ("LimitReached", false), ("NoQuotient", false), ("NotFinite", false), ("NotKnown", false), ("NotNow", false), ("Nothing", false), ("OtherField", true), ("OtherLetters", false), ("OutOfRange", false), ("TooLong", false), ("TooMany", false), ("TooSmall", false)]
abbrev isv1_Nothing : List (String × Bool) := [("ArithmeticError", false), ("IndexError", false), ("KeyError", false), ("LookupError", true), ("OverflowError", false), ("RuntimeError", false), ("ValueError", false), ("ZeroDivisionError", false)]
abbrev isv2_Nothing : List (Str × Bool) := [("Contradiction", false), ("Done", false), ("InvalidAnswer", false), ("InvalidCoordinates", false), ("InvalidCost", false), ("InvalidCount", false), ("InvalidLetters", false), ("InvalidMachine", false), ("InvalidNumber", false), ("InvalidPrime", false), ("InvalidRow", false), ("InvalidText", false), ("InvalidWord", false), ("LimitReached", false), ("NoQuotient", false), ("NotFinite", false), ("NotKnown", false), ("NotNow", false), ("Nothing", true), ("OtherField", false), ("OtherLetters", false), ("OutOfRange", false), ("TooLong", false), ("TooMany", false), ("TooSmall", false)]
abbrev isv1_NotNow : List (String × Bool) := [("ArithmeticError", false), ("IndexError", false), ("KeyError", false), ("LookupError", true), ("OverflowError", false), ("RuntimeError", false), ("ValueError", false), ("ZeroDivisionError", false)]
abbrev isv2_NotNow : List (Str × Bool) := [("Contradiction", false), ("Done", false), ("InvalidAnswer", false), ("InvalidCoordinates", false), ("InvalidCost", false), ("InvalidCount", false), ("InvalidLetters", false), ("InvalidMachine", false), ("InvalidNumber", false), ("InvalidPrime", false), ("InvalidRow", false), ("InvalidText", false), ("InvalidWord", false), ("LimitReached", false), ("NoQuotient", false), ("NotFinite", false), ("NotKnown", false), ("NotNow", true), ("Nothing", false), ("OtherField", false), ("OtherLetters", false), ("OutOfRange", false), ("TooLong", false), ("TooMany", false), ("TooSmall", false)]
abbrev isv1_NotKnown : List (String × Bool) := [("ArithmeticError", false), ("IndexError", false), ("KeyError", false), ("LookupError", true), ("OverflowError", false), ("RuntimeError", false), ("ValueError", false), ("ZeroDivisionError", false)]
abbrev isv2_NotKnown : List (Str × Bool) := [("Contradiction", false), ("Done", false), ("InvalidAnswer", false), ("InvalidCoordinates", false), ("InvalidCost", false), ("InvalidCount", false), ("InvalidLetters", false), ("InvalidMachine", false), ("InvalidNumber", false), ("InvalidPrime", false), ("InvalidRow", false), ("InvalidText", false), ("InvalidWord", false), ("LimitReached", false), ("NoQuotient", false), ("NotFinite", false), ("NotKnown", true), ("NotNow", false), ("Nothing", false), ("OtherField", false), ("OtherLetters", false), ("OutOfRange", false), ("TooLong", false), ("TooMany", false), ("TooSmall", false)]
abbrev isv1_NotFinite : List (String × Bool) := [("ArithmeticError", true), ("IndexError", false), ("KeyError", false), ("LookupError", false), ("OverflowError", false), ("RuntimeError", false), ("ValueError", false), ("ZeroDivisionError", false)]
abbrev isv2_NotFinite : List (Str × Bool) := [("Contradiction", false), ("Done", false), ("InvalidAnswer", false), ("InvalidCoordinates", false), ("InvalidCost", false), ("InvalidCount", false), ("InvalidLetters", false), ("InvalidMachine", false), ("InvalidNumber", false), ("InvalidPrime", false), ("InvalidRow", false), ("InvalidText", false), ("InvalidWord", false), ("LimitReached", false), ("NoQuotient", false), ("NotFinite", true), ("NotKnown", false), ("NotNow", false), ("Nothing", false), ("OtherField", false), ("OtherLetters", false), ("OutOfRange", false), ("TooLong", false), ("TooMany", false), ("TooSmall", false)]
abbrev isv1_NoQuotient : List (String × Bool) := [("ArithmeticError", true), ("IndexError", false), ("KeyError", false), ("LookupError", false), ("OverflowError", false), ("RuntimeError", false), ("ValueError", false), ("ZeroDivisionError", false)]
abbrev isv2_NoQuotient : List (Str × Bool) := [("Contradiction", false), ("Done", false), ("InvalidAnswer", false), ("InvalidCoordinates", false), ("InvalidCost", false), ("InvalidCount", false), ("InvalidLetters", false), ("InvalidMachine", false), ("InvalidNumber", false), ("InvalidPrime", false), ("InvalidRow", false), ("InvalidText", false), ("InvalidWord", false), ("LimitReached", false), ("NoQuotient", true), ("NotFinite", false), ("NotKnown", false), ("NotNow", false), ("Nothing", false), ("OtherField", false), ("OtherLetters", false), ("OutOfRange", false), ("TooLong", false), ("TooMany", false), ("TooSmall", false)]
abbrev isv1_LimitReached : List (String × Bool) := [("ArithmeticError", false), ("IndexError", false), ("KeyError", false), ("LookupError", false), ("OverflowError", false), ("RuntimeError", true), ("ValueError", false), ("ZeroDivisionError", false)]
abbrev isv2_LimitReached : List (Str × Bool) := [("Contradiction", false), ("Done", false), ("InvalidAnswer", false), ("InvalidCoordinates", false), ("InvalidCost", false), ("InvalidCount", false), ("InvalidLetters", false), ("InvalidMachine", false), ("InvalidNumber", false), ("InvalidPrime", false), ("InvalidRow", false), ("InvalidText", false), ("InvalidWord", false), ("LimitReached", true), ("NoQuotient", false), ("NotFinite", false), ("NotKnown", false), ("NotNow", false), ("Nothing", false), ("OtherField", false), ("OtherLetters", false), ("OutOfRange", false), ("TooLong", false), ("TooMany", false), ("TooSmall", false)]
abbrev isv1_InvalidWord : List (String × Bool) := [("ArithmeticError", false), ("IndexError", false), ("KeyError", false), ("LookupError", false), ("OverflowError", false), ("RuntimeError", false), ("ValueError", true), ("ZeroDivisionError", false)]
abbrev isv2_InvalidWord : List (Str × Bool) := [("Contradiction", false), ("Done", false), ("InvalidAnswer", false), ("InvalidCoordinates", false), ("InvalidCost", false), ("InvalidCount", false), ("InvalidLetters", false), ("InvalidMachine", false), ("InvalidNumber", false), ("InvalidPrime", false), ("InvalidRow", false), ("InvalidText", false), ("InvalidWord", true), ("LimitReached", false), ("NoQuotient", false), ("NotFinite", false), ("NotKnown", false), ("NotNow", false), ("Nothing", false), ("OtherField", false), ("OtherLetters", false), ("OutOfRange", false), ("TooLong", false), ("TooMany", false), ("TooSmall", false)]
abbrev isv1_InvalidText : List (String × Bool) := [("ArithmeticError", false), ("IndexError", false), ("KeyError", false), ("LookupError", false), ("OverflowError", false), ("RuntimeError", false), ("ValueError", true), ("ZeroDivisionError", false)]
abbrev isv2_InvalidText : List (Str × Bool) := [("Contradiction", false), ("Done", false), ("InvalidAnswer", false), ("InvalidCoordinates", false), ("InvalidCost", false), ("InvalidCount", false), ("InvalidLetters", false), ("InvalidMachine", false), ("InvalidNumber", false), ("InvalidPrime", false), ("InvalidRow", false), ("InvalidText", true), ("InvalidWord", false), ("LimitReached", false), ("NoQuotient", false), ("NotFinite", false), ("NotKnown", false), ("NotNow", false), ("Nothing", false), ("OtherField", false), ("OtherLetters", false), ("OutOfRange", false), ("TooLong", false), ("TooMany", false), ("TooSmall", false)]
abbrev isv1_InvalidRow : List (String × Bool) := [("ArithmeticError", false), ("IndexError", false), ("KeyError", false), ("LookupError", false), ("OverflowError", false), ("RuntimeError", false), ("ValueError", true), ("ZeroDivisionError", false)]
abbrev isv2_InvalidRow : List (Str × Bool) := [("Contradiction", false), ("Done", false), ("InvalidAnswer", false), ("InvalidCoordinates", false), ("InvalidCost", false), ("InvalidCount", false), ("InvalidLetters", false), ("InvalidMachine", false), ("InvalidNumber", false), ("InvalidPrime", false), ("InvalidRow", true), ("InvalidText", false), ("InvalidWord", false), ("LimitReached", false), ("NoQuotient", false), ("NotFinite", false), ("NotKnown", false), ("NotNow", false), ("Nothing", false), ("OtherField", false), ("OtherLetters", false), ("OutOfRange", false), ("TooLong", false), ("TooMany", false), ("TooSmall", false)]
abbrev isv1_InvalidPrime : List (String × Bool) := [("ArithmeticError", false), ("IndexError", false), ("KeyError", false), ("LookupError", false), ("OverflowError", false), ("RuntimeError", false), ("ValueError", true), ("ZeroDivisionError", false)]
abbrev isv2_InvalidPrime : List (Str × Bool) := [("Contradiction", false), ("Done", false), ("InvalidAnswer", false), ("InvalidCoordinates", false), ("InvalidCost", false), ("InvalidCount", false), ("InvalidLetters", false), ("InvalidMachine", false), ("InvalidNumber", false), ("InvalidPrime", true), ("InvalidRow", false), ("InvalidText", false), ("InvalidWord", false), ("LimitReached", false), ("NoQuotient", false), ("NotFinite", false), ("NotKnown", false), ("NotNow", false), ("Nothing", false), ("OtherField", false), ("OtherLetters", false), ("OutOfRange", false), ("TooLong", false), ("TooMany", false), ("TooSmall", false)]
abbrev isv1_InvalidNumber : List (String × Bool) := [("ArithmeticError", false), ("IndexError", false), ("KeyError", false), ("LookupError", false), ("OverflowError", false), ("RuntimeError", false), ("ValueError", true), ("ZeroDivisionError", false)]
abbrev isv2_InvalidNumber : List (Str × Bool) := [("Contradiction", false), ("Done", false), ("InvalidAnswer", false), ("InvalidCoordinates", false), ("InvalidCost", false), ("InvalidCount", false), ("InvalidLetters", false), ("InvalidMachine", false), ("InvalidNumber", true), ("InvalidPrime", false), ("InvalidRow", false), ("InvalidText", false), ("InvalidWord", false), ("LimitReached", false), ("NoQuotient", false), ("NotFinite", false), ("NotKnown", false), ("NotNow", false), ("Nothing", false), ("OtherField", false), ("OtherLetters", false), ("OutOfRange", false), ("TooLong", false), ("TooMany", false), ("TooSmall", false)]
abbrev isv1_InvalidMachine : List (String × Bool) := [("ArithmeticError", false), ("IndexError", false), ("KeyError", false), ("LookupError", false), ("OverflowError", false), ("RuntimeError", false), ("ValueError", true), ("ZeroDivisionError", false)]
abbrev isv2_InvalidMachine : List (Str × Bool) := [("Contradiction", false), ("Done", false), ("InvalidAnswer", false), ("InvalidCoordinates", false), ("InvalidCost", false), ("InvalidCount", false), ("InvalidLetters", false), ("InvalidMachine", true), ("InvalidNumber", false), ("InvalidPrime", false), ("InvalidRow", false), ("InvalidText", false), ("InvalidWord", false), ("LimitReached", false), ("NoQuotient", false), ("NotFinite", false), ("NotKnown", false), ("NotNow", false), ("Nothing", false), ("OtherField", false), ("OtherLetters", false), ("OutOfRange", false), ("TooLong", false), ("TooMany", false), ("TooSmall", false)]
abbrev isv1_InvalidLetters : List (String × Bool) := [("ArithmeticError", false), ("IndexError", false), ("KeyError", false), ("LookupError", false), ("OverflowError", false), ("RuntimeError", false), ("ValueError", true), ("ZeroDivisionError", false)]
abbrev isv2_InvalidLetters : List (Str × Bool) := [("Contradiction", false), ("Done", false), ("InvalidAnswer", false), ("InvalidCoordinates", false), ("InvalidCost", false), ("InvalidCount", false), ("InvalidLetters", true), ("InvalidMachine", false), ("InvalidNumber", false), ("InvalidPrime", false), ("InvalidRow", false), ("InvalidText", false), ("InvalidWord", false), ("LimitReached", false), ("NoQuotient", false), ("NotFinite", false), ("NotKnown", false), ("NotNow", false), ("Nothing", false), ("OtherField", false), ("OtherLetters", false), ("OutOfRange", false), ("TooLong", false), ("TooMany", false), ("TooSmall", false)]
abbrev isv1_InvalidCount : List (String × Bool) := [("ArithmeticError", false), ("IndexError", false), ("KeyError", false), ("LookupError", false), ("OverflowError", false), ("RuntimeError", false), ("ValueError", true), ("ZeroDivisionError", false)]
abbrev isv2_InvalidCount : List (Str × Bool) := [("Contradiction", false), ("Done", false), ("InvalidAnswer", false), ("InvalidCoordinates", false), ("InvalidCost", false), ("InvalidCount", true), ("InvalidLetters", false), ("InvalidMachine", false), ("InvalidNumber", false), ("InvalidPrime", false), ("InvalidRow", false), ("InvalidText", false), ("InvalidWord", false), ("LimitReached", false), ("NoQuotient", false), ("NotFinite", false), ("NotKnown", false), ("NotNow", false), ("Nothing", false), ("OtherField", false), ("OtherLetters", false), ("OutOfRange", false), ("TooLong", false), ("TooMany", false), ("TooSmall", false)]
abbrev isv1_InvalidCost : List (String × Bool) := [("ArithmeticError", false), ("IndexError", false), ("KeyError", false), ("LookupError", false), ("OverflowError", false), ("RuntimeError", false), ("ValueError", true), ("ZeroDivisionError", false)]
abbrev isv2_InvalidCost : List (Str × Bool) := [("Contradiction", false), ("Done", false), ("InvalidAnswer", false), ("InvalidCoordinates", false), ("InvalidCost", true), ("InvalidCount", false), ("InvalidLetters", false), ("InvalidMachine", false), ("InvalidNumber", false), ("InvalidPrime", false), ("InvalidRow", false), ("InvalidText", false), ("InvalidWord", false), ("LimitReached", false), ("NoQuotient", false), ("NotFinite", false), ("NotKnown", false), ("NotNow", false), ("Nothing", false), ("OtherField", false), ("OtherLetters", false), ("OutOfRange", false), ("TooLong", false), ("TooMany", false), ("TooSmall", false)]
abbrev isv1_InvalidCoordinates : List (String × Bool) := [("ArithmeticError", false), ("IndexError", false), ("KeyError", false), ("LookupError", false), ("OverflowError", false), ("RuntimeError", false), ("ValueError", true), ("ZeroDivisionError", false)]
abbrev isv2_InvalidCoordinates : List (Str × Bool) := [("Contradiction", false), ("Done", false), ("InvalidAnswer", false), ("InvalidCoordinates", true), ("InvalidCost", false), ("InvalidCount", false), ("InvalidLetters", false), ("InvalidMachine", false), ("InvalidNumber", false), ("InvalidPrime", false), ("InvalidRow", false), ("InvalidText", false), ("InvalidWord", false), ("LimitReached", false), ("NoQuotient", false), ("NotFinite", false), ("NotKnown", false), ("NotNow", false), ("Nothing", false), ("OtherField", false), ("OtherLetters", false), ("OutOfRange", false), ("TooLong", false), ("TooMany", false), ("TooSmall", false)]
abbrev isv1_InvalidAnswer : List (String × Bool) := [("ArithmeticError", false), ("IndexError", false), ("KeyError", false), ("LookupError", false), ("OverflowError", false), ("RuntimeError", false), ("ValueError", true), ("ZeroDivisionError", false)]
abbrev isv2_InvalidAnswer : List (Str × Bool) := [("Contradiction", false), ("Done", false), ("InvalidAnswer", true), ("InvalidCoordinates", false), ("InvalidCost", false), ("InvalidCount", false), ("InvalidLetters", false), ("InvalidMachine", false), ("InvalidNumber", false), ("InvalidPrime", false), ("InvalidRow", false), ("InvalidText", false), ("InvalidWord", false), ("LimitReached", false), ("NoQuotient", false), ("NotFinite", false), ("NotKnown", false), ("NotNow", false), ("Nothing", false), ("OtherField", false), ("OtherLetters", false), ("OutOfRange", false), ("TooLong", false), ("TooMany", false), ("TooSmall", false)]
abbrev isv1_Done : List (String × Bool) := [("ArithmeticError", false), ("IndexError", false), ("KeyError", false), ("LookupError", true), ("OverflowError", false), ("RuntimeError", false), ("ValueError", false), ("ZeroDivisionError", false)]
abbrev isv2_Done : List (Str × Bool) := [("Contradiction", false), ("Done", true), ("InvalidAnswer", false), ("InvalidCoordinates", false), ("InvalidCost", false), ("InvalidCount", false), ("InvalidLetters", false), ("InvalidMachine", false), ("InvalidNumber", false), ("InvalidPrime", false), ("InvalidRow", false), ("InvalidText", false), ("InvalidWord", false), ("LimitReached", false), ("NoQuotient", false), ("NotFinite", false), ("NotKnown", false), ("NotNow", false), ("Nothing", false), ("OtherField", false), ("OtherLetters", false), ("OutOfRange", false), ("TooLong", false), ("TooMany", false), ("TooSmall", false)]
abbrev isv1_Contradiction : List (String × Bool) := [("ArithmeticError", false), ("IndexError", false), ("KeyError", false), ("LookupError", false), ("OverflowError", false), ("RuntimeError", false), ("ValueError", true), ("ZeroDivisionError", false)]
abbrev isv2_Contradiction : List (Str × Bool) := [("Contradiction", true), ("Done", false), ("InvalidAnswer", false), ("InvalidCoordinates", false), ("InvalidCost", false), ("InvalidCount", false), ("InvalidLetters", false), ("InvalidMachine", false), ("InvalidNumber", false), ("InvalidPrime", false), ("InvalidRow", false), ("InvalidText", false), ("InvalidWord", false), ("LimitReached", false), ("NoQuotient", false), ("NotFinite", false), ("NotKnown", false), ("NotNow", false), ("Nothing", false), ("OtherField", false), ("OtherLetters", false), ("OutOfRange", false), ("TooLong", false), ("TooMany", false), ("TooSmall", false)]
abbrev isv0 : List (Str × List (String × Bool) × List (Str × Bool)) := [("Contradiction", isv1_Contradiction, isv2_Contradiction), ("Done", isv1_Done, isv2_Done), ("InvalidAnswer", isv1_InvalidAnswer, isv2_InvalidAnswer), ("InvalidCoordinates", isv1_InvalidCoordinates, isv2_InvalidCoordinates), ("InvalidCost", isv1_InvalidCost, isv2_InvalidCost), ("InvalidCount", isv1_InvalidCount, isv2_InvalidCount), ("InvalidLetters", isv1_InvalidLetters, isv2_InvalidLetters), ("InvalidMachine", isv1_InvalidMachine, isv2_InvalidMachine), ("InvalidNumber", isv1_InvalidNumber, isv2_InvalidNumber), ("InvalidPrime", isv1_InvalidPrime, isv2_InvalidPrime), ("InvalidRow", isv1_InvalidRow, isv2_InvalidRow), ("InvalidText", isv1_InvalidText, isv2_InvalidText), ("InvalidWord", isv1_InvalidWord, isv2_InvalidWord), ("LimitReached", isv1_LimitReached, isv2_LimitReached), ("NoQuotient", isv1_NoQuotient, isv2_NoQuotient), ("NotFinite", isv1_NotFinite, isv2_NotFinite), ("NotKnown", isv1_NotKnown, isv2_NotKnown), ("NotNow", isv1_NotNow, isv2_NotNow), ("Nothing", isv1_Nothing, isv2_Nothing), ("OtherField", isv1_OtherField, isv2_OtherField), ("OtherLetters", isv1_OtherLetters, isv2_OtherLetters), ("OutOfRange", isv1_OutOfRange, isv2_OutOfRange), ("TooLong", isv1_TooLong, isv2_TooLong), ("TooMany", isv1_TooMany, isv2_TooMany), ("TooSmall", isv1_TooSmall, isv2_TooSmall)]
theorem isv_ok (Z : FX K mg) : IsvT K isv0 := (.cons (z119 Z) (z120 Z) (z121 Z) (.cons (z116 Z) (z117 Z) (z118 Z) (.cons (z113 Z) (z114 Z) (z115 Z) (.cons (z110 Z) (z111 Z) (z112 Z) (.cons (z107 Z) (z108 Z) (z109 Z) (.cons (z104 Z) (z105 Z) (z106 Z) (.cons (z101 Z) (z102 Z) (z103 Z) (.cons (z98 Z) (z99 Z) (z100 Z) (.cons (z95 Z) (z96 Z) (z97 Z) (.cons (z92 Z) (z93 Z) (z94 Z) (.cons (z89 Z) (z90 Z) (z91 Z) (.cons (z86 Z) (z87 Z) (z88 Z) (.cons (z83 Z) (z84 Z) (z85 Z) (.cons (z80 Z) (z81 Z) (z82 Z) (.cons (z77 Z) (z78 Z) (z79 Z) (.cons (z74 Z) (z75 Z) (z76 Z) (.cons (z71 Z) (z72 Z) (z73 Z) (.cons (z68 Z) (z69 Z) (z70 Z) (.cons (z65 Z) (z66 Z) (z67 Z) (.cons (z62 Z) (z63 Z) (z64 Z) (.cons (z59 Z) (z60 Z) (z61 Z) (.cons (z56 Z) (z57 Z) (z58 Z) (.cons (z53 Z) (z54 Z) (z55 Z) (.cons (z50 Z) (z51 Z) (z52 Z) (.cons (z47 Z) (z48 Z) (z49 Z) .nil)))))))))))))))))))))))))
noncomputable def b__law_bare : DS := seqS (setS 0 (argM (lstD true) (consA (argM tupD (consA (pureM (.err "InvalidCoordinates")) (consA (cM (.str "value")) (nilA)))) (consA (argM tupD (consA (pureM (.err "OtherField")) (consA (cM (.str "value")) (nilA)))) (consA (argM tupD (consA (pureM (.err "OtherLetters")) (consA (cM (.str "value")) (nilA)))) (nilA)))))) (seqS (exprS (bmD isLstD extD (vM 0) (consA (argM (lstD false) (consA (argM tupD (consA (pureM (.err "Nothing")) (consA (cM (.str "lookup")) (nilA)))) (consA (argM tupD (consA (pureM (.err "Done")) (consA (cM (.str "lookup")) (nilA)))) (consA (argM tupD (consA (pureM (.err "NoQuotient")) (consA (cM (.str "arithmetic")) (nilA)))) (consA (argM tupD (consA (pureM (.err "NotFinite")) (consA (cM (.str "arithmetic")) (nilA)))) (nilA)))))) (nilA)))) (retS (binM addD (vM 0) (argM (lstD false) (consA (argM tupD (consA (pureM (.err "TooLong")) (consA (cM (.str "overflow")) (nilA)))) (nilA))))))
noncomputable def m__law_bare : DF := bodyM 0 [] 1 b__law_bare
theorem c__law_bare (Z : FX K mg) {f : Addr} : BodyD PP w K mg base ["_law_found"] "_law_bare" (defScope s__law_bare) f 2 (defBody s__law_bare) b__law_bare := by
  intro cdv A outer s H E hr
  have nd : (["_law_found"] : List Str).Nodup := by decide +kernel
  have tk : Takes (cxOf (L2.CX PP w) PP w K mg base ["_law_found"] "_law_bare" (defScope s__law_bare) f cdv A outer s H E) (fun c d _ H' => E c d H') := takes_of rfl rfl rfl rfl
  have hp := passes_of (X := cxOf (L2.CX PP w) PP w K mg base ["_law_found"] "_law_bare" (defScope s__law_bare) f cdv A outer s H E) rfl
  have hu := hr.rm.units
  have hu1 : _ + 1 < cLine := Nat.lt_of_le_of_lt (Nat.add_le_add_left (by decide : 1 ≤ 64) _) hu
  exact (s_cons (s_set nd rfl (by first | exact .inl rfl | exact .inr rfl) (e_lst true (a_cons (e_tup (a_cons (raise_row1 (x_InvalidCoordinates Z) fun fd h => e_err0 ⟨((z7 Z)).1, ((z7 Z)).2.1, ((z7 Z)).2.2⟩ h.1 ((hr.mono (Nat.le_of_ble_eq_true rfl) : Rm 2 _)).rm h.2 rfl (z124 Z)) (a_cons e_str a_nil))) (a_cons (e_tup (a_cons (raise_row1 (x_OtherField Z) fun fd h => e_err0 ⟨((z37 Z)).1, ((z37 Z)).2.1, ((z37 Z)).2.2⟩ h.1 ((hr.mono (Nat.le_of_ble_eq_true rfl) : Rm 2 _)).rm h.2 rfl (z123 Z)) (a_cons e_str a_nil))) (a_cons (e_tup (a_cons (raise_row1 (x_OtherLetters Z) fun fd h => e_err0 ⟨((z38 Z)).1, ((z38 Z)).2.1, ((z38 Z)).2.2⟩ h.1 ((hr.mono (Nat.le_of_ble_eq_true rfl) : Rm 2 _)).rm h.2 rfl (z122 Z)) (a_cons e_str a_nil))) a_nil)))))
    (s_cons (s_expr (e_bm PySem.F.plainAttrs_list PySem.F.slot_list_extend PySem.F.type_list_extend mt_extend ty_lst v_ext (ev 0) (a_cons (e_lst false (a_cons (e_tup (a_cons (raise_row1 (x_Nothing Z) fun fd h => e_err0 ⟨((z36 Z)).1, ((z36 Z)).2.1, ((z36 Z)).2.2⟩ h.1 ((hr.mono (Nat.le_of_ble_eq_true rfl) : Rm 2 _)).rm h.2 rfl (z128 Z)) (a_cons e_str a_nil))) (a_cons (e_tup (a_cons (raise_row1 (x_Done Z) fun fd h => e_err0 ⟨((z4 Z)).1, ((z4 Z)).2.1, ((z4 Z)).2.2⟩ h.1 ((hr.mono (Nat.le_of_ble_eq_true rfl) : Rm 2 _)).rm h.2 rfl (z127 Z)) (a_cons e_str a_nil))) (a_cons (e_tup (a_cons (raise_row1 (x_NoQuotient Z) fun fd h => e_err0 ⟨((z30 Z)).1, ((z30 Z)).2.1, ((z30 Z)).2.2⟩ h.1 ((hr.mono (Nat.le_of_ble_eq_true rfl) : Rm 2 _)).rm h.2 rfl (z126 Z)) (a_cons e_str a_nil))) (a_cons (e_tup (a_cons (raise_row1 (x_NotFinite Z) fun fd h => e_err0 ⟨((z31 Z)).1, ((z31 Z)).2.1, ((z31 Z)).2.2⟩ h.1 ((hr.mono (Nat.le_of_ble_eq_true rfl) : Rm 2 _)).rm h.2 rfl (z125 Z)) (a_cons e_str a_nil))) a_nil))))) a_nil)))
    (s_one (s_ret (e_add (ev 0) (e_lst false (a_cons (e_tup (a_cons (raise_row1 (x_TooLong Z) fun fd h => e_err0 ⟨((z42 Z)).1, ((z42 Z)).2.1, ((z42 Z)).2.2⟩ h.1 ((hr.mono (Nat.le_of_ble_eq_true rfl) : Rm 2 _)).rm h.2 rfl (z129 Z)) (a_cons e_str a_nil))) a_nil)))))))
theorem f__law_bare (Z : FX K mg) : FnD PP w K mg base 3 ((fun K => He.ga K "_law_bare") K) m__law_bare := by
  obtain ⟨fd, F0⟩ := Z.df 25 (d := d__law_bare) rfl rfl
  have F : FunD K "_law_bare" "_law_bare" (defArgs s__law_bare) (defBody s__law_bare) (defScope s__law_bare) [] [] ((fun K => He.ga K "_law_bare") K) fd := cast (by kernel_rfl) F0
  exact fn_ok0 (x := "_law_bare") (qual := "_law_bare") (params := defArgs s__law_bare) (body := defBody s__law_bare) (scope := defScope s__law_bare) (kws := []) (N := ["_law_found"]) (ps := []) (k := 2) (b := b__law_bare) F ⟨by kernel_rfl, by kernel_rfl, by kernel_rfl, by decide +kernel, by kernel_rfl, by decide +kernel, by decide +kernel⟩ (fun _ _ _ _ _ _ us hl => match us, hl with | [], _ => by kernel_rfl) (c__law_bare Z)
theorem k__law_bare (Z : FX K mg) : PySem.W.keepIn K (.ref ((fun K => He.ga K "_law_bare") K)) = true := Z.keep 25 (d := d__law_bare) rfl
noncomputable def b__law_classes : DS := seqS (setS 1 (argM (lstD true) (consA (argM (isvD isv0) (consA (vM 0) (consA (cM (.glo "InvalidPrime")) (nilA)))) (consA (argM (isvD isv0) (consA (vM 0) (consA (cM (.glo "InvalidNumber")) (nilA)))) (consA (argM (isvD isv0) (consA (vM 0) (consA (cM (.glo "InvalidLetters")) (nilA)))) (nilA)))))) (seqS (exprS (bmD isLstD extD (vM 1) (consA (argM (lstD false) (consA (argM (isvD isv0) (consA (vM 0) (consA (cM (.glo "InvalidCost")) (nilA)))) (consA (argM (isvD isv0) (consA (vM 0) (consA (cM (.glo "InvalidWord")) (nilA)))) (consA (argM (isvD isv0) (consA (vM 0) (consA (cM (.glo "InvalidCount")) (nilA)))) (nilA))))) (nilA)))) (seqS (exprS (bmD isLstD extD (vM 1) (consA (argM (lstD false) (consA (argM (isvD isv0) (consA (vM 0) (consA (cM (.glo "InvalidMachine")) (nilA)))) (consA (argM (isvD isv0) (consA (vM 0) (consA (cM (.glo "InvalidAnswer")) (nilA)))) (consA (argM (isvD isv0) (consA (vM 0) (consA (cM (.glo "InvalidRow")) (nilA)))) (nilA))))) (nilA)))) (seqS (exprS (bmD isLstD extD (vM 1) (consA (argM (lstD false) (consA (argM (isvD isv0) (consA (vM 0) (consA (cM (.glo "InvalidCoordinates")) (nilA)))) (consA (argM (isvD isv0) (consA (vM 0) (consA (cM (.glo "InvalidText")) (nilA)))) (consA (argM (isvD isv0) (consA (vM 0) (consA (cM (.glo "OtherField")) (nilA)))) (nilA))))) (nilA)))) (seqS (exprS (bmD isLstD extD (vM 1) (consA (argM (lstD false) (consA (argM (isvD isv0) (consA (vM 0) (consA (cM (.glo "OtherLetters")) (nilA)))) (consA (argM (isvD isv0) (consA (vM 0) (consA (cM (.glo "TooSmall")) (nilA)))) (consA (argM (isvD isv0) (consA (vM 0) (consA (cM (.glo "Contradiction")) (nilA)))) (nilA))))) (nilA)))) (seqS (exprS (bmD isLstD extD (vM 1) (consA (argM (lstD false) (consA (argM (isvD isv0) (consA (vM 0) (consA (cM (.glo "OutOfRange")) (nilA)))) (consA (argM (isvD isv0) (consA (vM 0) (consA (cM (.glo "NotKnown")) (nilA)))) (consA (argM (isvD isv0) (consA (vM 0) (consA (cM (.glo "NotNow")) (nilA)))) (nilA))))) (nilA)))) (seqS (exprS (bmD isLstD extD (vM 1) (consA (argM (lstD false) (consA (argM (isvD isv0) (consA (vM 0) (consA (cM (.glo "Nothing")) (nilA)))) (consA (argM (isvD isv0) (consA (vM 0) (consA (cM (.glo "Done")) (nilA)))) (consA (argM (isvD isv0) (consA (vM 0) (consA (cM (.glo "NoQuotient")) (nilA)))) (nilA))))) (nilA)))) (seqS (exprS (bmD isLstD extD (vM 1) (consA (argM (lstD false) (consA (argM (isvD isv0) (consA (vM 0) (consA (cM (.glo "NotFinite")) (nilA)))) (consA (argM (isvD isv0) (consA (vM 0) (consA (cM (.glo "TooMany")) (nilA)))) (consA (argM (isvD isv0) (consA (vM 0) (consA (cM (.glo "TooLong")) (nilA)))) (nilA))))) (nilA)))) (retS (binM addD (vM 1) (argM (lstD false) (consA (argM (isvD isv0) (consA (vM 0) (consA (cM (.glo "LimitReached")) (nilA)))) (nilA))))))))))))
noncomputable def m__law_classes : DF := bodyM 1 [] 2 b__law_classes
theorem c__law_classes (Z : FX K mg) {f : Addr} : BodyD PP w K mg base ["_law_error", "_law_found"] "_law_classes" (defScope s__law_classes) f 0 (defBody s__law_classes) b__law_classes := by
  intro cdv A outer s H E hr
  have nd : (["_law_error", "_law_found"] : List Str).Nodup := by decide +kernel
  have tk : Takes (cxOf (L2.CX PP w) PP w K mg base ["_law_error", "_law_found"] "_law_classes" (defScope s__law_classes) f cdv A outer s H E) (fun c d _ H' => E c d H') := takes_of rfl rfl rfl rfl
  have hp := passes_of (X := cxOf (L2.CX PP w) PP w K mg base ["_law_error", "_law_found"] "_law_classes" (defScope s__law_classes) f cdv A outer s H E) rfl
  have hu := hr.rm.units
  have hu1 : _ + 1 < cLine := Nat.lt_of_le_of_lt (Nat.add_le_add_left (by decide : 1 ≤ 64) _) hu
  exact (s_cons (s_set nd rfl (by first | exact .inl rfl | exact .inr rfl) (e_lst true (a_cons (e_callB call_isV (v_isv (isv_ok Z)) rfl (z131 Z) (by decide +kernel) (a_cons (ev 0) (a_cons (e_glo rfl (z133 Z)) a_nil))) (a_cons (e_callB call_isV (v_isv (isv_ok Z)) rfl (z131 Z) (by decide +kernel) (a_cons (ev 0) (a_cons (e_glo rfl (z132 Z)) a_nil))) (a_cons (e_callB call_isV (v_isv (isv_ok Z)) rfl (z131 Z) (by decide +kernel) (a_cons (ev 0) (a_cons (e_glo rfl (z130 Z)) a_nil))) a_nil)))))
    (s_cons (s_expr (e_bm PySem.F.plainAttrs_list PySem.F.slot_list_extend PySem.F.type_list_extend mt_extend ty_lst v_ext (ev 1) (a_cons (e_lst false (a_cons (e_callB call_isV (v_isv (isv_ok Z)) rfl (z131 Z) (by decide +kernel) (a_cons (ev 0) (a_cons (e_glo rfl (z136 Z)) a_nil))) (a_cons (e_callB call_isV (v_isv (isv_ok Z)) rfl (z131 Z) (by decide +kernel) (a_cons (ev 0) (a_cons (e_glo rfl (z135 Z)) a_nil))) (a_cons (e_callB call_isV (v_isv (isv_ok Z)) rfl (z131 Z) (by decide +kernel) (a_cons (ev 0) (a_cons (e_glo rfl (z134 Z)) a_nil))) a_nil)))) a_nil)))
    (s_cons (s_expr (e_bm PySem.F.plainAttrs_list PySem.F.slot_list_extend PySem.F.type_list_extend mt_extend ty_lst v_ext (ev 1) (a_cons (e_lst false (a_cons (e_callB call_isV (v_isv (isv_ok Z)) rfl (z131 Z) (by decide +kernel) (a_cons (ev 0) (a_cons (e_glo rfl (z139 Z)) a_nil))) (a_cons (e_callB call_isV (v_isv (isv_ok Z)) rfl (z131 Z) (by decide +kernel) (a_cons (ev 0) (a_cons (e_glo rfl (z138 Z)) a_nil))) (a_cons (e_callB call_isV (v_isv (isv_ok Z)) rfl (z131 Z) (by decide +kernel) (a_cons (ev 0) (a_cons (e_glo rfl (z137 Z)) a_nil))) a_nil)))) a_nil)))
    (s_cons (s_expr (e_bm PySem.F.plainAttrs_list PySem.F.slot_list_extend PySem.F.type_list_extend mt_extend ty_lst v_ext (ev 1) (a_cons (e_lst false (a_cons (e_callB call_isV (v_isv (isv_ok Z)) rfl (z131 Z) (by decide +kernel) (a_cons (ev 0) (a_cons (e_glo rfl (z124 Z)) a_nil))) (a_cons (e_callB call_isV (v_isv (isv_ok Z)) rfl (z131 Z) (by decide +kernel) (a_cons (ev 0) (a_cons (e_glo rfl (z140 Z)) a_nil))) (a_cons (e_callB call_isV (v_isv (isv_ok Z)) rfl (z131 Z) (by decide +kernel) (a_cons (ev 0) (a_cons (e_glo rfl (z123 Z)) a_nil))) a_nil)))) a_nil)))
    (s_cons (s_expr (e_bm PySem.F.plainAttrs_list PySem.F.slot_list_extend PySem.F.type_list_extend mt_extend ty_lst v_ext (ev 1) (a_cons (e_lst false (a_cons (e_callB call_isV (v_isv (isv_ok Z)) rfl (z131 Z) (by decide +kernel) (a_cons (ev 0) (a_cons (e_glo rfl (z122 Z)) a_nil))) (a_cons (e_callB call_isV (v_isv (isv_ok Z)) rfl (z131 Z) (by decide +kernel) (a_cons (ev 0) (a_cons (e_glo rfl (z142 Z)) a_nil))) (a_cons (e_callB call_isV (v_isv (isv_ok Z)) rfl (z131 Z) (by decide +kernel) (a_cons (ev 0) (a_cons (e_glo rfl (z141 Z)) a_nil))) a_nil)))) a_nil)))
    (s_cons (s_expr (e_bm PySem.F.plainAttrs_list PySem.F.slot_list_extend PySem.F.type_list_extend mt_extend ty_lst v_ext (ev 1) (a_cons (e_lst false (a_cons (e_callB call_isV (v_isv (isv_ok Z)) rfl (z131 Z) (by decide +kernel) (a_cons (ev 0) (a_cons (e_glo rfl (z145 Z)) a_nil))) (a_cons (e_callB call_isV (v_isv (isv_ok Z)) rfl (z131 Z) (by decide +kernel) (a_cons (ev 0) (a_cons (e_glo rfl (z144 Z)) a_nil))) (a_cons (e_callB call_isV (v_isv (isv_ok Z)) rfl (z131 Z) (by decide +kernel) (a_cons (ev 0) (a_cons (e_glo rfl (z143 Z)) a_nil))) a_nil)))) a_nil)))
    (s_cons (s_expr (e_bm PySem.F.plainAttrs_list PySem.F.slot_list_extend PySem.F.type_list_extend mt_extend ty_lst v_ext (ev 1) (a_cons (e_lst false (a_cons (e_callB call_isV (v_isv (isv_ok Z)) rfl (z131 Z) (by decide +kernel) (a_cons (ev 0) (a_cons (e_glo rfl (z128 Z)) a_nil))) (a_cons (e_callB call_isV (v_isv (isv_ok Z)) rfl (z131 Z) (by decide +kernel) (a_cons (ev 0) (a_cons (e_glo rfl (z127 Z)) a_nil))) (a_cons (e_callB call_isV (v_isv (isv_ok Z)) rfl (z131 Z) (by decide +kernel) (a_cons (ev 0) (a_cons (e_glo rfl (z126 Z)) a_nil))) a_nil)))) a_nil)))
    (s_cons (s_expr (e_bm PySem.F.plainAttrs_list PySem.F.slot_list_extend PySem.F.type_list_extend mt_extend ty_lst v_ext (ev 1) (a_cons (e_lst false (a_cons (e_callB call_isV (v_isv (isv_ok Z)) rfl (z131 Z) (by decide +kernel) (a_cons (ev 0) (a_cons (e_glo rfl (z125 Z)) a_nil))) (a_cons (e_callB call_isV (v_isv (isv_ok Z)) rfl (z131 Z) (by decide +kernel) (a_cons (ev 0) (a_cons (e_glo rfl (z146 Z)) a_nil))) (a_cons (e_callB call_isV (v_isv (isv_ok Z)) rfl (z131 Z) (by decide +kernel) (a_cons (ev 0) (a_cons (e_glo rfl (z129 Z)) a_nil))) a_nil)))) a_nil)))
    (s_one (s_ret (e_add (ev 1) (e_lst false (a_cons (e_callB call_isV (v_isv (isv_ok Z)) rfl (z131 Z) (by decide +kernel) (a_cons (ev 0) (a_cons (e_glo rfl (z147 Z)) a_nil))) a_nil)))))))))))))
theorem f__law_classes (Z : FX K mg) : FnD PP w K mg base 1 ((fun K => He.ga K "_law_classes") K) m__law_classes := by
  obtain ⟨fd, F0⟩ := Z.df 26 (d := d__law_classes) rfl rfl
  have F : FunD K "_law_classes" "_law_classes" (defArgs s__law_classes) (defBody s__law_classes) (defScope s__law_classes) [] [] ((fun K => He.ga K "_law_classes") K) fd := cast (by kernel_rfl) F0
  exact fn_ok0 (x := "_law_classes") (qual := "_law_classes") (params := defArgs s__law_classes) (body := defBody s__law_classes) (scope := defScope s__law_classes) (kws := []) (N := ["_law_error", "_law_found"]) (ps := ["_law_error"]) (k := 0) (b := b__law_classes) F ⟨by kernel_rfl, by kernel_rfl, by kernel_rfl, by decide +kernel, by kernel_rfl, by decide +kernel, by decide +kernel⟩ (fun _ _ _ _ _ _ us hl => match us, hl with | [_], _ => by kernel_rfl) (c__law_classes Z)
theorem k__law_classes (Z : FX K mg) : PySem.W.keepIn K (.ref ((fun K => He.ga K "_law_classes") K)) = true := Z.keep 26 (d := d__law_classes) rfl
noncomputable def b__law_draw : DS := seqS (ifS (blM (binM gtI (binM idxD (vM 0) (cM (.str "left"))) (cM (.int 0)))) (seqS (setS 6 (binM modD (argM (intD) (consA (binM idxD (vM 0) (cM (.str "left"))) (nilA))) (vM 1))) (seqS (subS (vM 0) (cM (.str "left")) (binM divD (binM idxD (vM 0) (cM (.str "left"))) (vM 1))) (retS (vM 6)))) (skipS)) (seqS (setS 2 (binM idxD (vM 0) (cM (.str "begun")))) (seqS (subS (vM 0) (cM (.str "begun")) (binM addD (vM 2) (cM (.int 1)))) (seqS (setS 3 (binM addD (binM mulD (cM (.int 53)) (vM 2)) (cM (.int 17)))) (seqS (ifS (blM (binM neD (binM idxD (vM 0) (cM (.str "cells"))) (argM (lstD false) (nilA)))) (setS 3 (binM idxD (binM idxD (vM 0) (cM (.str "cells"))) (binM modD (argM (intD) (consA (vM 2) (nilA))) (argM (lenD) (consA (binM idxD (vM 0) (cM (.str "cells"))) (nilA)))))) (skipS)) (seqS (ifS (andT (blM (binM ltI (vM 2) (argM (lenD) (consA (binM idxD (vM 0) (cM (.str "cells"))) (nilA))))) (blM (binM geI (argM (absD) (consA (vM 3) (nilA))) (binM powD (cM (.int 10)) (cM (.int 18)))))) (seqS (subS (vM 0) (cM (.str "left")) (binM divD (binM subD (argM (absD) (consA (vM 3) (nilA))) (binM powD (cM (.int 10)) (cM (.int 18)))) (vM 1))) (retS (binM modD (argM (intD) (consA (binM subD (argM (absD) (consA (vM 3) (nilA))) (binM powD (cM (.int 10)) (cM (.int 18)))) (nilA))) (vM 1)))) (skipS)) (seqS (setS 4 (binM mulD (binM modD (argM (intD) (consA (vM 3) (nilA))) (cM (.int 4294967197))) (cM (.int 48673)))) (seqS (setS 5 (binM modD (argM (intD) (consA (binM addD (binM addD (vM 4) (binM mulD (vM 2) (binM addD (binM mulD (cM (.int 40009)) (vM 2)) (cM (.int 1511))))) (cM (.int 331))) (nilA))) (cM (.int 4294967189)))) (seqS (setS 5 (binM modD (argM (intD) (consA (binM addD (binM addD (binM addD (binM mulD (vM 5) (vM 5)) (binM mulD (cM (.int 75629)) (vM 5))) (binM mulD (cM (.int 19)) (vM 2))) (cM (.int 7))) (nilA))) (cM (.int 4294967161)))) (retS (binM modD (argM (intD) (consA (binM divD (binM modD (argM (intD) (consA (binM mulD (vM 5) (binM addD (vM 5) (cM (.int 52361)))) (nilA))) (cM (.int 4294967143))) (cM (.int 64))) (nilA))) (vM 1)))))))))))
noncomputable def m__law_draw : DF := bodyM 2 [] 7 b__law_draw
theorem c__law_draw (Z : FX K mg) {f : Addr} : BodyD PP w K mg base ["_law_pen_here", "_law_many", "_law_place", "_law_cell", "_law_mixed", "_law_drawn", "_law_digit"] "_law_draw" (defScope s__law_draw) f 0 (defBody s__law_draw) b__law_draw := by
  intro cdv A outer s H E hr
  have nd : (["_law_pen_here", "_law_many", "_law_place", "_law_cell", "_law_mixed", "_law_drawn", "_law_digit"] : List Str).Nodup := by decide +kernel
  have tk : Takes (cxOf (L2.CX PP w) PP w K mg base ["_law_pen_here", "_law_many", "_law_place", "_law_cell", "_law_mixed", "_law_drawn", "_law_digit"] "_law_draw" (defScope s__law_draw) f cdv A outer s H E) (fun c d _ H' => E c d H') := takes_of rfl rfl rfl rfl
  have hp := passes_of (X := cxOf (L2.CX PP w) PP w K mg base ["_law_pen_here", "_law_many", "_law_place", "_law_cell", "_law_mixed", "_law_drawn", "_law_digit"] "_law_draw" (defScope s__law_draw) f cdv A outer s H E) rfl
  have hu := hr.rm.units
  have hu1 : _ + 1 < cLine := Nat.lt_of_le_of_lt (Nat.add_le_add_left (by decide : 1 ≤ 64) _) hu
  exact (s_cons (s_if (t_gt (e_idx hu1 (ev 0) e_str) e_int) (s_cons (s_set nd rfl (by first | exact .inl rfl | exact .inr rfl) (e_mod (e_callTy call_int1 v_int rfl (z148 Z) (by decide +kernel) (a_cons (e_idx hu1 (ev 0) e_str) a_nil)) (ev 1)))
    (s_cons (s_sub hu1 (ev 0) e_str (e_div (e_idx hu1 (ev 0) e_str) (ev 1)))
    (s_one (s_ret (ev 6))))) s_nil)
    (s_cons (s_set nd rfl (by first | exact .inl rfl | exact .inr rfl) (e_idx hu1 (ev 0) e_str))
    (s_cons (s_sub hu1 (ev 0) e_str (e_add (ev 2) e_int))
    (s_cons (s_set nd rfl (by first | exact .inl rfl | exact .inr rfl) (e_add (e_mul e_int (ev 2)) e_int))
    (s_cons (s_if (t_ne hu (e_idx hu1 (ev 0) e_str) (e_lst false a_nil)) (s_one (s_set nd rfl (by first | exact .inl rfl | exact .inr rfl) (e_idx hu1 (e_idx hu1 (ev 0) e_str) (e_mod (e_callTy call_int1 v_int rfl (z148 Z) (by decide +kernel) (a_cons (ev 2) a_nil)) (e_callB call_len v_len rfl (z149 Z) (by decide +kernel) (a_cons (e_idx hu1 (ev 0) e_str) a_nil)))))) s_nil)
    (s_cons (s_if (PW.pt (w_and (t_lt (ev 2) (e_callB call_len v_len rfl (z149 Z) (by decide +kernel) (a_cons (e_idx hu1 (ev 0) e_str) a_nil))) (w_and1 (t_ge (e_callB call_abs v_abs rfl (z150 Z) (by decide +kernel) (a_cons (ev 3) a_nil)) (e_pow e_int e_int))))) (s_cons (s_sub hu1 (ev 0) e_str (e_div (e_sub (e_callB call_abs v_abs rfl (z150 Z) (by decide +kernel) (a_cons (ev 3) a_nil)) (e_pow e_int e_int)) (ev 1)))
    (s_one (s_ret (e_mod (e_callTy call_int1 v_int rfl (z148 Z) (by decide +kernel) (a_cons (e_sub (e_callB call_abs v_abs rfl (z150 Z) (by decide +kernel) (a_cons (ev 3) a_nil)) (e_pow e_int e_int)) a_nil)) (ev 1))))) s_nil)
    (s_cons (s_set nd rfl (by first | exact .inl rfl | exact .inr rfl) (e_mul (e_mod (e_callTy call_int1 v_int rfl (z148 Z) (by decide +kernel) (a_cons (ev 3) a_nil)) e_int) e_int))
    (s_cons (s_set nd rfl (by first | exact .inl rfl | exact .inr rfl) (e_mod (e_callTy call_int1 v_int rfl (z148 Z) (by decide +kernel) (a_cons (e_add (e_add (ev 4) (e_mul (ev 2) (e_add (e_mul e_int (ev 2)) e_int))) e_int) a_nil)) e_int))
    (s_cons (s_set nd rfl (by first | exact .inl rfl | exact .inr rfl) (e_mod (e_callTy call_int1 v_int rfl (z148 Z) (by decide +kernel) (a_cons (e_add (e_add (e_add (e_mul (ev 5) (ev 5)) (e_mul e_int (ev 5))) (e_mul e_int (ev 2))) e_int) a_nil)) e_int))
    (s_one (s_ret (e_mod (e_callTy call_int1 v_int rfl (z148 Z) (by decide +kernel) (a_cons (e_div (e_mod (e_callTy call_int1 v_int rfl (z148 Z) (by decide +kernel) (a_cons (e_mul (ev 5) (e_add (ev 5) e_int)) a_nil)) e_int) e_int) a_nil)) (ev 1)))))))))))))
theorem f__law_draw (Z : FX K mg) : FnD PP w K mg base 1 ((fun K => He.ga K "_law_draw") K) m__law_draw := by
  obtain ⟨fd, F0⟩ := Z.df 27 (d := d__law_draw) rfl rfl
  have F : FunD K "_law_draw" "_law_draw" (defArgs s__law_draw) (defBody s__law_draw) (defScope s__law_draw) [] [] ((fun K => He.ga K "_law_draw") K) fd := cast (by kernel_rfl) F0
  exact fn_ok0 (x := "_law_draw") (qual := "_law_draw") (params := defArgs s__law_draw) (body := defBody s__law_draw) (scope := defScope s__law_draw) (kws := []) (N := ["_law_pen_here", "_law_many", "_law_place", "_law_cell", "_law_mixed", "_law_drawn", "_law_digit"]) (ps := ["_law_pen_here", "_law_many"]) (k := 0) (b := b__law_draw) F ⟨by kernel_rfl, by kernel_rfl, by kernel_rfl, by decide +kernel, by kernel_rfl, by decide +kernel, by decide +kernel⟩ (fun _ _ _ _ _ _ us hl => match us, hl with | [_, _], _ => by kernel_rfl) (c__law_draw Z)
theorem k__law_draw (Z : FX K mg) : PySem.W.keepIn K (.ref ((fun K => He.ga K "_law_draw") K)) = true := Z.keep 27 (d := d__law_draw) rfl
noncomputable def b__law_filled : DS := seqS (setS 1 (argM (lstD true) (nilA))) (seqS (exprS (bmD isLstD appD (vM 1) (consA (argM tupD (consA (errM "InvalidPrime" (consA (vM 0) (nilA))) (consA (errFM (consA (vM 0) (nilA))) (consA (errFM (consA (vM 0) (nilA))) (consA (cM (.str "value")) (nilA)))))) (nilA)))) (seqS (exprS (bmD isLstD appD (vM 1) (consA (argM tupD (consA (errM "InvalidNumber" (consA (vM 0) (nilA))) (consA (errFM (consA (vM 0) (nilA))) (consA (errFM (consA (vM 0) (nilA))) (consA (cM (.str "value")) (nilA)))))) (nilA)))) (seqS (exprS (bmD isLstD appD (vM 1) (consA (argM tupD (consA (errM "InvalidLetters" (consA (vM 0) (nilA))) (consA (errFM (consA (vM 0) (nilA))) (consA (errFM (consA (vM 0) (nilA))) (consA (cM (.str "value")) (nilA)))))) (nilA)))) (seqS (exprS (bmD isLstD appD (vM 1) (consA (argM tupD (consA (errM "InvalidCost" (consA (vM 0) (nilA))) (consA (errFM (consA (vM 0) (nilA))) (consA (errFM (consA (vM 0) (nilA))) (consA (cM (.str "value")) (nilA)))))) (nilA)))) (seqS (exprS (bmD isLstD appD (vM 1) (consA (argM tupD (consA (errM "InvalidWord" (consA (vM 0) (nilA))) (consA (errFM (consA (vM 0) (nilA))) (consA (errFM (consA (vM 0) (nilA))) (consA (cM (.str "value")) (nilA)))))) (nilA)))) (seqS (exprS (bmD isLstD appD (vM 1) (consA (argM tupD (consA (errM "InvalidCount" (consA (vM 0) (nilA))) (consA (errFM (consA (vM 0) (nilA))) (consA (errFM (consA (vM 0) (nilA))) (consA (cM (.str "value")) (nilA)))))) (nilA)))) (seqS (exprS (bmD isLstD appD (vM 1) (consA (argM tupD (consA (errM "InvalidMachine" (consA (vM 0) (nilA))) (consA (errFM (consA (vM 0) (nilA))) (consA (errFM (consA (vM 0) (nilA))) (consA (cM (.str "value")) (nilA)))))) (nilA)))) (seqS (exprS (bmD isLstD appD (vM 1) (consA (argM tupD (consA (errM "InvalidAnswer" (consA (vM 0) (nilA))) (consA (errFM (consA (vM 0) (nilA))) (consA (errFM (consA (vM 0) (nilA))) (consA (cM (.str "value")) (nilA)))))) (nilA)))) (seqS (exprS (bmD isLstD appD (vM 1) (consA (argM tupD (consA (errM "InvalidText" (consA (vM 0) (nilA))) (consA (errFM (consA (vM 0) (nilA))) (consA (errFM (consA (vM 0) (nilA))) (consA (cM (.str "value")) (nilA)))))) (nilA)))) (seqS (exprS (bmD isLstD appD (vM 1) (consA (argM tupD (consA (errM "InvalidRow" (consA (vM 0) (nilA))) (consA (errFM (consA (vM 0) (nilA))) (consA (errFM (consA (vM 0) (nilA))) (consA (cM (.str "value")) (nilA)))))) (nilA)))) (seqS (exprS (bmD isLstD appD (vM 1) (consA (argM tupD (consA (errM "TooSmall" (consA (vM 0) (nilA))) (consA (errFM (consA (vM 0) (nilA))) (consA (errFM (consA (vM 0) (nilA))) (consA (cM (.str "value")) (nilA)))))) (nilA)))) (seqS (exprS (bmD isLstD appD (vM 1) (consA (argM tupD (consA (errM "Contradiction" (consA (vM 0) (nilA))) (consA (errFM (consA (vM 0) (nilA))) (consA (errFM (consA (vM 0) (nilA))) (consA (cM (.str "value")) (nilA)))))) (nilA)))) (seqS (exprS (bmD isLstD appD (vM 1) (consA (argM tupD (consA (errM "OutOfRange" (consA (vM 0) (nilA))) (consA (errFM (consA (vM 0) (nilA))) (consA (errFM (consA (vM 0) (nilA))) (consA (cM (.str "lookup")) (nilA)))))) (nilA)))) (seqS (exprS (bmD isLstD appD (vM 1) (consA (argM tupD (consA (errM "NotKnown" (consA (vM 0) (nilA))) (consA (errFM (consA (vM 0) (nilA))) (consA (errFM (consA (vM 0) (nilA))) (consA (cM (.str "lookup")) (nilA)))))) (nilA)))) (seqS (exprS (bmD isLstD appD (vM 1) (consA (argM tupD (consA (errM "NotNow" (consA (vM 0) (nilA))) (consA (errFM (consA (vM 0) (nilA))) (consA (errFM (consA (vM 0) (nilA))) (consA (cM (.str "lookup")) (nilA)))))) (nilA)))) (seqS (exprS (bmD isLstD appD (vM 1) (consA (argM tupD (consA (errM "TooMany" (consA (vM 0) (nilA))) (consA (errFM (consA (vM 0) (nilA))) (consA (errFM (consA (vM 0) (nilA))) (consA (cM (.str "overflow")) (nilA)))))) (nilA)))) (seqS (exprS (bmD isLstD appD (vM 1) (consA (argM tupD (consA (errM "LimitReached" (consA (vM 0) (nilA))) (consA (errFM (consA (vM 0) (nilA))) (consA (errFM (consA (vM 0) (nilA))) (consA (cM (.str "runtime")) (nilA)))))) (nilA)))) (retS (vM 1)))))))))))))))))))
noncomputable def m__law_filled : DF := bodyM 1 [] 2 b__law_filled
theorem c__law_filled (Z : FX K mg) {f : Addr} : BodyD PP w K mg base ["_law_thing", "_law_found"] "_law_filled" (defScope s__law_filled) f 2 (defBody s__law_filled) b__law_filled := by
  intro cdv A outer s H E hr
  have nd : (["_law_thing", "_law_found"] : List Str).Nodup := by decide +kernel
  have tk : Takes (cxOf (L2.CX PP w) PP w K mg base ["_law_thing", "_law_found"] "_law_filled" (defScope s__law_filled) f cdv A outer s H E) (fun c d _ H' => E c d H') := takes_of rfl rfl rfl rfl
  have hp := passes_of (X := cxOf (L2.CX PP w) PP w K mg base ["_law_thing", "_law_found"] "_law_filled" (defScope s__law_filled) f cdv A outer s H E) rfl
  have hu := hr.rm.units
  have hu1 : _ + 1 < cLine := Nat.lt_of_le_of_lt (Nat.add_le_add_left (by decide : 1 ≤ 64) _) hu
  exact (s_cons (s_set nd rfl (by first | exact .inl rfl | exact .inr rfl) (e_lst true a_nil))
    (s_cons (s_expr (e_bm PySem.F.plainAttrs_list PySem.F.slot_list_append PySem.F.type_list_append mt_append ty_lst v_app (ev 1) (a_cons (e_tup (a_cons (raise_row1 (xk_InvalidPrime Z) fun fd h => e_err1 ⟨((z18 Z)).1, ((z18 Z)).2.1, ((z18 Z)).2.2⟩ h.1 ((hr.mono (Nat.le_of_ble_eq_true rfl) : Rm 2 _)).rm h.2.1 rfl (z133 Z) (a_cons (ev 0) a_nil)) (a_cons (raise_row1 (xk_InvalidPrime Z) fun fd h => e_errFk ⟨((z18 Z)).1, ((z18 Z)).2.1, ((z18 Z)).2.2⟩ h.1 ((hr.mono (Nat.le_of_ble_eq_true rfl) : Rm 2 _)).rm h.2.2 (by rfl) (z133 Z) (xf_of (z92 Z)) (z19 Z) (ka_cons (ev 0) ka_nil)) (a_cons (raise_row1 (xk_InvalidPrime Z) fun fd h => e_errF ⟨((z18 Z)).1, ((z18 Z)).2.1, ((z18 Z)).2.2⟩ h.1 ((hr.mono (Nat.le_of_ble_eq_true rfl) : Rm 2 _)).rm h.2.1 rfl (z133 Z) (xf_of (z92 Z)) (z19 Z) (a_cons (ev 0) a_nil)) (a_cons e_str a_nil))))) a_nil)))
    (s_cons (s_expr (e_bm PySem.F.plainAttrs_list PySem.F.slot_list_append PySem.F.type_list_append mt_append ty_lst v_app (ev 1) (a_cons (e_tup (a_cons (raise_row1 (xk_InvalidNumber Z) fun fd h => e_err1 ⟨((z16 Z)).1, ((z16 Z)).2.1, ((z16 Z)).2.2⟩ h.1 ((hr.mono (Nat.le_of_ble_eq_true rfl) : Rm 2 _)).rm h.2.1 rfl (z132 Z) (a_cons (ev 0) a_nil)) (a_cons (raise_row1 (xk_InvalidNumber Z) fun fd h => e_errFk ⟨((z16 Z)).1, ((z16 Z)).2.1, ((z16 Z)).2.2⟩ h.1 ((hr.mono (Nat.le_of_ble_eq_true rfl) : Rm 2 _)).rm h.2.2 (by rfl) (z132 Z) (xf_of (z95 Z)) (z17 Z) (ka_cons (ev 0) ka_nil)) (a_cons (raise_row1 (xk_InvalidNumber Z) fun fd h => e_errF ⟨((z16 Z)).1, ((z16 Z)).2.1, ((z16 Z)).2.2⟩ h.1 ((hr.mono (Nat.le_of_ble_eq_true rfl) : Rm 2 _)).rm h.2.1 rfl (z132 Z) (xf_of (z95 Z)) (z17 Z) (a_cons (ev 0) a_nil)) (a_cons e_str a_nil))))) a_nil)))
    (s_cons (s_expr (e_bm PySem.F.plainAttrs_list PySem.F.slot_list_append PySem.F.type_list_append mt_append ty_lst v_app (ev 1) (a_cons (e_tup (a_cons (raise_row1 (xk_InvalidLetters Z) fun fd h => e_err1 ⟨((z12 Z)).1, ((z12 Z)).2.1, ((z12 Z)).2.2⟩ h.1 ((hr.mono (Nat.le_of_ble_eq_true rfl) : Rm 2 _)).rm h.2.1 rfl (z130 Z) (a_cons (ev 0) a_nil)) (a_cons (raise_row1 (xk_InvalidLetters Z) fun fd h => e_errFk ⟨((z12 Z)).1, ((z12 Z)).2.1, ((z12 Z)).2.2⟩ h.1 ((hr.mono (Nat.le_of_ble_eq_true rfl) : Rm 2 _)).rm h.2.2 (by rfl) (z130 Z) (xf_of (z101 Z)) (z13 Z) (ka_cons (ev 0) ka_nil)) (a_cons (raise_row1 (xk_InvalidLetters Z) fun fd h => e_errF ⟨((z12 Z)).1, ((z12 Z)).2.1, ((z12 Z)).2.2⟩ h.1 ((hr.mono (Nat.le_of_ble_eq_true rfl) : Rm 2 _)).rm h.2.1 rfl (z130 Z) (xf_of (z101 Z)) (z13 Z) (a_cons (ev 0) a_nil)) (a_cons e_str a_nil))))) a_nil)))
    (s_cons (s_expr (e_bm PySem.F.plainAttrs_list PySem.F.slot_list_append PySem.F.type_list_append mt_append ty_lst v_app (ev 1) (a_cons (e_tup (a_cons (raise_row1 (xk_InvalidCost Z) fun fd h => e_err1 ⟨((z8 Z)).1, ((z8 Z)).2.1, ((z8 Z)).2.2⟩ h.1 ((hr.mono (Nat.le_of_ble_eq_true rfl) : Rm 2 _)).rm h.2.1 rfl (z136 Z) (a_cons (ev 0) a_nil)) (a_cons (raise_row1 (xk_InvalidCost Z) fun fd h => e_errFk ⟨((z8 Z)).1, ((z8 Z)).2.1, ((z8 Z)).2.2⟩ h.1 ((hr.mono (Nat.le_of_ble_eq_true rfl) : Rm 2 _)).rm h.2.2 (by rfl) (z136 Z) (xf_of (z107 Z)) (z9 Z) (ka_cons (ev 0) ka_nil)) (a_cons (raise_row1 (xk_InvalidCost Z) fun fd h => e_errF ⟨((z8 Z)).1, ((z8 Z)).2.1, ((z8 Z)).2.2⟩ h.1 ((hr.mono (Nat.le_of_ble_eq_true rfl) : Rm 2 _)).rm h.2.1 rfl (z136 Z) (xf_of (z107 Z)) (z9 Z) (a_cons (ev 0) a_nil)) (a_cons e_str a_nil))))) a_nil)))
    (s_cons (s_expr (e_bm PySem.F.plainAttrs_list PySem.F.slot_list_append PySem.F.type_list_append mt_append ty_lst v_app (ev 1) (a_cons (e_tup (a_cons (raise_row1 (xk_InvalidWord Z) fun fd h => e_err1 ⟨((z24 Z)).1, ((z24 Z)).2.1, ((z24 Z)).2.2⟩ h.1 ((hr.mono (Nat.le_of_ble_eq_true rfl) : Rm 2 _)).rm h.2.1 rfl (z135 Z) (a_cons (ev 0) a_nil)) (a_cons (raise_row1 (xk_InvalidWord Z) fun fd h => e_errFk ⟨((z24 Z)).1, ((z24 Z)).2.1, ((z24 Z)).2.2⟩ h.1 ((hr.mono (Nat.le_of_ble_eq_true rfl) : Rm 2 _)).rm h.2.2 (by rfl) (z135 Z) (xf_of (z83 Z)) (z25 Z) (ka_cons (ev 0) ka_nil)) (a_cons (raise_row1 (xk_InvalidWord Z) fun fd h => e_errF ⟨((z24 Z)).1, ((z24 Z)).2.1, ((z24 Z)).2.2⟩ h.1 ((hr.mono (Nat.le_of_ble_eq_true rfl) : Rm 2 _)).rm h.2.1 rfl (z135 Z) (xf_of (z83 Z)) (z25 Z) (a_cons (ev 0) a_nil)) (a_cons e_str a_nil))))) a_nil)))
    (s_cons (s_expr (e_bm PySem.F.plainAttrs_list PySem.F.slot_list_append PySem.F.type_list_append mt_append ty_lst v_app (ev 1) (a_cons (e_tup (a_cons (raise_row1 (xk_InvalidCount Z) fun fd h => e_err1 ⟨((z10 Z)).1, ((z10 Z)).2.1, ((z10 Z)).2.2⟩ h.1 ((hr.mono (Nat.le_of_ble_eq_true rfl) : Rm 2 _)).rm h.2.1 rfl (z134 Z) (a_cons (ev 0) a_nil)) (a_cons (raise_row1 (xk_InvalidCount Z) fun fd h => e_errFk ⟨((z10 Z)).1, ((z10 Z)).2.1, ((z10 Z)).2.2⟩ h.1 ((hr.mono (Nat.le_of_ble_eq_true rfl) : Rm 2 _)).rm h.2.2 (by rfl) (z134 Z) (xf_of (z104 Z)) (z11 Z) (ka_cons (ev 0) ka_nil)) (a_cons (raise_row1 (xk_InvalidCount Z) fun fd h => e_errF ⟨((z10 Z)).1, ((z10 Z)).2.1, ((z10 Z)).2.2⟩ h.1 ((hr.mono (Nat.le_of_ble_eq_true rfl) : Rm 2 _)).rm h.2.1 rfl (z134 Z) (xf_of (z104 Z)) (z11 Z) (a_cons (ev 0) a_nil)) (a_cons e_str a_nil))))) a_nil)))
    (s_cons (s_expr (e_bm PySem.F.plainAttrs_list PySem.F.slot_list_append PySem.F.type_list_append mt_append ty_lst v_app (ev 1) (a_cons (e_tup (a_cons (raise_row1 (xk_InvalidMachine Z) fun fd h => e_err1 ⟨((z14 Z)).1, ((z14 Z)).2.1, ((z14 Z)).2.2⟩ h.1 ((hr.mono (Nat.le_of_ble_eq_true rfl) : Rm 2 _)).rm h.2.1 rfl (z139 Z) (a_cons (ev 0) a_nil)) (a_cons (raise_row1 (xk_InvalidMachine Z) fun fd h => e_errFk ⟨((z14 Z)).1, ((z14 Z)).2.1, ((z14 Z)).2.2⟩ h.1 ((hr.mono (Nat.le_of_ble_eq_true rfl) : Rm 2 _)).rm h.2.2 (by rfl) (z139 Z) (xf_of (z98 Z)) (z15 Z) (ka_cons (ev 0) ka_nil)) (a_cons (raise_row1 (xk_InvalidMachine Z) fun fd h => e_errF ⟨((z14 Z)).1, ((z14 Z)).2.1, ((z14 Z)).2.2⟩ h.1 ((hr.mono (Nat.le_of_ble_eq_true rfl) : Rm 2 _)).rm h.2.1 rfl (z139 Z) (xf_of (z98 Z)) (z15 Z) (a_cons (ev 0) a_nil)) (a_cons e_str a_nil))))) a_nil)))
    (s_cons (s_expr (e_bm PySem.F.plainAttrs_list PySem.F.slot_list_append PySem.F.type_list_append mt_append ty_lst v_app (ev 1) (a_cons (e_tup (a_cons (raise_row1 (xk_InvalidAnswer Z) fun fd h => e_err1 ⟨((z5 Z)).1, ((z5 Z)).2.1, ((z5 Z)).2.2⟩ h.1 ((hr.mono (Nat.le_of_ble_eq_true rfl) : Rm 2 _)).rm h.2.1 rfl (z138 Z) (a_cons (ev 0) a_nil)) (a_cons (raise_row1 (xk_InvalidAnswer Z) fun fd h => e_errFk ⟨((z5 Z)).1, ((z5 Z)).2.1, ((z5 Z)).2.2⟩ h.1 ((hr.mono (Nat.le_of_ble_eq_true rfl) : Rm 2 _)).rm h.2.2 (by rfl) (z138 Z) (xf_of (z113 Z)) (z6 Z) (ka_cons (ev 0) ka_nil)) (a_cons (raise_row1 (xk_InvalidAnswer Z) fun fd h => e_errF ⟨((z5 Z)).1, ((z5 Z)).2.1, ((z5 Z)).2.2⟩ h.1 ((hr.mono (Nat.le_of_ble_eq_true rfl) : Rm 2 _)).rm h.2.1 rfl (z138 Z) (xf_of (z113 Z)) (z6 Z) (a_cons (ev 0) a_nil)) (a_cons e_str a_nil))))) a_nil)))
    (s_cons (s_expr (e_bm PySem.F.plainAttrs_list PySem.F.slot_list_append PySem.F.type_list_append mt_append ty_lst v_app (ev 1) (a_cons (e_tup (a_cons (raise_row1 (xk_InvalidText Z) fun fd h => e_err1 ⟨((z22 Z)).1, ((z22 Z)).2.1, ((z22 Z)).2.2⟩ h.1 ((hr.mono (Nat.le_of_ble_eq_true rfl) : Rm 2 _)).rm h.2.1 rfl (z140 Z) (a_cons (ev 0) a_nil)) (a_cons (raise_row1 (xk_InvalidText Z) fun fd h => e_errFk ⟨((z22 Z)).1, ((z22 Z)).2.1, ((z22 Z)).2.2⟩ h.1 ((hr.mono (Nat.le_of_ble_eq_true rfl) : Rm 2 _)).rm h.2.2 (by rfl) (z140 Z) (xf_of (z86 Z)) (z23 Z) (ka_cons (ev 0) ka_nil)) (a_cons (raise_row1 (xk_InvalidText Z) fun fd h => e_errF ⟨((z22 Z)).1, ((z22 Z)).2.1, ((z22 Z)).2.2⟩ h.1 ((hr.mono (Nat.le_of_ble_eq_true rfl) : Rm 2 _)).rm h.2.1 rfl (z140 Z) (xf_of (z86 Z)) (z23 Z) (a_cons (ev 0) a_nil)) (a_cons e_str a_nil))))) a_nil)))
    (s_cons (s_expr (e_bm PySem.F.plainAttrs_list PySem.F.slot_list_append PySem.F.type_list_append mt_append ty_lst v_app (ev 1) (a_cons (e_tup (a_cons (raise_row1 (xk_InvalidRow Z) fun fd h => e_err1 ⟨((z20 Z)).1, ((z20 Z)).2.1, ((z20 Z)).2.2⟩ h.1 ((hr.mono (Nat.le_of_ble_eq_true rfl) : Rm 2 _)).rm h.2.1 rfl (z137 Z) (a_cons (ev 0) a_nil)) (a_cons (raise_row1 (xk_InvalidRow Z) fun fd h => e_errFk ⟨((z20 Z)).1, ((z20 Z)).2.1, ((z20 Z)).2.2⟩ h.1 ((hr.mono (Nat.le_of_ble_eq_true rfl) : Rm 2 _)).rm h.2.2 (by rfl) (z137 Z) (xf_of (z89 Z)) (z21 Z) (ka_cons (ev 0) ka_nil)) (a_cons (raise_row1 (xk_InvalidRow Z) fun fd h => e_errF ⟨((z20 Z)).1, ((z20 Z)).2.1, ((z20 Z)).2.2⟩ h.1 ((hr.mono (Nat.le_of_ble_eq_true rfl) : Rm 2 _)).rm h.2.1 rfl (z137 Z) (xf_of (z89 Z)) (z21 Z) (a_cons (ev 0) a_nil)) (a_cons e_str a_nil))))) a_nil)))
    (s_cons (s_expr (e_bm PySem.F.plainAttrs_list PySem.F.slot_list_append PySem.F.type_list_append mt_append ty_lst v_app (ev 1) (a_cons (e_tup (a_cons (raise_row1 (xk_TooSmall Z) fun fd h => e_err1 ⟨((z45 Z)).1, ((z45 Z)).2.1, ((z45 Z)).2.2⟩ h.1 ((hr.mono (Nat.le_of_ble_eq_true rfl) : Rm 2 _)).rm h.2.1 rfl (z142 Z) (a_cons (ev 0) a_nil)) (a_cons (raise_row1 (xk_TooSmall Z) fun fd h => e_errFk ⟨((z45 Z)).1, ((z45 Z)).2.1, ((z45 Z)).2.2⟩ h.1 ((hr.mono (Nat.le_of_ble_eq_true rfl) : Rm 2 _)).rm h.2.2 (by rfl) (z142 Z) (xf_of (z47 Z)) (z46 Z) (ka_cons (ev 0) ka_nil)) (a_cons (raise_row1 (xk_TooSmall Z) fun fd h => e_errF ⟨((z45 Z)).1, ((z45 Z)).2.1, ((z45 Z)).2.2⟩ h.1 ((hr.mono (Nat.le_of_ble_eq_true rfl) : Rm 2 _)).rm h.2.1 rfl (z142 Z) (xf_of (z47 Z)) (z46 Z) (a_cons (ev 0) a_nil)) (a_cons e_str a_nil))))) a_nil)))
    (s_cons (s_expr (e_bm PySem.F.plainAttrs_list PySem.F.slot_list_append PySem.F.type_list_append mt_append ty_lst v_app (ev 1) (a_cons (e_tup (a_cons (raise_row1 (xk_Contradiction Z) fun fd h => e_err1 ⟨((z1 Z)).1, ((z1 Z)).2.1, ((z1 Z)).2.2⟩ h.1 ((hr.mono (Nat.le_of_ble_eq_true rfl) : Rm 2 _)).rm h.2.1 rfl (z141 Z) (a_cons (ev 0) a_nil)) (a_cons (raise_row1 (xk_Contradiction Z) fun fd h => e_errFk ⟨((z1 Z)).1, ((z1 Z)).2.1, ((z1 Z)).2.2⟩ h.1 ((hr.mono (Nat.le_of_ble_eq_true rfl) : Rm 2 _)).rm h.2.2 (by rfl) (z141 Z) (xf_of (z119 Z)) (z2 Z) (ka_cons (ev 0) ka_nil)) (a_cons (raise_row1 (xk_Contradiction Z) fun fd h => e_errF ⟨((z1 Z)).1, ((z1 Z)).2.1, ((z1 Z)).2.2⟩ h.1 ((hr.mono (Nat.le_of_ble_eq_true rfl) : Rm 2 _)).rm h.2.1 rfl (z141 Z) (xf_of (z119 Z)) (z2 Z) (a_cons (ev 0) a_nil)) (a_cons e_str a_nil))))) a_nil)))
    (s_cons (s_expr (e_bm PySem.F.plainAttrs_list PySem.F.slot_list_append PySem.F.type_list_append mt_append ty_lst v_app (ev 1) (a_cons (e_tup (a_cons (raise_row1 (xk_OutOfRange Z) fun fd h => e_err1 ⟨((z39 Z)).1, ((z39 Z)).2.1, ((z39 Z)).2.2⟩ h.1 ((hr.mono (Nat.le_of_ble_eq_true rfl) : Rm 2 _)).rm h.2.1 rfl (z145 Z) (a_cons (ev 0) a_nil)) (a_cons (raise_row1 (xk_OutOfRange Z) fun fd h => e_errFk ⟨((z39 Z)).1, ((z39 Z)).2.1, ((z39 Z)).2.2⟩ h.1 ((hr.mono (Nat.le_of_ble_eq_true rfl) : Rm 2 _)).rm h.2.2 (by rfl) (z145 Z) (xf_of (z56 Z)) (z40 Z) (ka_cons (ev 0) ka_nil)) (a_cons (raise_row1 (xk_OutOfRange Z) fun fd h => e_errF ⟨((z39 Z)).1, ((z39 Z)).2.1, ((z39 Z)).2.2⟩ h.1 ((hr.mono (Nat.le_of_ble_eq_true rfl) : Rm 2 _)).rm h.2.1 rfl (z145 Z) (xf_of (z56 Z)) (z40 Z) (a_cons (ev 0) a_nil)) (a_cons e_str a_nil))))) a_nil)))
    (s_cons (s_expr (e_bm PySem.F.plainAttrs_list PySem.F.slot_list_append PySem.F.type_list_append mt_append ty_lst v_app (ev 1) (a_cons (e_tup (a_cons (raise_row1 (xk_NotKnown Z) fun fd h => e_err1 ⟨((z32 Z)).1, ((z32 Z)).2.1, ((z32 Z)).2.2⟩ h.1 ((hr.mono (Nat.le_of_ble_eq_true rfl) : Rm 2 _)).rm h.2.1 rfl (z144 Z) (a_cons (ev 0) a_nil)) (a_cons (raise_row1 (xk_NotKnown Z) fun fd h => e_errFk ⟨((z32 Z)).1, ((z32 Z)).2.1, ((z32 Z)).2.2⟩ h.1 ((hr.mono (Nat.le_of_ble_eq_true rfl) : Rm 2 _)).rm h.2.2 (by rfl) (z144 Z) (xf_of (z71 Z)) (z33 Z) (ka_cons (ev 0) ka_nil)) (a_cons (raise_row1 (xk_NotKnown Z) fun fd h => e_errF ⟨((z32 Z)).1, ((z32 Z)).2.1, ((z32 Z)).2.2⟩ h.1 ((hr.mono (Nat.le_of_ble_eq_true rfl) : Rm 2 _)).rm h.2.1 rfl (z144 Z) (xf_of (z71 Z)) (z33 Z) (a_cons (ev 0) a_nil)) (a_cons e_str a_nil))))) a_nil)))
    (s_cons (s_expr (e_bm PySem.F.plainAttrs_list PySem.F.slot_list_append PySem.F.type_list_append mt_append ty_lst v_app (ev 1) (a_cons (e_tup (a_cons (raise_row1 (xk_NotNow Z) fun fd h => e_err1 ⟨((z34 Z)).1, ((z34 Z)).2.1, ((z34 Z)).2.2⟩ h.1 ((hr.mono (Nat.le_of_ble_eq_true rfl) : Rm 2 _)).rm h.2.1 rfl (z143 Z) (a_cons (ev 0) a_nil)) (a_cons (raise_row1 (xk_NotNow Z) fun fd h => e_errFk ⟨((z34 Z)).1, ((z34 Z)).2.1, ((z34 Z)).2.2⟩ h.1 ((hr.mono (Nat.le_of_ble_eq_true rfl) : Rm 2 _)).rm h.2.2 (by rfl) (z143 Z) (xf_of (z68 Z)) (z35 Z) (ka_cons (ev 0) ka_nil)) (a_cons (raise_row1 (xk_NotNow Z) fun fd h => e_errF ⟨((z34 Z)).1, ((z34 Z)).2.1, ((z34 Z)).2.2⟩ h.1 ((hr.mono (Nat.le_of_ble_eq_true rfl) : Rm 2 _)).rm h.2.1 rfl (z143 Z) (xf_of (z68 Z)) (z35 Z) (a_cons (ev 0) a_nil)) (a_cons e_str a_nil))))) a_nil)))
    (s_cons (s_expr (e_bm PySem.F.plainAttrs_list PySem.F.slot_list_append PySem.F.type_list_append mt_append ty_lst v_app (ev 1) (a_cons (e_tup (a_cons (raise_row1 (xk_TooMany Z) fun fd h => e_err1 ⟨((z43 Z)).1, ((z43 Z)).2.1, ((z43 Z)).2.2⟩ h.1 ((hr.mono (Nat.le_of_ble_eq_true rfl) : Rm 2 _)).rm h.2.1 rfl (z146 Z) (a_cons (ev 0) a_nil)) (a_cons (raise_row1 (xk_TooMany Z) fun fd h => e_errFk ⟨((z43 Z)).1, ((z43 Z)).2.1, ((z43 Z)).2.2⟩ h.1 ((hr.mono (Nat.le_of_ble_eq_true rfl) : Rm 2 _)).rm h.2.2 (by rfl) (z146 Z) (xf_of (z50 Z)) (z44 Z) (ka_cons (ev 0) ka_nil)) (a_cons (raise_row1 (xk_TooMany Z) fun fd h => e_errF ⟨((z43 Z)).1, ((z43 Z)).2.1, ((z43 Z)).2.2⟩ h.1 ((hr.mono (Nat.le_of_ble_eq_true rfl) : Rm 2 _)).rm h.2.1 rfl (z146 Z) (xf_of (z50 Z)) (z44 Z) (a_cons (ev 0) a_nil)) (a_cons e_str a_nil))))) a_nil)))
    (s_cons (s_expr (e_bm PySem.F.plainAttrs_list PySem.F.slot_list_append PySem.F.type_list_append mt_append ty_lst v_app (ev 1) (a_cons (e_tup (a_cons (raise_row1 (xk_LimitReached Z) fun fd h => e_err1 ⟨((z27 Z)).1, ((z27 Z)).2.1, ((z27 Z)).2.2⟩ h.1 ((hr.mono (Nat.le_of_ble_eq_true rfl) : Rm 2 _)).rm h.2.1 rfl (z147 Z) (a_cons (ev 0) a_nil)) (a_cons (raise_row1 (xk_LimitReached Z) fun fd h => e_errFk ⟨((z27 Z)).1, ((z27 Z)).2.1, ((z27 Z)).2.2⟩ h.1 ((hr.mono (Nat.le_of_ble_eq_true rfl) : Rm 2 _)).rm h.2.2 (by rfl) (z147 Z) (xf_of (z80 Z)) (z28 Z) (ka_cons (ev 0) ka_nil)) (a_cons (raise_row1 (xk_LimitReached Z) fun fd h => e_errF ⟨((z27 Z)).1, ((z27 Z)).2.1, ((z27 Z)).2.2⟩ h.1 ((hr.mono (Nat.le_of_ble_eq_true rfl) : Rm 2 _)).rm h.2.1 rfl (z147 Z) (xf_of (z80 Z)) (z28 Z) (a_cons (ev 0) a_nil)) (a_cons e_str a_nil))))) a_nil)))
    (s_one (s_ret (ev 1)))))))))))))))))))))
theorem f__law_filled (Z : FX K mg) : FnD PP w K mg base 3 ((fun K => He.ga K "_law_filled") K) m__law_filled := by
  obtain ⟨fd, F0⟩ := Z.df 28 (d := d__law_filled) rfl rfl
  have F : FunD K "_law_filled" "_law_filled" (defArgs s__law_filled) (defBody s__law_filled) (defScope s__law_filled) [] [] ((fun K => He.ga K "_law_filled") K) fd := cast (by kernel_rfl) F0
  exact fn_ok0 (x := "_law_filled") (qual := "_law_filled") (params := defArgs s__law_filled) (body := defBody s__law_filled) (scope := defScope s__law_filled) (kws := []) (N := ["_law_thing", "_law_found"]) (ps := ["_law_thing"]) (k := 2) (b := b__law_filled) F ⟨by kernel_rfl, by kernel_rfl, by kernel_rfl, by decide +kernel, by kernel_rfl, by decide +kernel, by decide +kernel⟩ (fun _ _ _ _ _ _ us hl => match us, hl with | [_], _ => by kernel_rfl) (c__law_filled Z)
theorem k__law_filled (Z : FX K mg) : PySem.W.keepIn K (.ref ((fun K => He.ga K "_law_filled") K)) = true := Z.keep 28 (d := d__law_filled) rfl
noncomputable def b__law_kinds : DS := seqS (setS 1 (argM (lstD true) (consA (argM (isvD isv0) (consA (vM 0) (consA (cM (.ty "ValueError")) (nilA)))) (consA (argM (isvD isv0) (consA (vM 0) (consA (cM (.ty "LookupError")) (nilA)))) (nilA))))) (seqS (exprS (bmD isLstD appD (vM 1) (consA (andV (argM (isvD isv0) (consA (vM 0) (consA (cM (.ty "ArithmeticError")) (nilA)))) (notV (argM (isvD isv0) (consA (vM 0) (consA (cM (.ty "OverflowError")) (nilA)))))) (nilA)))) (seqS (exprS (bmD isLstD extD (vM 1) (consA (argM (lstD false) (consA (argM (isvD isv0) (consA (vM 0) (consA (cM (.ty "OverflowError")) (nilA)))) (consA (argM (isvD isv0) (consA (vM 0) (consA (cM (.ty "RuntimeError")) (nilA)))) (nilA)))) (nilA)))) (seqS (exprS (bmD isLstD extD (vM 1) (consA (argM (lstD false) (consA (orV (argM (isvD isv0) (consA (vM 0) (consA (cM (.ty "KeyError")) (nilA)))) (argM (isvD isv0) (consA (vM 0) (consA (cM (.ty "IndexError")) (nilA))))) (consA (argM (isvD isv0) (consA (vM 0) (consA (cM (.ty "ZeroDivisionError")) (nilA)))) (nilA)))) (nilA)))) (seqS (setS 2 (argM (lstD false) (consA (cM (.str "value")) (consA (cM (.str "lookup")) (consA (cM (.str "arithmetic")) (consA (cM (.str "overflow")) (consA (cM (.str "runtime")) (consA (cM (.str "place")) (consA (cM (.str "zero")) (nilA)))))))))) (retS (lcM false (argI zipD (consA (vM 2) (consA (iceV 1) (nilA)))) (tupG 2 (consG (nameG 3) (consG (nameG 4) (nilG)))) (truM (vM 4)) (vM 3) [3, 4]))))))
noncomputable def m__law_kinds : DF := bodyM 1 [] 5 b__law_kinds
theorem c__law_kinds (Z : FX K mg) {f : Addr} : BodyD PP w K mg base ["_law_error", "_law_flags", "_law_names", "_law_name", "_law_flag"] "_law_kinds" (defScope s__law_kinds) f 0 (defBody s__law_kinds) b__law_kinds := by
  intro cdv A outer s H E hr
  have nd : (["_law_error", "_law_flags", "_law_names", "_law_name", "_law_flag"] : List Str).Nodup := by decide +kernel
  have tk : Takes (cxOf (L2.CX PP w) PP w K mg base ["_law_error", "_law_flags", "_law_names", "_law_name", "_law_flag"] "_law_kinds" (defScope s__law_kinds) f cdv A outer s H E) (fun c d _ H' => E c d H') := takes_of rfl rfl rfl rfl
  have hp := passes_of (X := cxOf (L2.CX PP w) PP w K mg base ["_law_error", "_law_flags", "_law_names", "_law_name", "_law_flag"] "_law_kinds" (defScope s__law_kinds) f cdv A outer s H E) rfl
  have hu := hr.rm.units
  have hu1 : _ + 1 < cLine := Nat.lt_of_le_of_lt (Nat.add_le_add_left (by decide : 1 ≤ 64) _) hu
  exact (s_cons (s_set nd rfl (by first | exact .inl rfl | exact .inr rfl) (e_lst true (a_cons (e_callB call_isV (v_isv (isv_ok Z)) rfl (z131 Z) (by decide +kernel) (a_cons (ev 0) (a_cons (e_ty (n := "ValueError") rfl (z0 Z) (by decide +kernel)) a_nil))) (a_cons (e_callB call_isV (v_isv (isv_ok Z)) rfl (z131 Z) (by decide +kernel) (a_cons (ev 0) (a_cons (e_ty (n := "LookupError") rfl (z3 Z) (by decide +kernel)) a_nil))) a_nil))))
    (s_cons (s_expr (e_bm PySem.F.plainAttrs_list PySem.F.slot_list_append PySem.F.type_list_append mt_append ty_lst v_app (ev 1) (a_cons (e_and (e_callB call_isV (v_isv (isv_ok Z)) rfl (z131 Z) (by decide +kernel) (a_cons (ev 0) (a_cons (e_ty (n := "ArithmeticError") rfl (z29 Z) (by decide +kernel)) a_nil))) (e_one (e_not (e_callB call_isV (v_isv (isv_ok Z)) rfl (z131 Z) (by decide +kernel) (a_cons (ev 0) (a_cons (e_ty (n := "OverflowError") rfl (z41 Z) (by decide +kernel)) a_nil)))))) a_nil)))
    (s_cons (s_expr (e_bm PySem.F.plainAttrs_list PySem.F.slot_list_extend PySem.F.type_list_extend mt_extend ty_lst v_ext (ev 1) (a_cons (e_lst false (a_cons (e_callB call_isV (v_isv (isv_ok Z)) rfl (z131 Z) (by decide +kernel) (a_cons (ev 0) (a_cons (e_ty (n := "OverflowError") rfl (z41 Z) (by decide +kernel)) a_nil))) (a_cons (e_callB call_isV (v_isv (isv_ok Z)) rfl (z131 Z) (by decide +kernel) (a_cons (ev 0) (a_cons (e_ty (n := "RuntimeError") rfl (z26 Z) (by decide +kernel)) a_nil))) a_nil))) a_nil)))
    (s_cons (s_expr (e_bm PySem.F.plainAttrs_list PySem.F.slot_list_extend PySem.F.type_list_extend mt_extend ty_lst v_ext (ev 1) (a_cons (e_lst false (a_cons (e_or (e_callB call_isV (v_isv (isv_ok Z)) rfl (z131 Z) (by decide +kernel) (a_cons (ev 0) (a_cons (e_ty (n := "KeyError") rfl (z152 Z) (by decide +kernel)) a_nil))) (e_one (e_callB call_isV (v_isv (isv_ok Z)) rfl (z131 Z) (by decide +kernel) (a_cons (ev 0) (a_cons (e_ty (n := "IndexError") rfl (z153 Z) (by decide +kernel)) a_nil))))) (a_cons (e_callB call_isV (v_isv (isv_ok Z)) rfl (z131 Z) (by decide +kernel) (a_cons (ev 0) (a_cons (e_ty (n := "ZeroDivisionError") rfl (z151 Z) (by decide +kernel)) a_nil))) a_nil))) a_nil)))
    (s_cons (s_set nd rfl (by first | exact .inl rfl | exact .inr rfl) (e_lst false (a_cons e_str (a_cons e_str (a_cons e_str (a_cons e_str (a_cons e_str (a_cons e_str (a_cons e_str a_nil)))))))))
    (s_one (s_ret (e_lc false rfl nd (i_zip rfl (z154 Z) (a_cons (ev 2) (a_cons (e_ice (ev 1)) a_nil))) (own := ([("_law_name", 3), ("_law_flag", 4)] : List (Str × Nat))) (show BlkOk ["_law_error", "_law_flags", "_law_names", "_law_name", "_law_flag"] (defScope s__law_kinds) _ _ from ⟨rfl, by decide +kernel, by decide +kernel, by decide +kernel, by decide +kernel⟩) (fun _ _ _ _ _ => (gw_tup rfl (gsw_cons (gw_name nd rfl (by first | exact .inl rfl | exact .inr rfl) (by decide)) (gsw_cons (gw_name nd rfl (by first | exact .inl rfl | exact .inr rfl) (by decide)) gsw_nil)))) (fun _ _ _ _ _ => (ts_one (t_truth (ev 4)))) (fun _ _ _ _ _ => (ev 3))))))))))
theorem f__law_kinds (Z : FX K mg) : FnD PP w K mg base 1 ((fun K => He.ga K "_law_kinds") K) m__law_kinds := by
  obtain ⟨fd, F0⟩ := Z.df 29 (d := d__law_kinds) rfl rfl
  have F : FunD K "_law_kinds" "_law_kinds" (defArgs s__law_kinds) (defBody s__law_kinds) (defScope s__law_kinds) [] [] ((fun K => He.ga K "_law_kinds") K) fd := cast (by kernel_rfl) F0
  exact fn_ok0 (x := "_law_kinds") (qual := "_law_kinds") (params := defArgs s__law_kinds) (body := defBody s__law_kinds) (scope := defScope s__law_kinds) (kws := []) (N := ["_law_error", "_law_flags", "_law_names", "_law_name", "_law_flag"]) (ps := ["_law_error"]) (k := 0) (b := b__law_kinds) F ⟨by kernel_rfl, by kernel_rfl, by kernel_rfl, by decide +kernel, by kernel_rfl, by decide +kernel, by decide +kernel⟩ (fun _ _ _ _ _ _ us hl => match us, hl with | [_], _ => by kernel_rfl) (c__law_kinds Z)
theorem k__law_kinds (Z : FX K mg) : PySem.W.keepIn K (.ref ((fun K => He.ga K "_law_kinds") K)) = true := Z.keep 29 (d := d__law_kinds) rfl
noncomputable def b__law_pick : DS := retS (binM idxD (vM 1) (callM m__law_draw (consA (vM 0) (consA (argM (lenD) (consA (vM 1) (nilA))) (nilA)))))
noncomputable def m__law_pick : DF := bodyM 2 [] 2 b__law_pick
theorem c__law_pick (Z : FX K mg) {f : Addr} : BodyD PP w K mg base ["_law_pen_here", "_law_options"] "_law_pick" (defScope s__law_pick) f 1 (defBody s__law_pick) b__law_pick := by
  intro cdv A outer s H E hr
  have nd : (["_law_pen_here", "_law_options"] : List Str).Nodup := by decide +kernel
  have tk : Takes (cxOf (L2.CX PP w) PP w K mg base ["_law_pen_here", "_law_options"] "_law_pick" (defScope s__law_pick) f cdv A outer s H E) (fun c d _ H' => E c d H') := takes_of rfl rfl rfl rfl
  have hp := passes_of (X := cxOf (L2.CX PP w) PP w K mg base ["_law_pen_here", "_law_options"] "_law_pick" (defScope s__law_pick) f cdv A outer s H E) rfl
  have hu := hr.rm.units
  have hu1 : _ + 1 < cLine := Nat.lt_of_le_of_lt (Nat.add_le_add_left (by decide : 1 ≤ 64) _) hu
  exact (s_one (s_ret (e_idx hu1 (ev 1) (e_call tk (f__law_draw Z) (hr.mono (Nat.le_of_ble_eq_true rfl) : Rm 1 _) rfl (z155 Z) (k__law_draw Z) (a_cons (ev 0) (a_cons (e_callB call_len v_len rfl (z149 Z) (by decide +kernel) (a_cons (ev 1) a_nil)) a_nil))))))
theorem f__law_pick (Z : FX K mg) : FnD PP w K mg base 2 ((fun K => He.ga K "_law_pick") K) m__law_pick := by
  obtain ⟨fd, F0⟩ := Z.df 30 (d := d__law_pick) rfl rfl
  have F : FunD K "_law_pick" "_law_pick" (defArgs s__law_pick) (defBody s__law_pick) (defScope s__law_pick) [] [] ((fun K => He.ga K "_law_pick") K) fd := cast (by kernel_rfl) F0
  exact fn_ok0 (x := "_law_pick") (qual := "_law_pick") (params := defArgs s__law_pick) (body := defBody s__law_pick) (scope := defScope s__law_pick) (kws := []) (N := ["_law_pen_here", "_law_options"]) (ps := ["_law_pen_here", "_law_options"]) (k := 1) (b := b__law_pick) F ⟨by kernel_rfl, by kernel_rfl, by kernel_rfl, by decide +kernel, by kernel_rfl, by decide +kernel, by decide +kernel⟩ (fun _ _ _ _ _ _ us hl => match us, hl with | [_, _], _ => by kernel_rfl) (c__law_pick Z)
theorem k__law_pick (Z : FX K mg) : PySem.W.keepIn K (.ref ((fun K => He.ga K "_law_pick") K)) = true := Z.keep 30 (d := d__law_pick) rfl
noncomputable def b__law_odd : DS := seqS (setS 1 (argM (lstD false) (consA (cM .non) (consA (cM (.bl true)) (consA (cM (.bl false)) (consA (cM (.int 0)) (consA (cM (.int 1)) (consA (unM negD (cM (.int 1))) (consA (cM (.int 2)) (consA (cM (.int 7)) (consA (cM (.int 160)) (consA (cM (.int 161)) (consA (binM powD (cM (.int 10)) (cM (.int 30))) (consA (cM (.str "")) (consA (cM (.str "a")) (consA (cM (.str "b")) (consA (cM (.str "ab")) (consA (cM (.str "ba")) (nilA))))))))))))))))))) (seqS (setS 1 (binM addD (vM 1) (argM (lstD false) (consA (binM mulD (binM mulD (binM powD (cM (.int 10)) (cM (.int 50))) (binM powD (cM (.int 10)) (cM (.int 50)))) (binM powD (cM (.int 10)) (cM (.int 9)))) (consA (binM subD (cM (.int 0)) (binM mulD (binM mulD (binM powD (cM (.int 10)) (cM (.int 50))) (binM powD (cM (.int 10)) (cM (.int 50)))) (binM powD (cM (.int 10)) (cM (.int 9))))) (nilA)))))) (seqS (setS 1 (binM addD (vM 1) (argM (lstD false) (consA (cM (.str "A")) (consA (cM (.str "0")) (consA (cM (.str "1")) (consA (cM (.str "1/2")) (consA (cM (.str "fractions")) (consA (cM (.str "modulo 7")) (consA (cM (.str "a b")) (consA (cM (.str " ")) (consA (cM (.str "aa")) (consA (cM (.str "abcde")) (consA (argM tupD (nilA)) (consA (argM (lstD false) (nilA)) (consA (disp0M) (consA (argM tupD (consA (cM (.str "a")) (nilA))) (consA (argM (lstD false) (consA (cM (.str "a")) (nilA))) (nilA))))))))))))))))))) (seqS (setS 1 (binM addD (vM 1) (argM (lstD false) (consA (argM (lstD false) (consA (cM (.int 1)) (nilA))) (consA (argM tupD (consA (cM (.int 1)) (consA (cM (.int 2)) (nilA)))) (consA (argM tupD (consA (cM (.int 2)) (consA (cM (.int 4)) (nilA)))) (consA (argM tupD (consA (cM (.int 0)) (consA (cM (.int 2)) (nilA)))) (consA (argM tupD (consA (cM (.int 1)) (consA (cM (.int 1)) (nilA)))) (consA (argM tupD (consA (cM (.int 1)) (consA (cM (.int 0)) (nilA)))) (consA (argM tupD (consA (cM (.int 1)) (consA (unM negD (cM (.int 2))) (nilA)))) (consA (argM tupD (consA (cM (.bl true)) (consA (cM (.int 2)) (nilA)))) (consA (argM (lstD false) (consA (cM (.int 1)) (consA (cM (.int 2)) (nilA)))) (consA (argM tupD (consA (cM (.int 1)) (consA (cM (.int 2)) (consA (cM (.int 3)) (nilA))))) (consA (dispM [(cM (.str "a"), cM (.int 1))]) (nilA))))))))))))))) (retS (callM m__law_pick (consA (vM 0) (consA (vM 1) (nilA))))))))
noncomputable def m__law_odd : DF := bodyM 1 [] 2 b__law_odd
theorem c__law_odd (Z : FX K mg) {f : Addr} : BodyD PP w K mg base ["_law_pen_here", "_law_some"] "_law_odd" (defScope s__law_odd) f 2 (defBody s__law_odd) b__law_odd := by
  intro cdv A outer s H E hr
  have nd : (["_law_pen_here", "_law_some"] : List Str).Nodup := by decide +kernel
  have tk : Takes (cxOf (L2.CX PP w) PP w K mg base ["_law_pen_here", "_law_some"] "_law_odd" (defScope s__law_odd) f cdv A outer s H E) (fun c d _ H' => E c d H') := takes_of rfl rfl rfl rfl
  have hp := passes_of (X := cxOf (L2.CX PP w) PP w K mg base ["_law_pen_here", "_law_some"] "_law_odd" (defScope s__law_odd) f cdv A outer s H E) rfl
  have hu := hr.rm.units
  have hu1 : _ + 1 < cLine := Nat.lt_of_le_of_lt (Nat.add_le_add_left (by decide : 1 ≤ 64) _) hu
  exact (s_cons (s_set nd rfl (by first | exact .inl rfl | exact .inr rfl) (e_lst false (a_cons e_non (a_cons e_bl (a_cons e_bl (a_cons e_int (a_cons e_int (a_cons (e_neg e_int) (a_cons e_int (a_cons e_int (a_cons e_int (a_cons e_int (a_cons (e_pow e_int e_int) (a_cons e_str (a_cons e_str (a_cons e_str (a_cons e_str (a_cons e_str a_nil))))))))))))))))))
    (s_cons (s_set nd rfl (by first | exact .inl rfl | exact .inr rfl) (e_add (ev 1) (e_lst false (a_cons (e_mul (e_mul (e_pow e_int e_int) (e_pow e_int e_int)) (e_pow e_int e_int)) (a_cons (e_sub e_int (e_mul (e_mul (e_pow e_int e_int) (e_pow e_int e_int)) (e_pow e_int e_int))) a_nil)))))
    (s_cons (s_set nd rfl (by first | exact .inl rfl | exact .inr rfl) (e_add (ev 1) (e_lst false (a_cons e_str (a_cons e_str (a_cons e_str (a_cons e_str (a_cons e_str (a_cons e_str (a_cons e_str (a_cons e_str (a_cons e_str (a_cons e_str (a_cons (e_tup a_nil) (a_cons (e_lst false a_nil) (a_cons e_disp0 (a_cons (e_tup (a_cons e_str a_nil)) (a_cons (e_lst false (a_cons e_str a_nil)) a_nil))))))))))))))))))
    (s_cons (s_set nd rfl (by first | exact .inl rfl | exact .inr rfl) (e_add (ev 1) (e_lst false (a_cons (e_lst false (a_cons e_int a_nil)) (a_cons (e_tup (a_cons e_int (a_cons e_int a_nil))) (a_cons (e_tup (a_cons e_int (a_cons e_int a_nil))) (a_cons (e_tup (a_cons e_int (a_cons e_int a_nil))) (a_cons (e_tup (a_cons e_int (a_cons e_int a_nil))) (a_cons (e_tup (a_cons e_int (a_cons e_int a_nil))) (a_cons (e_tup (a_cons e_int (a_cons (e_neg e_int) a_nil))) (a_cons (e_tup (a_cons e_bl (a_cons e_int a_nil))) (a_cons (e_lst false (a_cons e_int (a_cons e_int a_nil))) (a_cons (e_tup (a_cons e_int (a_cons e_int (a_cons e_int a_nil)))) (a_cons (e_disp (pp_cons e_str e_int pp_nil)) a_nil))))))))))))))
    (s_one (s_ret (e_call tk (f__law_pick Z) (hr.mono (Nat.le_of_ble_eq_true rfl) : Rm 2 _) rfl (z156 Z) (k__law_pick Z) (a_cons (ev 0) (a_cons (ev 1) a_nil)))))))))
theorem f__law_odd (Z : FX K mg) : FnD PP w K mg base 3 ((fun K => He.ga K "_law_odd") K) m__law_odd := by
  obtain ⟨fd, F0⟩ := Z.df 31 (d := d__law_odd) rfl rfl
  have F : FunD K "_law_odd" "_law_odd" (defArgs s__law_odd) (defBody s__law_odd) (defScope s__law_odd) [] [] ((fun K => He.ga K "_law_odd") K) fd := cast (by kernel_rfl) F0
  exact fn_ok0 (x := "_law_odd") (qual := "_law_odd") (params := defArgs s__law_odd) (body := defBody s__law_odd) (scope := defScope s__law_odd) (kws := []) (N := ["_law_pen_here", "_law_some"]) (ps := ["_law_pen_here"]) (k := 2) (b := b__law_odd) F ⟨by kernel_rfl, by kernel_rfl, by kernel_rfl, by decide +kernel, by kernel_rfl, by decide +kernel, by decide +kernel⟩ (fun _ _ _ _ _ _ us hl => match us, hl with | [_], _ => by kernel_rfl) (c__law_odd Z)
theorem k__law_odd (Z : FX K mg) : PySem.W.keepIn K (.ref ((fun K => He.ga K "_law_odd") K)) = true := Z.keep 31 (d := d__law_odd) rfl
noncomputable def b__law_pen : DS := retS (dispM [(cM (.str "cells"), argM (listD false) (consA (sliM false (vM 0) (pureM none) (optM (cM (.int 63)))) (nilA))), (cM (.str "begun"), cM (.int 0)), (cM (.str "left"), cM (.int 0))])
noncomputable def m__law_pen : DF := bodyM 1 [] 1 b__law_pen
theorem c__law_pen (Z : FX K mg) {f : Addr} : BodyD PP w K mg base ["_law_script"] "_law_pen" (defScope s__law_pen) f 0 (defBody s__law_pen) b__law_pen := by
  intro cdv A outer s H E hr
  have nd : (["_law_script"] : List Str).Nodup := by decide +kernel
  have tk : Takes (cxOf (L2.CX PP w) PP w K mg base ["_law_script"] "_law_pen" (defScope s__law_pen) f cdv A outer s H E) (fun c d _ H' => E c d H') := takes_of rfl rfl rfl rfl
  have hp := passes_of (X := cxOf (L2.CX PP w) PP w K mg base ["_law_script"] "_law_pen" (defScope s__law_pen) f cdv A outer s H E) rfl
  have hu := hr.rm.units
  have hu1 : _ + 1 < cLine := Nat.lt_of_le_of_lt (Nat.add_le_add_left (by decide : 1 ≤ 64) _) hu
  exact (s_one (s_ret (e_disp (pp_cons e_str (e_callTy call_list_of v_list rfl (z157 Z) (by decide +kernel) (a_cons (e_sli false (ev 0) o_none (o_some e_int)) a_nil)) (pp_cons e_str e_int (pp_cons e_str e_int pp_nil))))))
theorem f__law_pen (Z : FX K mg) : FnD PP w K mg base 1 ((fun K => He.ga K "_law_pen") K) m__law_pen := by
  obtain ⟨fd, F0⟩ := Z.df 32 (d := d__law_pen) rfl rfl
  have F : FunD K "_law_pen" "_law_pen" (defArgs s__law_pen) (defBody s__law_pen) (defScope s__law_pen) [] [] ((fun K => He.ga K "_law_pen") K) fd := cast (by kernel_rfl) F0
  exact fn_ok0 (x := "_law_pen") (qual := "_law_pen") (params := defArgs s__law_pen) (body := defBody s__law_pen) (scope := defScope s__law_pen) (kws := []) (N := ["_law_script"]) (ps := ["_law_script"]) (k := 0) (b := b__law_pen) F ⟨by kernel_rfl, by kernel_rfl, by kernel_rfl, by decide +kernel, by kernel_rfl, by decide +kernel, by decide +kernel⟩ (fun _ _ _ _ _ _ us hl => match us, hl with | [_], _ => by kernel_rfl) (c__law_pen Z)
theorem k__law_pen (Z : FX K mg) : PySem.W.keepIn K (.ref ((fun K => He.ga K "_law_pen") K)) = true := Z.keep 32 (d := d__law_pen) rfl
noncomputable def b_law : DS := seqS (setS 1 (callM m__law_pen (consA (vM 0) (nilA)))) (seqS (forS (argI rangeD1 (consA (binM addD (cM (.int 3)) (argM (min2D) (consA (cM (.int 3)) (consA (argM (lenD) (consA (vM 0) (nilA))) (nilA))))) (nilA))) (nameG 2) (seqS (setS 3 (callM m__law_odd (consA (vM 1) (nilA)))) (forS (seqI (callM m__law_filled (consA (vM 3) (nilA)))) (tupG 4 (consG (nameG 4) (consG (nameG 6) (consG (nameG 7) (consG (nameG 5) (nilG)))))) (seqS (ifS (orT (blM (binM neD (argM (reprX) (consA (argM (lstD false) (consA (vM 6) (consA (vM 7) (nilA)))) (nilA))) (argM (reprX) (consA (argM (lstD false) (consA (vM 3) (consA (vM 3) (nilA)))) (nilA))))) (blM (binM neD (callM m__law_kinds (consA (vM 4) (nilA))) (argM (lstD false) (consA (vM 5) (nilA)))))) (retS (cM (.bl false))) (skipS)) (ifS (blM (binM neD (bmD isLstD countD (callM m__law_classes (consA (vM 4) (nilA))) (consA (cM (.bl true)) (nilA))) (cM (.int 1)))) (retS (cM (.bl false))) (skipS)))))) (seqS (forS (seqI (callM m__law_bare (nilA))) (tupG 2 (consG (nameG 4) (consG (nameG 5) (nilG)))) (ifS (orT (blM (binM neD (callM m__law_kinds (consA (vM 4) (nilA))) (argM (lstD false) (consA (vM 5) (nilA))))) (blM (binM neD (bmD isLstD countD (callM m__law_classes (consA (vM 4) (nilA))) (consA (cM (.bl true)) (nilA))) (cM (.int 1))))) (retS (cM (.bl false))) (skipS))) (retS (cM (.bl true)))))
noncomputable def m_law : DF := bodyM 1 [] 8 b_law
theorem c_law (Z : FX K mg) {f : Addr} : BodyD PP w K mg base ["_law_script", "_law_pen_here", "_law_turn", "_law_thing", "_law_error", "_law_kind", "_law_named", "_law_placed"] "law" (defScope s_law) f 3 (defBody s_law) b_law := by
  intro cdv A outer s H E hr
  have nd : (["_law_script", "_law_pen_here", "_law_turn", "_law_thing", "_law_error", "_law_kind", "_law_named", "_law_placed"] : List Str).Nodup := by decide +kernel
  have tk : Takes (cxOf (L2.CX PP w) PP w K mg base ["_law_script", "_law_pen_here", "_law_turn", "_law_thing", "_law_error", "_law_kind", "_law_named", "_law_placed"] "law" (defScope s_law) f cdv A outer s H E) (fun c d _ H' => E c d H') := takes_of rfl rfl rfl rfl
  have hp := passes_of (X := cxOf (L2.CX PP w) PP w K mg base ["_law_script", "_law_pen_here", "_law_turn", "_law_thing", "_law_error", "_law_kind", "_law_named", "_law_placed"] "law" (defScope s_law) f cdv A outer s H E) rfl
  have hu := hr.rm.units
  have hu1 : _ + 1 < cLine := Nat.lt_of_le_of_lt (Nat.add_le_add_left (by decide : 1 ≤ 64) _) hu
  exact (s_cons (s_set nd rfl (by first | exact .inl rfl | exact .inr rfl) (e_call tk (f__law_pen Z) (hr.mono (Nat.le_of_ble_eq_true rfl) : Rm 1 _) rfl (z158 Z) (k__law_pen Z) (a_cons (ev 0) a_nil)))
    (s_cons (s_for hp rfl (i_range1 rfl (z160 Z) (a_cons (e_add e_int (e_callB (call_min2 rfl) v_min2 rfl (z159 Z) (by decide +kernel) (a_cons e_int (a_cons (e_callB call_len v_len rfl (z149 Z) (by decide +kernel) (a_cons (ev 0) a_nil)) a_nil)))) a_nil)) (g_name nd rfl (by first | exact .inl rfl | exact .inr rfl)) (s_cons (s_set nd rfl (by first | exact .inl rfl | exact .inr rfl) (e_call tk (f__law_odd Z) (hr.mono (Nat.le_of_ble_eq_true rfl) : Rm 3 _) rfl (z161 Z) (k__law_odd Z) (a_cons (ev 1) a_nil)))
    (s_one (s_for hp rfl (i_seq (e_call tk (f__law_filled Z) (hr.mono (Nat.le_of_ble_eq_true rfl) : Rm 3 _) rfl (z162 Z) (k__law_filled Z) (a_cons (ev 3) a_nil))) (g_tup rfl (gs_cons (g_name nd rfl (by first | exact .inl rfl | exact .inr rfl)) (gs_cons (g_name nd rfl (by first | exact .inl rfl | exact .inr rfl)) (gs_cons (g_name nd rfl (by first | exact .inl rfl | exact .inr rfl)) (gs_cons (g_name nd rfl (by first | exact .inl rfl | exact .inr rfl)) gs_nil))))) (s_cons (s_if (PW.pt (w_or (t_ne hu (e_callB (call_reprX (z163 Z) hr.gd hu) v_reprX rfl (z164 Z) (by decide +kernel) (a_cons (e_lst false (a_cons (ev 6) (a_cons (ev 7) a_nil))) a_nil)) (e_callB (call_reprX (z163 Z) hr.gd hu) v_reprX rfl (z164 Z) (by decide +kernel) (a_cons (e_lst false (a_cons (ev 3) (a_cons (ev 3) a_nil))) a_nil))) (w_or1 (t_ne hu (e_call tk (f__law_kinds Z) (hr.mono (Nat.le_of_ble_eq_true rfl) : Rm 1 _) rfl (z165 Z) (k__law_kinds Z) (a_cons (ev 4) a_nil)) (e_lst false (a_cons (ev 5) a_nil)))))) (s_one (s_ret e_bl)) s_nil)
    (s_one (s_if (t_ne hu (e_bm PySem.F.plainAttrs_list PySem.F.slot_list_count PySem.F.type_list_count mt_countB ty_lst v_countB (e_call tk (f__law_classes Z) (hr.mono (Nat.le_of_ble_eq_true rfl) : Rm 1 _) rfl (z166 Z) (k__law_classes Z) (a_cons (ev 4) a_nil)) (a_cons e_bl a_nil)) e_int) (s_one (s_ret e_bl)) s_nil)))))))
    (s_cons (s_for hp rfl (i_seq (e_call0 tk (f__law_bare Z) (hr.mono (Nat.le_of_ble_eq_true rfl) : Rm 3 _) rfl (z167 Z) (k__law_bare Z))) (g_tup rfl (gs_cons (g_name nd rfl (by first | exact .inl rfl | exact .inr rfl)) (gs_cons (g_name nd rfl (by first | exact .inl rfl | exact .inr rfl)) gs_nil))) (s_one (s_if (PW.pt (w_or (t_ne hu (e_call tk (f__law_kinds Z) (hr.mono (Nat.le_of_ble_eq_true rfl) : Rm 1 _) rfl (z165 Z) (k__law_kinds Z) (a_cons (ev 4) a_nil)) (e_lst false (a_cons (ev 5) a_nil))) (w_or1 (t_ne hu (e_bm PySem.F.plainAttrs_list PySem.F.slot_list_count PySem.F.type_list_count mt_countB ty_lst v_countB (e_call tk (f__law_classes Z) (hr.mono (Nat.le_of_ble_eq_true rfl) : Rm 1 _) rfl (z166 Z) (k__law_classes Z) (a_cons (ev 4) a_nil)) (a_cons e_bl a_nil)) e_int)))) (s_one (s_ret e_bl)) s_nil)))
    (s_one (s_ret e_bl)))))
theorem f_law (Z : FX K mg) : FnD PP w K mg base 4 ((fun K => He.ga K "law") K) m_law := by
  obtain ⟨fd, F0⟩ := Z.df 33 (d := d_law) rfl rfl
  have F : FunD K "law" "law" (defArgs s_law) (defBody s_law) (defScope s_law) [] [] ((fun K => He.ga K "law") K) fd := cast (by kernel_rfl) F0
  exact fn_ok0 (x := "law") (qual := "law") (params := defArgs s_law) (body := defBody s_law) (scope := defScope s_law) (kws := []) (N := ["_law_script", "_law_pen_here", "_law_turn", "_law_thing", "_law_error", "_law_kind", "_law_named", "_law_placed"]) (ps := ["_law_script"]) (k := 3) (b := b_law) F ⟨by kernel_rfl, by kernel_rfl, by kernel_rfl, by decide +kernel, by kernel_rfl, by decide +kernel, by decide +kernel⟩ (fun _ _ _ _ _ _ us hl => match us, hl with | [_], _ => by kernel_rfl) (c_law Z)
end
end G
set_option Elab.async false
set_option linter.all false
set_option maxRecDepth 100000
set_option maxHeartbeats 4000000
namespace G
open Mp Pl
open PySem (Str sizeLine)
local macro_rules | `(tactic| wtm_at "e") => `(tactic| first
  | with_reducible refine w_set ?_
  | with_reducible refine w_bin ?_
  | ((with_reducible refine w_v (d := ?dv) ?hv ?_); (case hv => exact rfl))
  | with_reducible refine w_c ?_
  | with_reducible refine w_cons ?_
  | with_reducible refine w_nil ?_
  | with_reducible refine w_arg ?_
  | with_reducible refine w_call ?_
  | with_reducible refine w_if ?_
  | with_reducible refine w_ret ?_
  | with_reducible refine w_skip ?_
  | with_reducible refine w_bl ?_
  | with_reducible refine w_tru ?_
  | with_reducible refine w_attr ?_
  | with_reducible refine w_meth ?_
  | with_reducible refine w_chain ?_
  | with_reducible refine w_and ?_
  | with_reducible refine w_or ?_
  | with_reducible refine w_not ?_
  | with_reducible refine w_notT ?_
  | with_reducible refine w_andT ?_
  | with_reducible refine w_orT ?_
  | with_reducible refine w_ifM ?_
  | with_reducible refine w_expr ?_
  | with_reducible refine w_un ?_
  | with_reducible refine w_par2 ?_
  | with_reducible refine w_par3 ?_
  | with_reducible refine w_asg ?_
  | with_reducible refine w_aug ?_
  | with_reducible refine w_sub ?_
  | with_reducible refine w_fld ?_
  | with_reducible refine w_raise ?_
  | with_reducible refine w_raise0 ?_
  | with_reducible refine w_try ?_
  | with_reducible refine w_make ?_
  | with_reducible refine w_tryAs ?_
  | with_reducible refine w_exn ?_
  | ((with_reducible refine o_isx (b := ?bv) ?h1 ?_); (case h1 => exact rfl))
  | with_reducible refine w_superS ?_
  | with_reducible refine w_super ?_
  | with_reducible refine w_star ?_
  | with_reducible refine w_for0 ?_
  | with_reducible refine w_lc0 ?_
  | with_reducible refine w_lc20 ?_
  | with_reducible refine w_seqJ ?_
  | with_reducible refine w_starC ?_
  | with_reducible refine w_spr ?_
  | with_reducible refine w_tryN ?_
  | ((with_reducible refine o_own0 ?hv ?_); (case hv => exact rfl))
  | ((with_reducible refine o_eqO0 ?hv ?_); (case hv => exact rfl))
  | with_reducible refine w_seqI ?_
  | with_reducible refine w_argI ?_
  | with_reducible refine w_opt ?_
  | with_reducible refine w_sli ?_
  | with_reducible refine w_pure ?_
  | with_reducible refine w_disp ?_
  | with_reducible refine w_pairs1 ?_
  | with_reducible refine w_pairs0 ?_
  | with_reducible refine w_retN ?_
  | with_reducible refine w_cnt ?_
  | with_reducible refine w_brk ?_
  | with_reducible refine o_addI ?_
  | with_reducible refine o_addI' ?_
  | with_reducible refine o_sub ?_
  | with_reducible refine o_lt ?_
  | with_reducible refine o_le ?_
  | with_reducible refine o_gt ?_
  | with_reducible refine o_ge ?_
  | with_reducible refine o_eqI ?_
  | with_reducible refine o_neI ?_
  | with_reducible refine o_eqS ?_
  | with_reducible refine o_neS ?_
  | with_reducible refine o_int ?_
  | with_reducible refine o_intB ?_
  | with_reducible refine o_neg ?_
  | with_reducible refine o_abs ?_
  | with_reducible refine o_newL ?_
  | with_reducible refine o_max2 ?_
  | with_reducible refine o_min2 ?_
  | with_reducible refine o_lenL ?_
  | with_reducible refine o_lenT ?_
  | ((with_reducible refine o_tup ?hv ?_); (case hv => first | exact Nat.le_of_ble_eq_true rfl | assumption))
  | ((with_reducible refine o_lst ?hv ?_); (case hv => first | exact Nat.le_of_ble_eq_true rfl | assumption))
  | ((with_reducible refine o_isi (t := ?tv) (b := ?bv) ?h1 ?h2 ?_); (case h1 => exact rfl); (case h2 => exact rfl))
  | ((with_reducible refine o_fld (C := ?cv) (fs := ?fv) (d := ?dv) ?h1 ?h2 ?h3 ?_); (case h1 => exact rfl); (case h2 => exact rfl); (case h3 => exact rfl))
  | ((with_reducible refine Exists.intro ?kv (And.intro ?ha ?_)); (case ha => exact rfl)))
local macro_rules | `(tactic| wtm_at "body") => `(tactic| (refine w_body rfl rfl ?_; dsimp only [List.length_cons, List.length_nil, List.drop, List.append_nil, List.map_cons, List.map_nil, List.map, List.cons_append, List.nil_append, Nat.reduceAdd, Nat.reduceSub, List.replicate]))
local macro_rules | `(tactic| wtm_at "meth") => `(tactic| refine ⟨_, _, _, rfl, rfl, rfl, ?_⟩)
local macro_rules | `(tactic| wtm_at "w") => `(tactic| first | with_reducible refine w_seq ?_ | wtm_at "e")
local macro_rules | `(tactic| wtm_at "s") => `(tactic| ((repeat wtm_at "e"); (with_reducible refine w_seq ?_)))
local macro_rules | `(tactic| wtm_at "f") => `(tactic| ((repeat wtm_at "e"); (with_reducible show FP _ _)))
/-! the pen -/
theorem q_draw {n : Nat} {many b : Int} {s : Sto} {Q : D → Sto → Prop} {E : XT} (p : Pen s n b) (hb : b ≤ 1000000000) (h0 : 0 < many) (h1 : many < 18446744073709551616) (h : ∀ k s', 0 ≤ k → k < many → Pen s' n (b + 1) → Fr n s s' → s'.length = s.length → Q (.int k) s') : RP Q E (m__law_draw [.cel n, .int many] s) := by
  obtain ⟨cells, g, l, hs, hc, hg, hgb, hl⟩ := p
  have hm : ∀ x : Int, 0 ≤ x % many ∧ x % many < many := fun x => ⟨Int.emod_nonneg _ (by omega), Int.emod_lt_of_pos _ (by omega)⟩
  wtm_at "body"
  unfold b__law_draw
  repeat wtm_at "w"
  refine pen_left hs ?_
  repeat wtm_at "w"
  refine ⟨fun hk => ?_, fun hk => ?_⟩
  · have hk := of_decide_eq_true hk
    repeat wtm_at "w"
    refine pen_left hs ?_
    repeat wtm_at "w"
    refine o_mod h0 ?_
    repeat wtm_at "w"
    refine pen_left hs ?_
    repeat wtm_at "w"
    refine o_div64 h0 h1 ?_
    repeat wtm_at "w"
    refine ⟨_, pen_putL hs, ?_⟩
    repeat wtm_at "w"
    exact h _ _ (hm l).1 (hm l).2 ⟨cells, g, _, pen_at hs, hc, hg, by omega, Int.ediv_nonneg hl (by omega)⟩ Fr.set (List.length_set ..)
  · have hk := of_decide_eq_false hk
    wtm_at "s"
    repeat wtm_at "e"
    refine pen_begun hs ?_
    wtm_at "s"
    repeat wtm_at "e"
    refine ⟨_, pen_putB hs, ?_⟩
    have hs1 : (s.set n (some (penC cells (g + 1) l)))[n]? = some (some (penC cells (g + 1) l)) := pen_at hs
    have fr1 : Fr n s (s.set n (some (penC cells (g + 1) l))) := Fr.set
    have ln1 : (s.set n (some (penC cells (g + 1) l))).length = s.length := List.length_set ..
    generalize s.set n (some (penC cells (g + 1) l)) = s1 at hs1 fr1 ln1 ⊢
    wtm_at "s"
    repeat wtm_at "e"
    refine o_mul64 (by omega) (by omega) ?_
    repeat wtm_at "e"
    wtm_at "f"
    with_reducible refine w_mid (fun r' s' => s' = s1 ∧ ∃ cell : Int, r' = [some (.cel n), some (.int many), some (.int g), some (.int cell), none, none, none]) ?_ ?_
    · repeat wtm_at "e"
      refine pen_cells hs1 ?_
      repeat wtm_at "e"
      refine o_neNil ?_
      repeat wtm_at "e"
      refine ⟨fun hk => ?_, fun hk => ?_⟩
      · have hc0 : 0 < cells.length := by
          cases cells with
          | nil => cases hk
          | cons a c => simp
        repeat wtm_at "e"
        refine pen_cells hs1 ?_
        repeat wtm_at "e"
        refine pen_cells hs1 ?_
        repeat wtm_at "e"
        rw [List.length_map]
        refine o_mod (by omega) ?_
        have hk0 : 0 ≤ g % (cells.length : Int) := Int.emod_nonneg _ (by omega)
        have hk1 : g % (cells.length : Int) < cells.length := Int.emod_lt_of_pos _ (by omega)
        have hlt : (g % (cells.length : Int)).toNat < cells.length := by omega
        refine o_idxL (k := (g % (cells.length : Int)).toNat) (d := .int (cells[(g % (cells.length : Int)).toNat])) (by omega) (by rw [List.getElem?_map, List.getElem?_eq_getElem hlt]; rfl) ?_
        exact ⟨rfl, _, rfl⟩
      · repeat wtm_at "e"
        exact ⟨rfl, _, rfl⟩
    · rintro r' s' ⟨rfl, cell, rfl⟩
      have pen1 : Pen s' n (b + 1) := ⟨cells, g + 1, l, hs1, hc, by omega, by omega, hl⟩
      wtm_at "f"
      with_reducible refine w_mid (fun r2 s2 => s2 = s' ∧ r2 = [some (.cel n), some (.int many), some (.int g), some (.int cell), none, none, none]) ?_ ?_
      · repeat wtm_at "e"
        refine pen_cells hs1 ?_
        repeat wtm_at "e"
        refine ⟨fun hk => ?_, fun hk => ?_⟩
        · repeat wtm_at "e"
          refine o_pow (by decide) (by decide) (by decide) ?_
          repeat wtm_at "e"
          refine ⟨fun hk2 => ?_, fun hk2 => ?_⟩
          · have hk2 := of_decide_eq_true hk2
            repeat wtm_at "w"
            refine o_pow (by decide) (by decide) (by decide) ?_
            repeat wtm_at "w"
            refine o_div64 h0 h1 ?_
            repeat wtm_at "w"
            refine ⟨_, pen_putL hs1, ?_⟩
            repeat wtm_at "w"
            refine o_pow (by decide) (by decide) (by decide) ?_
            repeat wtm_at "w"
            refine o_mod h0 ?_
            refine h _ _ (hm _).1 (hm _).2 ⟨cells, g + 1, _, pen_at hs1, hc, by omega, by omega, Int.ediv_nonneg ?_ (by omega)⟩ (fr1.trans Fr.set) (by rw [List.length_set]; exact ln1)
            exact Int.sub_nonneg_of_le hk2
          · repeat wtm_at "e"
            exact ⟨rfl, rfl⟩
        · repeat wtm_at "e"
          refine ⟨fun z => (by cases z), fun _ => ?_⟩
          repeat wtm_at "e"
          exact ⟨rfl, rfl⟩
      · rintro r2 s2 ⟨rfl, rfl⟩
        have b1 : 0 ≤ cell % 4294967197 ∧ cell % 4294967197 < 4294967197 := ⟨Int.emod_nonneg _ (by decide), Int.emod_lt_of_pos _ (by decide)⟩
        repeat wtm_at "w"
        refine o_mod (by decide) ?_
        repeat wtm_at "w"
        refine o_mul64 (by omega) (by decide) ?_
        repeat wtm_at "w"
        refine o_mul64 (by decide) (by omega) ?_
        repeat wtm_at "w"
        refine o_mul64 (by omega) (by omega) ?_
        repeat wtm_at "w"
        refine o_mod (by decide) ?_
        generalize hx : (cell % 4294967197 * 48673 + g * (40009 * g + 1511) + 331) % 4294967189 = x
        have b2 : 0 ≤ x ∧ x < 4294967189 := by
          subst hx
          exact ⟨Int.emod_nonneg _ (by decide), Int.emod_lt_of_pos _ (by decide)⟩
        repeat wtm_at "w"
        refine o_mul64 (by omega) (by omega) ?_
        repeat wtm_at "w"
        refine o_mul64 (by decide) (by omega) ?_
        repeat wtm_at "w"
        refine o_mul64 (by decide) (by omega) ?_
        repeat wtm_at "w"
        refine o_mod (by decide) ?_
        generalize hy : (x * x + 75629 * x + 19 * g + 7) % 4294967161 = y
        have b3 : 0 ≤ y ∧ y < 4294967161 := by
          subst hy
          exact ⟨Int.emod_nonneg _ (by decide), Int.emod_lt_of_pos _ (by decide)⟩
        repeat wtm_at "w"
        refine o_mul64 (by omega) (by omega) ?_
        repeat wtm_at "w"
        refine o_mod (by decide) ?_
        repeat wtm_at "w"
        refine o_div64 (by decide) (by decide) ?_
        repeat wtm_at "w"
        refine o_mod h0 ?_
        exact h _ _ (hm _).1 (hm _).2 pen1 fr1 ln1
/-- a pick of a written list -/
theorem q_pick {n : Nat} {b : Int} {l : List D} {s : Sto} {Q : D → Sto → Prop} {E : XT} (p : Pen s n b) (hb : b ≤ 1000000000) (h0 : 0 < l.length) (h1 : l.length < 1000000) (h : ∀ d s', d ∈ l → Pen s' n (b + 1) → Fr n s s' → s'.length = s.length → Q d s') : RP Q E (m__law_pick [.cel n, .lst l] s) := by
  wtm_at "body"
  unfold b__law_pick
  repeat wtm_at "w"
  refine q_draw p hb (by omega) (by omega) fun k s' hk hk1 p' f' e' => ?_
  have hlt : k.toNat < l.length := by omega
  refine o_idxL (k := k.toNat) (d := l[k.toNat]) (by omega) (List.getElem?_eq_getElem hlt) ?_
  exact h _ _ (List.getElem_mem hlt) p' f' e'
theorem q_pen {ns : List Int} {s : Sto} {Q : D → Sto → Prop} {E : XT} (h : ∀ c s', Pen s' s.length 0 → s' = s ++ [some c] → Q (.cel s.length) s') : RP Q E (m__law_pen [.rol (ns.map .int)] s) := by
  wtm_at "body"
  unfold b__law_pen
  repeat wtm_at "w"
  refine w_ok ?_
  repeat wtm_at "w"
  refine o_list rfl ?_
  repeat wtm_at "w"
  refine ⟨by show 3 ≤ 15; decide, ?_⟩
  refine h _ _ ⟨ns.take 63, 0, 0, ?_, by rw [List.length_take]; omega, by decide, by decide, by decide⟩ rfl
  rw [List.getElem?_append_right (Nat.le_refl _), Nat.sub_self]
  show some (some (Ct.dct [(.inr "cells", .lst (cutD (ns.map .int) none (some 63))), (.inr "begun", .int 0), (.inr "left", .int 0)])) = _
  rw [cut_take (by decide), ← List.map_take]
  rfl
end G
set_option Elab.async false
set_option linter.all false
set_option maxRecDepth 100000
set_option maxHeartbeats 4000000
namespace G
open Mp Pl
open PySem (Str sizeLine)
local macro_rules | `(tactic| wtm_at "e") => `(tactic| first
  | with_reducible refine w_set ?_
  | with_reducible refine w_bin ?_
  | ((with_reducible refine w_v (d := ?dv) ?hv ?_); (case hv => exact rfl))
  | with_reducible refine w_c ?_
  | with_reducible refine w_cons ?_
  | with_reducible refine w_nil ?_
  | with_reducible refine w_arg ?_
  | with_reducible refine w_call ?_
  | with_reducible refine w_if ?_
  | with_reducible refine w_ret ?_
  | with_reducible refine w_skip ?_
  | with_reducible refine w_bl ?_
  | with_reducible refine w_tru ?_
  | with_reducible refine w_attr ?_
  | with_reducible refine w_meth ?_
  | with_reducible refine w_chain ?_
  | with_reducible refine w_and ?_
  | with_reducible refine w_or ?_
  | with_reducible refine w_not ?_
  | with_reducible refine w_notT ?_
  | with_reducible refine w_andT ?_
  | with_reducible refine w_orT ?_
  | with_reducible refine w_ifM ?_
  | with_reducible refine w_expr ?_
  | with_reducible refine w_un ?_
  | with_reducible refine w_par2 ?_
  | with_reducible refine w_par3 ?_
  | with_reducible refine w_asg ?_
  | with_reducible refine w_aug ?_
  | with_reducible refine w_sub ?_
  | with_reducible refine w_fld ?_
  | with_reducible refine w_raise ?_
  | with_reducible refine w_raise0 ?_
  | with_reducible refine w_try ?_
  | with_reducible refine w_make ?_
  | with_reducible refine w_tryAs ?_
  | with_reducible refine w_exn ?_
  | ((with_reducible refine o_isx (b := ?bv) ?h1 ?_); (case h1 => exact rfl))
  | with_reducible refine w_superS ?_
  | with_reducible refine w_super ?_
  | with_reducible refine w_star ?_
  | with_reducible refine w_for0 ?_
  | with_reducible refine w_lc0 ?_
  | with_reducible refine w_lc20 ?_
  | with_reducible refine w_seqJ ?_
  | with_reducible refine w_starC ?_
  | with_reducible refine w_spr ?_
  | with_reducible refine w_tryN ?_
  | ((with_reducible refine o_own0 ?hv ?_); (case hv => exact rfl))
  | ((with_reducible refine o_eqO0 ?hv ?_); (case hv => exact rfl))
  | with_reducible refine w_seqI ?_
  | with_reducible refine w_argI ?_
  | with_reducible refine w_opt ?_
  | with_reducible refine w_sli ?_
  | with_reducible refine w_pure ?_
  | with_reducible refine w_disp ?_
  | with_reducible refine w_pairs1 ?_
  | with_reducible refine w_pairs0 ?_
  | with_reducible refine w_retN ?_
  | with_reducible refine w_cnt ?_
  | with_reducible refine w_brk ?_
  | with_reducible refine o_addI ?_
  | with_reducible refine o_addI' ?_
  | with_reducible refine o_sub ?_
  | with_reducible refine o_lt ?_
  | with_reducible refine o_le ?_
  | with_reducible refine o_gt ?_
  | with_reducible refine o_ge ?_
  | with_reducible refine o_eqI ?_
  | with_reducible refine o_neI ?_
  | with_reducible refine o_eqS ?_
  | with_reducible refine o_neS ?_
  | with_reducible refine o_int ?_
  | with_reducible refine o_intB ?_
  | with_reducible refine o_neg ?_
  | with_reducible refine o_abs ?_
  | with_reducible refine o_newL ?_
  | with_reducible refine o_max2 ?_
  | with_reducible refine o_min2 ?_
  | with_reducible refine o_lenL ?_
  | with_reducible refine o_lenT ?_
  | ((with_reducible refine o_tup ?hv ?_); (case hv => first | exact Nat.le_of_ble_eq_true rfl | assumption))
  | ((with_reducible refine o_lst ?hv ?_); (case hv => first | exact Nat.le_of_ble_eq_true rfl | assumption))
  | ((with_reducible refine o_isi (t := ?tv) (b := ?bv) ?h1 ?h2 ?_); (case h1 => exact rfl); (case h2 => exact rfl))
  | ((with_reducible refine o_fld (C := ?cv) (fs := ?fv) (d := ?dv) ?h1 ?h2 ?h3 ?_); (case h1 => exact rfl); (case h2 => exact rfl); (case h3 => exact rfl))
  | ((with_reducible refine Exists.intro ?kv (And.intro ?ha ?_)); (case ha => exact rfl)))
local macro_rules | `(tactic| wtm_at "body") => `(tactic| (refine w_body rfl rfl ?_; dsimp only [List.length_cons, List.length_nil, List.drop, List.append_nil, List.map_cons, List.map_nil, List.map, List.cons_append, List.nil_append, Nat.reduceAdd, Nat.reduceSub, List.replicate]))
local macro_rules | `(tactic| wtm_at "meth") => `(tactic| refine ⟨_, _, _, rfl, rfl, rfl, ?_⟩)
local macro_rules | `(tactic| wtm_at "w") => `(tactic| first | with_reducible refine w_seq ?_ | wtm_at "e")
local macro_rules | `(tactic| wtm_at "s") => `(tactic| ((repeat wtm_at "e"); (with_reducible refine w_seq ?_)))
local macro_rules | `(tactic| wtm_at "f") => `(tactic| ((repeat wtm_at "e"); (with_reducible show FP _ _)))
/-! values of any kind -/
def bigI : Int := 10 ^ 50 * 10 ^ 50 * 10 ^ 9
def oddA : List D := [.non, .bl true, .bl false, .int 0, .int 1, .int (-1), .int 2, .int 7, .int 160, .int 161, .int (10 ^ 30), .str "", .str "a", .str "b", .str "ab", .str "ba", .int bigI, .int (0 - bigI), .str "A", .str "0", .str "1", .str "1/2", .str "fractions", .str "modulo 7", .str "a b", .str " ", .str "aa", .str "abcde"]
def oddB : List D := [.tup [], .lst [], .tup [.str "a"], .lst [.str "a"], .lst [.int 1], .tup [.int 1, .int 2], .tup [.int 2, .int 4], .tup [.int 0, .int 2], .tup [.int 1, .int 1], .tup [.int 1, .int 0], .tup [.int 1, .int (-2)], .tup [.bl true, .int 2], .lst [.int 1, .int 2], .tup [.int 1, .int 2, .int 3]]
/-- flat; a tuple, a list of flat ones; a dict -/
def Odd (s : Sto) (d : D) : Prop := d ∈ oddA ∨ d ∈ oddB ∨ ∃ k, d = .cel k ∧ (s[k]? = some (some (.dct [])) ∨ s[k]? = some (some (.dct [(.inr "a", .int 1)])))
theorem q_odd {n : Nat} {b : Int} {s : Sto} {Q : D → Sto → Prop} {E : XT} (p : Pen s n b) (hb : b ≤ 1000000000) (h : ∀ d s', Odd s' d → Pen s' n (b + 1) → Fr n s s' → s'.length = s.length + 2 → Q d s') : RP Q E (m__law_odd [.cel n] s) := by
  have hp : n < s.length := p.lt
  have z : ∀ {a b : Nat}, a + b ≤ 100 → a + b ≤ sizeLine := fun h => Nat.le_trans h (by decide)
  wtm_at "body"
  unfold b__law_odd
  wtm_at "s"
  repeat wtm_at "e"
  refine o_powV (v := 10 ^ 30) (by decide) (by decide) (by decide) rfl ?_
  repeat wtm_at "e"
  wtm_at "s"
  repeat wtm_at "e"
  refine o_powV (v := 10 ^ 50) (by decide) (by decide) (by decide) rfl ?_
  repeat wtm_at "e"
  refine o_powV (v := 10 ^ 50) (by decide) (by decide) (by decide) rfl ?_
  refine o_mul (mulC_of (a := 400) (b := 400) (by decide +kernel) (by decide +kernel) (by decide) (by decide) (by decide)) ?_
  repeat wtm_at "e"
  refine o_powV (v := 10 ^ 9) (by decide) (by decide) (by decide) rfl ?_
  refine o_mul (mulC_of (a := 400) (b := 400) (by decide +kernel) (by decide +kernel) (by decide) (by decide) (by decide)) ?_
  repeat wtm_at "e"
  refine o_powV (v := 10 ^ 50) (by decide) (by decide) (by decide) rfl ?_
  repeat wtm_at "e"
  refine o_powV (v := 10 ^ 50) (by decide) (by decide) (by decide) rfl ?_
  refine o_mul (mulC_of (a := 400) (b := 400) (by decide +kernel) (by decide +kernel) (by decide) (by decide) (by decide)) ?_
  repeat wtm_at "e"
  refine o_powV (v := 10 ^ 9) (by decide) (by decide) (by decide) rfl ?_
  refine o_mul (mulC_of (a := 400) (b := 400) (by decide +kernel) (by decide +kernel) (by decide) (by decide) (by decide)) ?_
  repeat wtm_at "e"
  refine o_addL (z (by show 16 + 2 ≤ 100; decide)) ?_
  wtm_at "s"
  repeat wtm_at "e"
  refine w_ok (s := s ++ [some (.dct [])]) ?_
  repeat wtm_at "e"
  refine o_addL (z (by show 18 + 15 ≤ 100; decide)) ?_
  wtm_at "s"
  repeat wtm_at "e"
  refine ⟨by show 1 ≤ 15; decide, ?_⟩
  repeat wtm_at "e"
  refine o_addL (z (by show 33 + 11 ≤ 100; decide)) ?_
  repeat wtm_at "e"
  have pen2 := (p.app (some (.dct []))).app (some (.dct [(.inr "a", .int 1)]))
  refine q_pick pen2 hb (by show 0 < 44; decide) (by show 44 < 1000000; decide) fun d s' hd p' f' l' => ?_
  have f' : Fr n (s ++ [some (Ct.dct [])] ++ [some (Ct.dct [(.inr "a", .int 1)])]) s' := f'
  have l2 : s'.length = s.length + 2 := by
    rw [l']
    simp
  have f2 : Fr n s s' := ⟨by omega, fun i hi ne => (f'.2 i (by simp; omega) ne).trans (by
    rw [List.getElem?_append_left (by simp; omega), List.getElem?_append_left hi])⟩
  have c1 : s'[s.length]? = some (some (.dct [])) := (f'.2 s.length (by simp) (by omega)).trans (by simp)
  have c2 : s'[s.length + 1]? = some (some (.dct [(.inr "a", .int 1)])) := (f'.2 (s.length + 1) (by simp) (by omega)).trans (by rw [List.getElem?_append_right (by simp)]; simp)
  refine h d s' ?_ p' f2 l2
  have hd : d ∈ (([D.non, .bl true, .bl false, .int 0, .int 1, .int (-1), .int 2, .int 7, .int 160, .int 161, .int (10 ^ 30), .str "", .str "a", .str "b", .str "ab", .str "ba"] ++ [D.int bigI, .int (0 - bigI)]) ++ [D.str "A", .str "0", .str "1", .str "1/2", .str "fractions", .str "modulo 7", .str "a b", .str " ", .str "aa", .str "abcde", .tup [], .lst [], .cel s.length, .tup [.str "a"], .lst [.str "a"]]) ++ [D.lst [.int 1], .tup [.int 1, .int 2], .tup [.int 2, .int 4], .tup [.int 0, .int 2], .tup [.int 1, .int 1], .tup [.int 1, .int 0], .tup [.int 1, .int (-2)], .tup [.bl true, .int 2], .lst [.int 1, .int 2], .tup [.int 1, .int 2, .int 3], .cel (s ++ [some (Ct.dct [])]).length] := hd
  have e2 : (s ++ [some (Ct.dct [])]).length = s.length + 1 := by simp
  rw [e2] at hd
  simp only [List.mem_append, List.mem_cons, List.not_mem_nil, or_false] at hd
  rcases hd with (((hd | hd) | hd) | hd)
  · rcases hd with rfl | rfl | rfl | rfl | rfl | rfl | rfl | rfl | rfl | rfl | rfl | rfl | rfl | rfl | rfl | rfl
    · exact .inl (List.mem_of_getElem? (i := 0) rfl)
    · exact .inl (List.mem_of_getElem? (i := 1) rfl)
    · exact .inl (List.mem_of_getElem? (i := 2) rfl)
    · exact .inl (List.mem_of_getElem? (i := 3) rfl)
    · exact .inl (List.mem_of_getElem? (i := 4) rfl)
    · exact .inl (List.mem_of_getElem? (i := 5) rfl)
    · exact .inl (List.mem_of_getElem? (i := 6) rfl)
    · exact .inl (List.mem_of_getElem? (i := 7) rfl)
    · exact .inl (List.mem_of_getElem? (i := 8) rfl)
    · exact .inl (List.mem_of_getElem? (i := 9) rfl)
    · exact .inl (List.mem_of_getElem? (i := 10) rfl)
    · exact .inl (List.mem_of_getElem? (i := 11) rfl)
    · exact .inl (List.mem_of_getElem? (i := 12) rfl)
    · exact .inl (List.mem_of_getElem? (i := 13) rfl)
    · exact .inl (List.mem_of_getElem? (i := 14) rfl)
    · exact .inl (List.mem_of_getElem? (i := 15) rfl)
  · rcases hd with rfl | rfl
    · exact .inl (List.mem_of_getElem? (i := 16) rfl)
    · exact .inl (List.mem_of_getElem? (i := 17) rfl)
  · rcases hd with rfl | rfl | rfl | rfl | rfl | rfl | rfl | rfl | rfl | rfl | rfl | rfl | rfl | rfl | rfl
    · exact .inl (List.mem_of_getElem? (i := 18) rfl)
    · exact .inl (List.mem_of_getElem? (i := 19) rfl)
    · exact .inl (List.mem_of_getElem? (i := 20) rfl)
    · exact .inl (List.mem_of_getElem? (i := 21) rfl)
    · exact .inl (List.mem_of_getElem? (i := 22) rfl)
    · exact .inl (List.mem_of_getElem? (i := 23) rfl)
    · exact .inl (List.mem_of_getElem? (i := 24) rfl)
    · exact .inl (List.mem_of_getElem? (i := 25) rfl)
    · exact .inl (List.mem_of_getElem? (i := 26) rfl)
    · exact .inl (List.mem_of_getElem? (i := 27) rfl)
    · exact .inr (.inl (List.mem_of_getElem? (i := 0) rfl))
    · exact .inr (.inl (List.mem_of_getElem? (i := 1) rfl))
    · exact .inr (.inr ⟨_, rfl, .inl c1⟩)
    · exact .inr (.inl (List.mem_of_getElem? (i := 2) rfl))
    · exact .inr (.inl (List.mem_of_getElem? (i := 3) rfl))
  · rcases hd with rfl | rfl | rfl | rfl | rfl | rfl | rfl | rfl | rfl | rfl | rfl
    · exact .inr (.inl (List.mem_of_getElem? (i := 4) rfl))
    · exact .inr (.inl (List.mem_of_getElem? (i := 5) rfl))
    · exact .inr (.inl (List.mem_of_getElem? (i := 6) rfl))
    · exact .inr (.inl (List.mem_of_getElem? (i := 7) rfl))
    · exact .inr (.inl (List.mem_of_getElem? (i := 8) rfl))
    · exact .inr (.inl (List.mem_of_getElem? (i := 9) rfl))
    · exact .inr (.inl (List.mem_of_getElem? (i := 10) rfl))
    · exact .inr (.inl (List.mem_of_getElem? (i := 11) rfl))
    · exact .inr (.inl (List.mem_of_getElem? (i := 12) rfl))
    · exact .inr (.inl (List.mem_of_getElem? (i := 13) rfl))
    · exact .inr (.inr ⟨_, rfl, .inr c2⟩)
end G
set_option Elab.async false
set_option linter.all false
set_option maxRecDepth 100000
set_option maxHeartbeats 4000000
namespace G
open Mp Pl
open PySem (Str sizeLine)
local macro_rules | `(tactic| wtm_at "e") => `(tactic| first
  | with_reducible refine w_set ?_
  | with_reducible refine w_bin ?_
  | ((with_reducible refine w_v (d := ?dv) ?hv ?_); (case hv => exact rfl))
  | with_reducible refine w_c ?_
  | with_reducible refine w_cons ?_
  | with_reducible refine w_nil ?_
  | with_reducible refine w_arg ?_
  | with_reducible refine w_call ?_
  | with_reducible refine w_if ?_
  | with_reducible refine w_ret ?_
  | with_reducible refine w_skip ?_
  | with_reducible refine w_bl ?_
  | with_reducible refine w_tru ?_
  | with_reducible refine w_attr ?_
  | with_reducible refine w_meth ?_
  | with_reducible refine w_chain ?_
  | with_reducible refine w_and ?_
  | with_reducible refine w_or ?_
  | with_reducible refine w_not ?_
  | with_reducible refine w_notT ?_
  | with_reducible refine w_andT ?_
  | with_reducible refine w_orT ?_
  | with_reducible refine w_ifM ?_
  | with_reducible refine w_expr ?_
  | with_reducible refine w_un ?_
  | with_reducible refine w_par2 ?_
  | with_reducible refine w_par3 ?_
  | with_reducible refine w_asg ?_
  | with_reducible refine w_aug ?_
  | with_reducible refine w_sub ?_
  | with_reducible refine w_fld ?_
  | with_reducible refine w_raise ?_
  | with_reducible refine w_raise0 ?_
  | with_reducible refine w_try ?_
  | with_reducible refine w_make ?_
  | with_reducible refine w_tryAs ?_
  | with_reducible refine w_exn ?_
  | ((with_reducible refine o_isx (b := ?bv) ?h1 ?_); (case h1 => exact rfl))
  | with_reducible refine w_superS ?_
  | with_reducible refine w_super ?_
  | with_reducible refine w_star ?_
  | with_reducible refine w_for0 ?_
  | with_reducible refine w_lc0 ?_
  | with_reducible refine w_lc20 ?_
  | with_reducible refine w_seqJ ?_
  | with_reducible refine w_starC ?_
  | with_reducible refine w_spr ?_
  | with_reducible refine w_tryN ?_
  | ((with_reducible refine o_own0 ?hv ?_); (case hv => exact rfl))
  | ((with_reducible refine o_eqO0 ?hv ?_); (case hv => exact rfl))
  | with_reducible refine w_seqI ?_
  | with_reducible refine w_argI ?_
  | with_reducible refine w_opt ?_
  | with_reducible refine w_sli ?_
  | with_reducible refine w_pure ?_
  | with_reducible refine w_disp ?_
  | with_reducible refine w_pairs1 ?_
  | with_reducible refine w_pairs0 ?_
  | with_reducible refine w_retN ?_
  | with_reducible refine w_cnt ?_
  | with_reducible refine w_brk ?_
  | with_reducible refine o_addI ?_
  | with_reducible refine o_addI' ?_
  | with_reducible refine o_sub ?_
  | with_reducible refine o_lt ?_
  | with_reducible refine o_le ?_
  | with_reducible refine o_gt ?_
  | with_reducible refine o_ge ?_
  | with_reducible refine o_eqI ?_
  | with_reducible refine o_neI ?_
  | with_reducible refine o_eqS ?_
  | with_reducible refine o_neS ?_
  | with_reducible refine o_int ?_
  | with_reducible refine o_intB ?_
  | with_reducible refine o_neg ?_
  | with_reducible refine o_abs ?_
  | with_reducible refine o_newL ?_
  | with_reducible refine o_max2 ?_
  | with_reducible refine o_min2 ?_
  | with_reducible refine o_lenL ?_
  | with_reducible refine o_lenT ?_
  | ((with_reducible refine o_tup ?hv ?_); (case hv => first | exact Nat.le_of_ble_eq_true rfl | assumption))
  | ((with_reducible refine o_lst ?hv ?_); (case hv => first | exact Nat.le_of_ble_eq_true rfl | assumption))
  | ((with_reducible refine o_isi (t := ?tv) (b := ?bv) ?h1 ?h2 ?_); (case h1 => exact rfl); (case h2 => exact rfl))
  | ((with_reducible refine o_fld (C := ?cv) (fs := ?fv) (d := ?dv) ?h1 ?h2 ?h3 ?_); (case h1 => exact rfl); (case h2 => exact rfl); (case h3 => exact rfl))
  | ((with_reducible refine Exists.intro ?kv (And.intro ?ha ?_)); (case ha => exact rfl)))
local macro_rules | `(tactic| wtm_at "body") => `(tactic| (refine w_body rfl rfl ?_; dsimp only [List.length_cons, List.length_nil, List.drop, List.append_nil, List.map_cons, List.map_nil, List.map, List.cons_append, List.nil_append, Nat.reduceAdd, Nat.reduceSub, List.replicate]))
local macro_rules | `(tactic| wtm_at "meth") => `(tactic| refine ⟨_, _, _, rfl, rfl, rfl, ?_⟩)
local macro_rules | `(tactic| wtm_at "w") => `(tactic| first | with_reducible refine w_seq ?_ | wtm_at "e")
local macro_rules | `(tactic| wtm_at "s") => `(tactic| ((repeat wtm_at "e"); (with_reducible refine w_seq ?_)))
local macro_rules | `(tactic| wtm_at "f") => `(tactic| ((repeat wtm_at "e"); (with_reducible show FP _ _)))
/-! things: what they are, their repr -/
section
end
/-! repr of things -/
open PySem (PyData) in
def RO (s : Sto) (d : D) : Prop := ∃ p, rdP s 99 d = some p ∧ p.showable = true ∧ p.depth < 60 ∧ p.shown.length ≤ sizeLine
noncomputable def rpT (s : Sto) (d : D) : Str := match rdP s 99 d with
  | some p => p.shown
  | none => ""
section
variable {s : Sto} {Q : D → Sto → Prop} {E : XT} {d : D}
open PySem (PyData)
theorem o_reprX (h1 : RO s d) (h : Q (.str (rpT s d)) s) : RP Q E (reprX [d] s) := by
  obtain ⟨p, e, h2, h3, h4⟩ := h1
  unfold rpT at h
  rw [e] at h
  unfold reprX
  dsimp only
  rw [e]
  dsimp only
  rw [if_pos ⟨h2, h3, h4⟩]
  exact h
def Flat (d : D) : Prop := d = .non ∨ (∃ b, d = .bl b) ∨ (∃ i : Int, d = .int i ∧ i.natAbs < 2 ^ 1000) ∨ ∃ z, d = .str z ∧ (PySem.reprText z).length ≤ 600
theorem flat_rd (h : Flat d) (n : Nat) : ∃ p, rdP s (n + 1) d = some p ∧ p.showable = true ∧ p.hasDict = false ∧ p.depth = 0 ∧ wt p ≤ 600 := by
  rcases h with rfl | ⟨b, rfl⟩ | ⟨i, rfl, hi⟩ | ⟨z, rfl, hz⟩
  · exact ⟨.none, by simp only [rdP], rfl, rfl, rfl, by show 4 ≤ 600; decide⟩
  · exact ⟨.bool b, by simp only [rdP], rfl, rfl, rfl, by show 5 ≤ 600; decide⟩
  · exact ⟨.int i, by simp only [rdP], decide_eq_true (Nat.lt_of_lt_of_le (log_of hi (by decide)) (by decide)), rfl, rfl, by show 600 ≤ 600; decide⟩
  · exact ⟨.str z, by simp only [rdP], rfl, rfl, rfl, hz⟩
theorem flats_rd : ∀ (l : List D) (n : Nat), (∀ d ∈ l, Flat d) → l.length < n → ∃ ps, rdPs s (n + 1) l = some ps ∧ PyData.showableAll ps = true ∧ PyData.hasDictAll ps = false ∧ PyData.depthAll ps = 0 ∧ wtAll ps ≤ 602 * l.length
  | [], n, _, _ => ⟨[], by simp only [rdPs], rfl, rfl, rfl, by show 0 ≤ 602 * 0; decide⟩
  | d :: l, 0, _, hn => by simp at hn
  | d :: l, n + 1, h, hn => by
    obtain ⟨p, e1, a1, a2, a3, a4⟩ := flat_rd (s := s) (h d (by simp)) n
    obtain ⟨ps, e2, b1, b2, b3, b4⟩ := flats_rd l n (fun x hx => h x (by simp [hx])) (by simpa using hn)
    refine ⟨p :: ps, ?_, ?_, ?_, ?_, ?_⟩
    · simp only [rdPs, e1, e2]
      rfl
    · rw [PyData.showableAll, a1, b1]
      rfl
    · rw [PyData.hasDictAll, a2, b2]
      rfl
    · rw [PyData.depthAll, a3, b3]
      rfl
    · rw [wtAll, List.length_cons]
      omega
theorem ro_of {p : PyData} (e : rdP s 99 d = some p) (h1 : p.showable = true) (h2 : p.hasDict = false) (h3 : p.depth < 60) (h4 : wt p ≤ 100000) : RO s d :=
  ⟨p, e, h1, h3, Nat.le_trans (shown_len p h1 h2) (Nat.le_trans h4 (by decide))⟩
theorem ro_lst {l : List D} (h : ∀ d ∈ l, Flat d) (hl : l.length ≤ 50) : RO s (.lst l) := by
  obtain ⟨ps, e, h1, h2, h3, h4⟩ := flats_rd (s := s) l 97 h (by omega)
  refine ro_of (p := .list ps) (by simp only [rdP, e]; rfl) (by rw [PyData.showable]; exact h1) (by rw [PyData.hasDict]; exact h2) (by rw [PyData.depth]; omega) ?_
  rw [wt]
  omega
/-- what is drawn -/
inductive Th (s : Sto) : D → Prop
  | flat {d : D} : Flat d → Th s d
  | tup {l : List D} : (∀ d ∈ l, Flat d) → l.length ≤ 5 → Th s (.tup l)
  | lst {l : List D} : (∀ d ∈ l, Flat d) → l.length ≤ 5 → Th s (.lst l)
  | d0 {k : Nat} : s[k]? = some (some (.dct [])) → Th s (.cel k)
  | d1 {k : Nat} : s[k]? = some (some (.dct [(.inr "a", .int 1)])) → Th s (.cel k)
theorem Th.fr {n : Nat} {b : Int} {s' : Sto} (h : Th s d) (p : Pen s n b) (f : Fr n s s') : Th s' d := by
  have key : ∀ {k : Nat} {m : List (L2.Key × D)}, s[k]? = some (some (.dct m)) → m.length < 3 → s'[k]? = some (some (.dct m)) := fun {k m} e hm => by
    have hk := (List.getElem?_eq_some_iff.mp e).1
    rw [f.2 k hk ?_]
    · exact e
    · intro z
      subst z
      obtain ⟨c, g, l, e2, _⟩ := p
      rw [e2] at e
      unfold penC at e
      cases e
      simp at hm
  cases h with
  | flat h => exact .flat h
  | tup h hl => exact .tup h hl
  | lst h hl => exact .lst h hl
  | d0 h => exact .d0 (key h (by decide))
  | d1 h => exact .d1 (key h (by simp))
theorem flatI {i : Int} (h : i.natAbs < 2 ^ 1000) : Flat (.int i) := .inr (.inr (.inl ⟨i, rfl, h⟩))
theorem flatB {b : Bool} : Flat (.bl b) := .inr (.inl ⟨b, rfl⟩)
theorem flatS {z : Str} (h : (PySem.reprText z).length ≤ 600) : Flat (.str z) := .inr (.inr (.inr ⟨z, rfl, h⟩))
theorem flats2 {a b : D} (ha : Flat a) (hb : Flat b) : ∀ d ∈ [a, b], Flat d := by
  simp only [List.mem_cons, List.not_mem_nil, or_false]
  rintro d (rfl | rfl)
  · exact ha
  · exact hb
theorem oddA_flat : ∀ d ∈ oddA, Flat d := by
  intro d h
  simp only [oddA, List.mem_cons, List.not_mem_nil, or_false] at h
  rcases h with rfl | rfl | rfl | rfl | rfl | rfl | rfl | rfl | rfl | rfl | rfl | rfl | rfl | rfl | rfl | rfl | rfl | rfl | rfl | rfl | rfl | rfl | rfl | rfl | rfl | rfl | rfl | rfl
  all_goals first
    | exact .inl rfl
    | exact flatB
    | exact flatI (by decide +kernel)
    | exact flatS (by decide +kernel)
theorem oddB_th : ∀ d ∈ oddB, Th s d := by
  have f1 : ∀ i : Int, i.natAbs < 10 → Flat (.int i) := fun i hi => flatI (Nat.lt_trans hi (by decide +kernel))
  have fs : ∀ x : D, Flat x → ∀ d ∈ [x], Flat d := fun x hx d hd => by
    rw [List.mem_singleton.mp hd]
    exact hx
  intro d h
  simp only [oddB, List.mem_cons, List.not_mem_nil, or_false] at h
  rcases h with rfl | rfl | rfl | rfl | rfl | rfl | rfl | rfl | rfl | rfl | rfl | rfl | rfl | rfl
  · exact .tup (by simp) (by simp)
  · exact .lst (by simp) (by simp)
  · exact .tup (fs _ (flatS (by decide +kernel))) (by simp)
  · exact .lst (fs _ (flatS (by decide +kernel))) (by simp)
  · exact .lst (fs _ (f1 _ (by decide))) (by simp)
  · exact .tup (flats2 (f1 _ (by decide)) (f1 _ (by decide))) (by simp)
  · exact .tup (flats2 (f1 _ (by decide)) (f1 _ (by decide))) (by simp)
  · exact .tup (flats2 (f1 _ (by decide)) (f1 _ (by decide))) (by simp)
  · exact .tup (flats2 (f1 _ (by decide)) (f1 _ (by decide))) (by simp)
  · exact .tup (flats2 (f1 _ (by decide)) (f1 _ (by decide))) (by simp)
  · exact .tup (flats2 (f1 _ (by decide)) (f1 _ (by decide))) (by simp)
  · exact .tup (flats2 flatB (f1 _ (by decide))) (by simp)
  · exact .lst (flats2 (f1 _ (by decide)) (f1 _ (by decide))) (by simp)
  · refine .tup ?_ (by simp)
    simp only [List.mem_cons, List.not_mem_nil, or_false]
    rintro d (rfl | rfl | rfl)
    · exact f1 _ (by decide)
    · exact f1 _ (by decide)
    · exact f1 _ (by decide)
theorem Odd.th (h : Odd s d) : Th s d := by
  rcases h with h | h | ⟨k, rfl, h | h⟩
  · exact .flat (oddA_flat d h)
  · exact oddB_th d h
  · exact .d0 h
  · exact .d1 h
end
end G
set_option Elab.async false
set_option linter.all false
set_option maxRecDepth 100000
set_option maxHeartbeats 4000000
namespace G
open Mp Pl
open PySem (Str sizeLine)
local macro_rules | `(tactic| wtm_at "e") => `(tactic| first
  | with_reducible refine w_set ?_
  | with_reducible refine w_bin ?_
  | ((with_reducible refine w_v (d := ?dv) ?hv ?_); (case hv => exact rfl))
  | with_reducible refine w_c ?_
  | with_reducible refine w_cons ?_
  | with_reducible refine w_nil ?_
  | with_reducible refine w_arg ?_
  | with_reducible refine w_call ?_
  | with_reducible refine w_if ?_
  | with_reducible refine w_ret ?_
  | with_reducible refine w_skip ?_
  | with_reducible refine w_bl ?_
  | with_reducible refine w_tru ?_
  | with_reducible refine w_attr ?_
  | with_reducible refine w_meth ?_
  | with_reducible refine w_chain ?_
  | with_reducible refine w_and ?_
  | with_reducible refine w_or ?_
  | with_reducible refine w_not ?_
  | with_reducible refine w_notT ?_
  | with_reducible refine w_andT ?_
  | with_reducible refine w_orT ?_
  | with_reducible refine w_ifM ?_
  | with_reducible refine w_expr ?_
  | with_reducible refine w_un ?_
  | with_reducible refine w_par2 ?_
  | with_reducible refine w_par3 ?_
  | with_reducible refine w_asg ?_
  | with_reducible refine w_aug ?_
  | with_reducible refine w_sub ?_
  | with_reducible refine w_fld ?_
  | with_reducible refine w_raise ?_
  | with_reducible refine w_raise0 ?_
  | with_reducible refine w_try ?_
  | with_reducible refine w_make ?_
  | with_reducible refine w_tryAs ?_
  | with_reducible refine w_exn ?_
  | ((with_reducible refine o_isx (b := ?bv) ?h1 ?_); (case h1 => exact rfl))
  | with_reducible refine w_superS ?_
  | with_reducible refine w_super ?_
  | with_reducible refine w_star ?_
  | with_reducible refine w_for0 ?_
  | with_reducible refine w_lc0 ?_
  | with_reducible refine w_lc20 ?_
  | with_reducible refine w_seqJ ?_
  | with_reducible refine w_starC ?_
  | with_reducible refine w_spr ?_
  | with_reducible refine w_tryN ?_
  | ((with_reducible refine o_own0 ?hv ?_); (case hv => exact rfl))
  | ((with_reducible refine o_eqO0 ?hv ?_); (case hv => exact rfl))
  | with_reducible refine w_seqI ?_
  | with_reducible refine w_argI ?_
  | with_reducible refine w_opt ?_
  | with_reducible refine w_sli ?_
  | with_reducible refine w_pure ?_
  | with_reducible refine w_disp ?_
  | with_reducible refine w_pairs1 ?_
  | with_reducible refine w_pairs0 ?_
  | with_reducible refine w_retN ?_
  | with_reducible refine w_cnt ?_
  | with_reducible refine w_brk ?_
  | with_reducible refine o_addI ?_
  | with_reducible refine o_addI' ?_
  | with_reducible refine o_sub ?_
  | with_reducible refine o_lt ?_
  | with_reducible refine o_le ?_
  | with_reducible refine o_gt ?_
  | with_reducible refine o_ge ?_
  | with_reducible refine o_eqI ?_
  | with_reducible refine o_neI ?_
  | with_reducible refine o_eqS ?_
  | with_reducible refine o_neS ?_
  | with_reducible refine o_int ?_
  | with_reducible refine o_intB ?_
  | with_reducible refine o_neg ?_
  | with_reducible refine o_abs ?_
  | with_reducible refine o_newL ?_
  | with_reducible refine o_max2 ?_
  | with_reducible refine o_min2 ?_
  | with_reducible refine o_lenL ?_
  | with_reducible refine o_lenT ?_
  | ((with_reducible refine o_tup ?hv ?_); (case hv => first | exact Nat.le_of_ble_eq_true rfl | assumption))
  | ((with_reducible refine o_lst ?hv ?_); (case hv => first | exact Nat.le_of_ble_eq_true rfl | assumption))
  | ((with_reducible refine o_isi (t := ?tv) (b := ?bv) ?h1 ?h2 ?_); (case h1 => exact rfl); (case h2 => exact rfl))
  | ((with_reducible refine o_fld (C := ?cv) (fs := ?fv) (d := ?dv) ?h1 ?h2 ?h3 ?_); (case h1 => exact rfl); (case h2 => exact rfl); (case h3 => exact rfl))
  | ((with_reducible refine Exists.intro ?kv (And.intro ?ha ?_)); (case ha => exact rfl)))
local macro_rules | `(tactic| wtm_at "body") => `(tactic| (refine w_body rfl rfl ?_; dsimp only [List.length_cons, List.length_nil, List.drop, List.append_nil, List.map_cons, List.map_nil, List.map, List.cons_append, List.nil_append, Nat.reduceAdd, Nat.reduceSub, List.replicate]))
local macro_rules | `(tactic| wtm_at "meth") => `(tactic| refine ⟨_, _, _, rfl, rfl, rfl, ?_⟩)
local macro_rules | `(tactic| wtm_at "w") => `(tactic| first | with_reducible refine w_seq ?_ | wtm_at "e")
local macro_rules | `(tactic| wtm_at "s") => `(tactic| ((repeat wtm_at "e"); (with_reducible refine w_seq ?_)))
local macro_rules | `(tactic| wtm_at "f") => `(tactic| ((repeat wtm_at "e"); (with_reducible show FP _ _)))
/-! errors as values: what they are -/
def tys : List String := ["ValueError", "LookupError", "ArithmeticError", "OverflowError", "RuntimeError", "KeyError", "IndexError", "ZeroDivisionError"]
def owns : List Str := ["InvalidPrime", "InvalidNumber", "InvalidLetters", "InvalidCost", "InvalidWord", "InvalidCount", "InvalidMachine", "InvalidAnswer", "InvalidRow", "InvalidCoordinates", "InvalidText", "OtherField", "OtherLetters", "TooSmall", "Contradiction", "OutOfRange", "NotKnown", "NotNow", "Nothing", "Done", "NoQuotient", "NotFinite", "TooMany", "TooLong", "LimitReached"]
def rowsF : List (Str × Str) := [("InvalidPrime", "value"), ("InvalidNumber", "value"), ("InvalidLetters", "value"), ("InvalidCost", "value"), ("InvalidWord", "value"), ("InvalidCount", "value"), ("InvalidMachine", "value"), ("InvalidAnswer", "value"), ("InvalidText", "value"), ("InvalidRow", "value"), ("TooSmall", "value"), ("Contradiction", "value"), ("OutOfRange", "lookup"), ("NotKnown", "lookup"), ("NotNow", "lookup"), ("TooMany", "overflow"), ("LimitReached", "runtime")]
def rowsB : List (Str × Str) := [("InvalidCoordinates", "value"), ("OtherField", "value"), ("OtherLetters", "value"), ("Nothing", "lookup"), ("Done", "lookup"), ("NoQuotient", "arithmetic"), ("NotFinite", "arithmetic"), ("TooLong", "overflow")]
def kvT (C : Str) (n : String) : Bool := ((isv0.lookup C).bind fun t => t.1.lookup n).getD false
def kvC (C n : Str) : Bool := ((isv0.lookup C).bind fun t => t.2.lookup n).getD false
theorem key1 : ∀ C ∈ owns, ∀ n ∈ tys, ((isv0.lookup C).bind fun t => t.1.lookup n).isSome = true := by decide +kernel
theorem key2 : ∀ C ∈ owns, ∀ n ∈ owns, ((isv0.lookup C).bind fun t => t.2.lookup n).isSome = true := by decide +kernel
section
variable {s : Sto} {Q : D → Sto → Prop} {E : XT} {C : Str} {d : D}
theorem o_isvT {n : String} (hC : C ∈ owns) (hn : n ∈ tys) (h : Q (.bl (kvT C n)) s) : RP Q E (isvD isv0 [.err C, .ty n] s) := by
  have k := key1 C hC n hn
  unfold kvT at h
  unfold isvD
  dsimp only
  cases e1 : isv0.lookup C with
  | none => rw [e1] at k; cases k
  | some t =>
    rw [e1] at k h
    dsimp only [Option.bind] at k h ⊢
    cases e2 : t.1.lookup n with
    | none => rw [e2] at k; cases k
    | some b =>
      rw [e2] at h
      exact h
theorem o_isvC {n : Str} (hC : C ∈ owns) (hn : n ∈ owns) (h : Q (.bl (kvC C n)) s) : RP Q E (isvD isv0 [.err C, .glo n] s) := by
  have k := key2 C hC n hn
  unfold kvC at h
  unfold isvD
  dsimp only
  cases e1 : isv0.lookup C with
  | none => rw [e1] at k; cases k
  | some t =>
    rw [e1] at k h
    dsimp only [Option.bind] at k h ⊢
    cases e2 : t.2.lookup n with
    | none => rw [e2] at k; cases k
    | some b =>
      rw [e2] at h
      exact h
theorem w_errM {m : DM (List D)} {r : En} (h : RP (fun ds s' => ∃ d, ds = [d] ∧ Q (.err C) s') E (m r s)) : RP Q E (errM C m r s) := w_bind (h.mono (fun ds s ⟨d, e, h⟩ => by
  subst e
  exact h) fun _ _ _ h => h)
theorem w_errFM {m : DM (List D)} {r : En} (h : RP (fun ds s' => ∃ d, ds = [d] ∧ Q d s') E (m r s)) : RP Q E (errFM m r s) := w_bind (h.mono (fun ds s ⟨d, e, h⟩ => by
  subst e
  exact h) fun _ _ _ h => h)
theorem o_appE {l : List D} {x : D} (hl : l.length ≤ 1000) (h : Q .non (s ++ [some (.lst (l ++ [x]))])) : RP Q E (appD (.cel s.length) [x] (s ++ [some (.lst l)])) := by
  have hz : sizeLine = 16777216 := by decide
  refine o_app (l := l) (by rw [List.getElem?_append_right (Nat.le_refl _), Nat.sub_self]; rfl) (by omega) ?_
  rw [List.set_append_right _ _ (Nat.le_refl _), Nat.sub_self]
  exact h
theorem o_extE {l m : List D} (hl : l.length ≤ 1000) (hm : m.length ≤ 1000) (h : Q .non (s ++ [some (.lst (l ++ m))])) : RP Q E (extD (.cel s.length) [.lst m] (s ++ [some (.lst l)])) := by
  have hz : sizeLine = 16777216 := by decide
  refine o_ext (l := l) (l2 := m) (by rw [List.getElem?_append_right (Nat.le_refl _), Nat.sub_self]; rfl) rfl (by omega) ?_
  rw [List.set_append_right _ _ (Nat.le_refl _), Nat.sub_self]
  exact h
theorem o_isL {l : List D} : isLstD (s ++ [some (.lst l)]) (.cel s.length) = true := by
  show (lstOf _ (.cel s.length)).isSome = true
  unfold lstOf lstX
  dsimp only
  rw [List.getElem?_append_right (Nat.le_refl _), Nat.sub_self]
  rfl
theorem o_addCL {l m : List D} (hl : l.length ≤ 1000) (hm : m.length ≤ 1000) (h : Q (.lst (l ++ m)) (s ++ [some (.lst l)])) : RP Q E (addD (.cel s.length) (.lst m) (s ++ [some (.lst l)])) := by
  have hz : sizeLine = 16777216 := by decide
  unfold addD
  have e : lstX (s ++ [some (.lst l)]) (.cel s.length) = some l := by
    unfold lstX
    dsimp only
    rw [List.getElem?_append_right (Nat.le_refl _), Nat.sub_self]
    rfl
  dsimp only
  rw [e]
  dsimp only [lstX]
  rw [if_pos (by omega)]
  exact h
/-- the flags, the names -/
def flags (C : Str) : List Bool := [kvT C "ValueError", kvT C "LookupError", kvT C "ArithmeticError" && !kvT C "OverflowError", kvT C "OverflowError", kvT C "RuntimeError", kvT C "KeyError" || kvT C "IndexError", kvT C "ZeroDivisionError"]
def flagN : List Str := ["value", "lookup", "arithmetic", "overflow", "runtime", "place", "zero"]
def kindsL (C : Str) : List Str := ((flagN.zip (flags C)).filter fun p => p.2).map fun p => p.1
def classL (C : Str) : List Bool := owns.map (kvC C)
theorem rows_ok : ∀ q ∈ rowsF ++ rowsB, q.1 ∈ owns ∧ kindsL q.1 = [q.2] ∧ (classL q.1).count true = 1 ∧ PySem.PyData.strOk q.2 = true := by decide +kernel
end
end G
set_option Elab.async false
set_option linter.all false
set_option maxRecDepth 100000
set_option maxHeartbeats 4000000
namespace G
open Mp Pl
open PySem (Str sizeLine)
local macro_rules | `(tactic| wtm_at "e") => `(tactic| first
  | with_reducible refine w_set ?_
  | with_reducible refine w_bin ?_
  | ((with_reducible refine w_v (d := ?dv) ?hv ?_); (case hv => exact rfl))
  | with_reducible refine w_c ?_
  | with_reducible refine w_cons ?_
  | with_reducible refine w_nil ?_
  | with_reducible refine w_arg ?_
  | with_reducible refine w_call ?_
  | with_reducible refine w_if ?_
  | with_reducible refine w_ret ?_
  | with_reducible refine w_skip ?_
  | with_reducible refine w_bl ?_
  | with_reducible refine w_tru ?_
  | with_reducible refine w_attr ?_
  | with_reducible refine w_meth ?_
  | with_reducible refine w_chain ?_
  | with_reducible refine w_and ?_
  | with_reducible refine w_or ?_
  | with_reducible refine w_not ?_
  | with_reducible refine w_notT ?_
  | with_reducible refine w_andT ?_
  | with_reducible refine w_orT ?_
  | with_reducible refine w_ifM ?_
  | with_reducible refine w_expr ?_
  | with_reducible refine w_un ?_
  | with_reducible refine w_par2 ?_
  | with_reducible refine w_par3 ?_
  | with_reducible refine w_asg ?_
  | with_reducible refine w_aug ?_
  | with_reducible refine w_sub ?_
  | with_reducible refine w_fld ?_
  | with_reducible refine w_raise ?_
  | with_reducible refine w_raise0 ?_
  | with_reducible refine w_try ?_
  | with_reducible refine w_make ?_
  | with_reducible refine w_tryAs ?_
  | with_reducible refine w_exn ?_
  | ((with_reducible refine o_isx (b := ?bv) ?h1 ?_); (case h1 => exact rfl))
  | with_reducible refine w_superS ?_
  | with_reducible refine w_super ?_
  | with_reducible refine w_star ?_
  | with_reducible refine w_for0 ?_
  | with_reducible refine w_lc0 ?_
  | with_reducible refine w_lc20 ?_
  | with_reducible refine w_seqJ ?_
  | with_reducible refine w_starC ?_
  | with_reducible refine w_spr ?_
  | with_reducible refine w_tryN ?_
  | ((with_reducible refine o_own0 ?hv ?_); (case hv => exact rfl))
  | ((with_reducible refine o_eqO0 ?hv ?_); (case hv => exact rfl))
  | with_reducible refine w_seqI ?_
  | with_reducible refine w_argI ?_
  | with_reducible refine w_opt ?_
  | with_reducible refine w_sli ?_
  | with_reducible refine w_pure ?_
  | with_reducible refine w_disp ?_
  | with_reducible refine w_pairs1 ?_
  | with_reducible refine w_pairs0 ?_
  | with_reducible refine w_retN ?_
  | with_reducible refine w_cnt ?_
  | with_reducible refine w_brk ?_
  | with_reducible refine o_addI ?_
  | with_reducible refine o_addI' ?_
  | with_reducible refine o_sub ?_
  | with_reducible refine o_lt ?_
  | with_reducible refine o_le ?_
  | with_reducible refine o_gt ?_
  | with_reducible refine o_ge ?_
  | with_reducible refine o_eqI ?_
  | with_reducible refine o_neI ?_
  | with_reducible refine o_eqS ?_
  | with_reducible refine o_neS ?_
  | with_reducible refine o_int ?_
  | with_reducible refine o_intB ?_
  | with_reducible refine o_neg ?_
  | with_reducible refine o_abs ?_
  | with_reducible refine o_newL ?_
  | with_reducible refine o_max2 ?_
  | with_reducible refine o_min2 ?_
  | with_reducible refine o_lenL ?_
  | with_reducible refine o_lenT ?_
  | ((with_reducible refine o_tup ?hv ?_); (case hv => first | exact Nat.le_of_ble_eq_true rfl | assumption))
  | ((with_reducible refine o_lst ?hv ?_); (case hv => first | exact Nat.le_of_ble_eq_true rfl | assumption))
  | ((with_reducible refine o_isi (t := ?tv) (b := ?bv) ?h1 ?h2 ?_); (case h1 => exact rfl); (case h2 => exact rfl))
  | ((with_reducible refine o_fld (C := ?cv) (fs := ?fv) (d := ?dv) ?h1 ?h2 ?h3 ?_); (case h1 => exact rfl); (case h2 => exact rfl); (case h3 => exact rfl))
  | ((with_reducible refine Exists.intro ?kv (And.intro ?ha ?_)); (case ha => exact rfl)))
local macro_rules | `(tactic| wtm_at "body") => `(tactic| (refine w_body rfl rfl ?_; dsimp only [List.length_cons, List.length_nil, List.drop, List.append_nil, List.map_cons, List.map_nil, List.map, List.cons_append, List.nil_append, Nat.reduceAdd, Nat.reduceSub, List.replicate]))
local macro_rules | `(tactic| wtm_at "meth") => `(tactic| refine ⟨_, _, _, rfl, rfl, rfl, ?_⟩)
local macro_rules | `(tactic| wtm_at "w") => `(tactic| first | with_reducible refine w_seq ?_ | wtm_at "e")
local macro_rules | `(tactic| wtm_at "s") => `(tactic| ((repeat wtm_at "e"); (with_reducible refine w_seq ?_)))
local macro_rules | `(tactic| wtm_at "f") => `(tactic| ((repeat wtm_at "e"); (with_reducible show FP _ _)))
/-! errors as values: the law -/
section
variable {s : Sto} {Q : D → Sto → Prop} {E : XT} {C : Str} {d : D}
/-- nothing that was there is changed -/
structure Pre (s s' : Sto) : Prop where
  le : s.length ≤ s'.length
  same : ∀ i, i < s.length → s'[i]? = s[i]?
theorem Pre.app1 {o : Option Ct} : Pre s (s ++ [o]) := ⟨by rw [List.length_append]; omega, fun i hi => List.getElem?_append_left hi⟩
theorem Pre.trans {s' s'' : Sto} (h : Pre s s') (k : Pre s' s'') : Pre s s'' := ⟨Nat.le_trans h.le k.le, fun i hi => (k.same i (Nat.lt_of_lt_of_le hi h.le)).trans (h.same i hi)⟩
theorem Pre.at {s' : Sto} {k : Nat} {c : Option Ct} (h : Pre s s') (e : s[k]? = some c) : s'[k]? = some c := (h.same k (List.getElem?_eq_some_iff.mp e).1).trans e
theorem pen_pre {s' : Sto} {n : Nat} {b : Int} (p : Pen s n b) (h : Pre s s') : Pen s' n b := by
  obtain ⟨cells, g, l, hs, hc⟩ := p
  exact ⟨cells, g, l, h.at hs, hc⟩
theorem Th.pre {s' : Sto} (h : Th s d) (p : Pre s s') : Th s' d := by
  cases h with
  | flat h => exact .flat h
  | tup h hl => exact .tup h hl
  | lst h hl => exact .lst h hl
  | d0 h => exact .d0 (p.at h)
  | d1 h => exact .d1 (p.at h)
theorem w_andB {a b : DE} {r : En} (h : RP (fun x s1 => ∃ k1, x = .bl k1 ∧ ∃ k2, RP (fun y s2 => s2 = s1 ∧ y = .bl k2) noX (b r s1) ∧ Q (.bl (k1 && k2)) s1) E (a r s)) : RP Q E (andV a b r s) := w_and (h.mono (fun x s1 ⟨k1, e, k2, hb, h⟩ => by
  subst e
  refine ⟨k1, rfl, fun z => ?_, fun z => ?_⟩
  · subst z
    exact hb.imp fun y s2 ⟨e2, e3⟩ => by
      subst e2 e3
      exact h
  · subst z
    exact h) fun _ _ _ h => h)
theorem w_orB {a b : DE} {r : En} (h : RP (fun x s1 => ∃ k1, x = .bl k1 ∧ ∃ k2, RP (fun y s2 => s2 = s1 ∧ y = .bl k2) noX (b r s1) ∧ Q (.bl (k1 || k2)) s1) E (a r s)) : RP Q E (orV a b r s) := w_or (h.mono (fun x s1 ⟨k1, e, k2, hb, h⟩ => by
  subst e
  refine ⟨k1, rfl, fun z => ?_, fun z => ?_⟩
  · subst z
    exact hb.imp fun y s2 ⟨e2, e3⟩ => by
      subst e2 e3
      exact h
  · subst z
    exact h) fun _ _ _ h => h)
theorem w_notB {a : DE} {r : En} {k : Bool} (h : RP (fun y s2 => s2 = s ∧ y = .bl k) noX (a r s)) : RP (fun y s2 => s2 = s ∧ y = .bl (!k)) noX (notV a r s) := w_not (w_tru (h.mono (fun y s2 ⟨e, e2⟩ => by
  subst e e2
  exact ⟨k, rfl, rfl, rfl⟩) fun _ _ _ h => h))
theorem s_isvT {n : String} {r : En} (h0 : r[0]? = some (some (.err C))) (hC : C ∈ owns) (hn : n ∈ tys) : RP (fun y s2 => s2 = s ∧ y = .bl (kvT C n)) E (argM (isvD isv0) (consA (vM 0) (consA (cM (.ty n)) nilA)) r s) :=
  w_arg (w_cons (w_v h0 (w_cons (w_c (w_nil (o_isvT hC hn ⟨rfl, rfl⟩))))))
theorem g_isvT {n : String} {r : En} (h0 : r[0]? = some (some (.err C))) (hC : C ∈ owns) (hn : n ∈ tys) (h : Q (.bl (kvT C n)) s) : RP Q E (argM (isvD isv0) (consA (vM 0) (consA (cM (.ty n)) nilA)) r s) :=
  w_arg (w_cons (w_v h0 (w_cons (w_c (w_nil (o_isvT hC hn h))))))
theorem g_isvC {n : Str} {r : En} (h0 : r[0]? = some (some (.err C))) (hC : C ∈ owns) (hn : n ∈ owns) (h : Q (.bl (kvC C n)) s) : RP Q E (argM (isvD isv0) (consA (vM 0) (consA (cM (.glo n)) nilA)) r s) :=
  w_arg (w_cons (w_v h0 (w_cons (w_c (w_nil (o_isvC hC hn h))))))
theorem w_ice {i n : Nat} {r : En} {l : List D} (h0 : r[i]? = some (some (.cel n))) (hs : s[n]? = some (some (.lst l))) (h : Q (.lst l) (s.set n none)) : RP Q E (iceV i r s) := by
  unfold iceV
  rw [h0]
  dsimp only
  rw [hs]
  exact h
theorem q_kinds (hC : C ∈ owns) (h : ∀ s', Pre s s' → Q (.lst ((kindsL C).map .str)) s') : RP Q E (m__law_kinds [.err C] s) := by
  have hz : sizeLine = 16777216 := by decide
  wtm_at "body"
  unfold b__law_kinds
  refine w_seq (w_set (w_arg (w_cons (g_isvT rfl hC (by decide) (w_cons (g_isvT rfl hC (by decide) (w_nil (o_lstC (by show 2 ≤ _; omega) ?_))))))))
  refine w_seq (w_expr (w_bm (w_v rfl ⟨o_isL, w_cons (w_andB (g_isvT rfl hC (by decide) ⟨_, rfl, _, w_notB (s_isvT rfl hC (by decide)), w_nil (o_appE (by show 2 ≤ 1000; decide) ?_)⟩))⟩)))
  refine w_seq (w_expr (w_bm (w_v rfl ⟨o_isL, w_cons (w_arg (w_cons (g_isvT rfl hC (by decide) (w_cons (g_isvT rfl hC (by decide) (w_nil (o_lst (by show 2 ≤ _; omega) (w_nil (o_extE (by show 3 ≤ _; decide) (by show 2 ≤ _; decide) ?_)))))))))⟩)))
  refine w_seq (w_expr (w_bm (w_v rfl ⟨o_isL, w_cons (w_arg (w_cons (w_orB (g_isvT rfl hC (by decide) ⟨_, rfl, _, s_isvT rfl hC (by decide), w_cons (g_isvT rfl hC (by decide) (w_nil (o_lst (by show 2 ≤ _; omega) (w_nil (o_extE (by show 5 ≤ _; decide) (by show 2 ≤ _; decide) ?_)))))⟩))))⟩)))
  wtm_at "s"
  repeat wtm_at "e"
  refine w_ice rfl (l := (flags C).map D.bl) (by rw [List.getElem?_append_right (Nat.le_refl _), Nat.sub_self]; rfl) ?_
  repeat wtm_at "e"
  refine RP.of (a := (⟨((flagN.map D.str).zip ((flags C).map D.bl)).map fun p => .tup [p.1, p.2], none⟩ : Src)) rfl ?_
  refine w_lcY (flagN.zip (flags C)) (fun p => .tup [.str p.1, .bl p.2]) (fun p => .str p.1) (fun p => p.2) rfl rfl (by show 7 ≤ _; omega) (fun x hx => ⟨_, rfl, w_tru (w_v rfl ⟨_, rfl, rfl, rfl⟩), fun _ => w_v rfl ⟨rfl, rfl⟩⟩) ?_
  refine o_newL ?_
  have e : (((flagN.zip (flags C)).filter fun p => p.2).map fun p => D.str p.1) = (kindsL C).map .str := by
    unfold kindsL
    rw [List.map_map]
    rfl
  rw [e]
  refine h _ ⟨by simp, fun i hi => ?_⟩
  rw [List.getElem?_set_ne (by omega), List.getElem?_append_left hi]
theorem q_classes (hC : C ∈ owns) (h : ∀ s', Pre s s' → Q (.lst ((classL C).map .bl)) s') : RP Q E (m__law_classes [.err C] s) := by
  have hz : sizeLine = 16777216 := by decide
  wtm_at "body"
  unfold b__law_classes
  refine w_seq (w_set (w_arg (w_cons (g_isvC rfl hC (by decide +kernel) (w_cons (g_isvC rfl hC (by decide +kernel) (w_cons (g_isvC rfl hC (by decide +kernel) (w_nil (o_lstC (by show 3 ≤ _; omega) ?_))))))))))
  refine w_seq (w_expr (w_bm (w_v rfl ⟨o_isL, w_cons (w_arg (w_cons (g_isvC rfl hC (by decide +kernel) (w_cons (g_isvC rfl hC (by decide +kernel) (w_cons (g_isvC rfl hC (by decide +kernel) (w_nil (o_lst (by show 3 ≤ _; omega) (w_nil (o_extE (by show 3 ≤ 1000; decide) (by show 3 ≤ 1000; decide) ?_)))))))))))⟩)))
  refine w_seq (w_expr (w_bm (w_v rfl ⟨o_isL, w_cons (w_arg (w_cons (g_isvC rfl hC (by decide +kernel) (w_cons (g_isvC rfl hC (by decide +kernel) (w_cons (g_isvC rfl hC (by decide +kernel) (w_nil (o_lst (by show 3 ≤ _; omega) (w_nil (o_extE (by show 6 ≤ 1000; decide) (by show 3 ≤ 1000; decide) ?_)))))))))))⟩)))
  refine w_seq (w_expr (w_bm (w_v rfl ⟨o_isL, w_cons (w_arg (w_cons (g_isvC rfl hC (by decide +kernel) (w_cons (g_isvC rfl hC (by decide +kernel) (w_cons (g_isvC rfl hC (by decide +kernel) (w_nil (o_lst (by show 3 ≤ _; omega) (w_nil (o_extE (by show 9 ≤ 1000; decide) (by show 3 ≤ 1000; decide) ?_)))))))))))⟩)))
  refine w_seq (w_expr (w_bm (w_v rfl ⟨o_isL, w_cons (w_arg (w_cons (g_isvC rfl hC (by decide +kernel) (w_cons (g_isvC rfl hC (by decide +kernel) (w_cons (g_isvC rfl hC (by decide +kernel) (w_nil (o_lst (by show 3 ≤ _; omega) (w_nil (o_extE (by show 12 ≤ 1000; decide) (by show 3 ≤ 1000; decide) ?_)))))))))))⟩)))
  refine w_seq (w_expr (w_bm (w_v rfl ⟨o_isL, w_cons (w_arg (w_cons (g_isvC rfl hC (by decide +kernel) (w_cons (g_isvC rfl hC (by decide +kernel) (w_cons (g_isvC rfl hC (by decide +kernel) (w_nil (o_lst (by show 3 ≤ _; omega) (w_nil (o_extE (by show 15 ≤ 1000; decide) (by show 3 ≤ 1000; decide) ?_)))))))))))⟩)))
  refine w_seq (w_expr (w_bm (w_v rfl ⟨o_isL, w_cons (w_arg (w_cons (g_isvC rfl hC (by decide +kernel) (w_cons (g_isvC rfl hC (by decide +kernel) (w_cons (g_isvC rfl hC (by decide +kernel) (w_nil (o_lst (by show 3 ≤ _; omega) (w_nil (o_extE (by show 18 ≤ 1000; decide) (by show 3 ≤ 1000; decide) ?_)))))))))))⟩)))
  refine w_seq (w_expr (w_bm (w_v rfl ⟨o_isL, w_cons (w_arg (w_cons (g_isvC rfl hC (by decide +kernel) (w_cons (g_isvC rfl hC (by decide +kernel) (w_cons (g_isvC rfl hC (by decide +kernel) (w_nil (o_lst (by show 3 ≤ _; omega) (w_nil (o_extE (by show 21 ≤ 1000; decide) (by show 3 ≤ 1000; decide) ?_)))))))))))⟩)))
  refine w_ret (w_bin (w_v rfl (w_arg (w_cons (g_isvC rfl hC (by decide +kernel) (w_nil (o_lst (by show 1 ≤ _; omega) (o_addCL (by show 24 ≤ 1000; decide) (by show 1 ≤ 1000; decide) ?_))))))))
  exact h _ Pre.app1
def rowsD (d : D) : List D := rowsF.map fun q => .tup [.err q.1, d, d, .str q.2]
def bareD : List D := rowsB.map fun q => .tup [.err q.1, .str q.2]
theorem q_filled (h : ∀ s', s'[s.length]? = some (some (.lst (rowsD d))) → Pre s s' → Q (.cel s.length) s') : RP Q E (m__law_filled [d] s) := by
  have hz : sizeLine = 16777216 := by decide
  wtm_at "body"
  unfold b__law_filled
  refine w_seq (w_set (w_arg (w_nil (o_lstC (by show 0 ≤ _; omega) ?_))))
  refine w_seq (w_expr (w_bm (w_v rfl ⟨o_isL, w_cons (w_arg (w_cons (w_errM (w_cons (w_v rfl (w_nil (⟨_, rfl, w_cons (w_errFM (w_cons (w_v rfl (w_nil (⟨_, rfl, w_cons (w_errFM (w_cons (w_v rfl (w_nil (⟨_, rfl, w_cons (w_c (w_nil (o_tup (by show 4 ≤ _; omega) (w_nil (o_appE (by show 0 ≤ 1000; decide) ?_)))))⟩)))))⟩)))))⟩)))))))⟩)))
  refine w_seq (w_expr (w_bm (w_v rfl ⟨o_isL, w_cons (w_arg (w_cons (w_errM (w_cons (w_v rfl (w_nil (⟨_, rfl, w_cons (w_errFM (w_cons (w_v rfl (w_nil (⟨_, rfl, w_cons (w_errFM (w_cons (w_v rfl (w_nil (⟨_, rfl, w_cons (w_c (w_nil (o_tup (by show 4 ≤ _; omega) (w_nil (o_appE (by show 1 ≤ 1000; decide) ?_)))))⟩)))))⟩)))))⟩)))))))⟩)))
  refine w_seq (w_expr (w_bm (w_v rfl ⟨o_isL, w_cons (w_arg (w_cons (w_errM (w_cons (w_v rfl (w_nil (⟨_, rfl, w_cons (w_errFM (w_cons (w_v rfl (w_nil (⟨_, rfl, w_cons (w_errFM (w_cons (w_v rfl (w_nil (⟨_, rfl, w_cons (w_c (w_nil (o_tup (by show 4 ≤ _; omega) (w_nil (o_appE (by show 2 ≤ 1000; decide) ?_)))))⟩)))))⟩)))))⟩)))))))⟩)))
  refine w_seq (w_expr (w_bm (w_v rfl ⟨o_isL, w_cons (w_arg (w_cons (w_errM (w_cons (w_v rfl (w_nil (⟨_, rfl, w_cons (w_errFM (w_cons (w_v rfl (w_nil (⟨_, rfl, w_cons (w_errFM (w_cons (w_v rfl (w_nil (⟨_, rfl, w_cons (w_c (w_nil (o_tup (by show 4 ≤ _; omega) (w_nil (o_appE (by show 3 ≤ 1000; decide) ?_)))))⟩)))))⟩)))))⟩)))))))⟩)))
  refine w_seq (w_expr (w_bm (w_v rfl ⟨o_isL, w_cons (w_arg (w_cons (w_errM (w_cons (w_v rfl (w_nil (⟨_, rfl, w_cons (w_errFM (w_cons (w_v rfl (w_nil (⟨_, rfl, w_cons (w_errFM (w_cons (w_v rfl (w_nil (⟨_, rfl, w_cons (w_c (w_nil (o_tup (by show 4 ≤ _; omega) (w_nil (o_appE (by show 4 ≤ 1000; decide) ?_)))))⟩)))))⟩)))))⟩)))))))⟩)))
  refine w_seq (w_expr (w_bm (w_v rfl ⟨o_isL, w_cons (w_arg (w_cons (w_errM (w_cons (w_v rfl (w_nil (⟨_, rfl, w_cons (w_errFM (w_cons (w_v rfl (w_nil (⟨_, rfl, w_cons (w_errFM (w_cons (w_v rfl (w_nil (⟨_, rfl, w_cons (w_c (w_nil (o_tup (by show 4 ≤ _; omega) (w_nil (o_appE (by show 5 ≤ 1000; decide) ?_)))))⟩)))))⟩)))))⟩)))))))⟩)))
  refine w_seq (w_expr (w_bm (w_v rfl ⟨o_isL, w_cons (w_arg (w_cons (w_errM (w_cons (w_v rfl (w_nil (⟨_, rfl, w_cons (w_errFM (w_cons (w_v rfl (w_nil (⟨_, rfl, w_cons (w_errFM (w_cons (w_v rfl (w_nil (⟨_, rfl, w_cons (w_c (w_nil (o_tup (by show 4 ≤ _; omega) (w_nil (o_appE (by show 6 ≤ 1000; decide) ?_)))))⟩)))))⟩)))))⟩)))))))⟩)))
  refine w_seq (w_expr (w_bm (w_v rfl ⟨o_isL, w_cons (w_arg (w_cons (w_errM (w_cons (w_v rfl (w_nil (⟨_, rfl, w_cons (w_errFM (w_cons (w_v rfl (w_nil (⟨_, rfl, w_cons (w_errFM (w_cons (w_v rfl (w_nil (⟨_, rfl, w_cons (w_c (w_nil (o_tup (by show 4 ≤ _; omega) (w_nil (o_appE (by show 7 ≤ 1000; decide) ?_)))))⟩)))))⟩)))))⟩)))))))⟩)))
  refine w_seq (w_expr (w_bm (w_v rfl ⟨o_isL, w_cons (w_arg (w_cons (w_errM (w_cons (w_v rfl (w_nil (⟨_, rfl, w_cons (w_errFM (w_cons (w_v rfl (w_nil (⟨_, rfl, w_cons (w_errFM (w_cons (w_v rfl (w_nil (⟨_, rfl, w_cons (w_c (w_nil (o_tup (by show 4 ≤ _; omega) (w_nil (o_appE (by show 8 ≤ 1000; decide) ?_)))))⟩)))))⟩)))))⟩)))))))⟩)))
  refine w_seq (w_expr (w_bm (w_v rfl ⟨o_isL, w_cons (w_arg (w_cons (w_errM (w_cons (w_v rfl (w_nil (⟨_, rfl, w_cons (w_errFM (w_cons (w_v rfl (w_nil (⟨_, rfl, w_cons (w_errFM (w_cons (w_v rfl (w_nil (⟨_, rfl, w_cons (w_c (w_nil (o_tup (by show 4 ≤ _; omega) (w_nil (o_appE (by show 9 ≤ 1000; decide) ?_)))))⟩)))))⟩)))))⟩)))))))⟩)))
  refine w_seq (w_expr (w_bm (w_v rfl ⟨o_isL, w_cons (w_arg (w_cons (w_errM (w_cons (w_v rfl (w_nil (⟨_, rfl, w_cons (w_errFM (w_cons (w_v rfl (w_nil (⟨_, rfl, w_cons (w_errFM (w_cons (w_v rfl (w_nil (⟨_, rfl, w_cons (w_c (w_nil (o_tup (by show 4 ≤ _; omega) (w_nil (o_appE (by show 10 ≤ 1000; decide) ?_)))))⟩)))))⟩)))))⟩)))))))⟩)))
  refine w_seq (w_expr (w_bm (w_v rfl ⟨o_isL, w_cons (w_arg (w_cons (w_errM (w_cons (w_v rfl (w_nil (⟨_, rfl, w_cons (w_errFM (w_cons (w_v rfl (w_nil (⟨_, rfl, w_cons (w_errFM (w_cons (w_v rfl (w_nil (⟨_, rfl, w_cons (w_c (w_nil (o_tup (by show 4 ≤ _; omega) (w_nil (o_appE (by show 11 ≤ 1000; decide) ?_)))))⟩)))))⟩)))))⟩)))))))⟩)))
  refine w_seq (w_expr (w_bm (w_v rfl ⟨o_isL, w_cons (w_arg (w_cons (w_errM (w_cons (w_v rfl (w_nil (⟨_, rfl, w_cons (w_errFM (w_cons (w_v rfl (w_nil (⟨_, rfl, w_cons (w_errFM (w_cons (w_v rfl (w_nil (⟨_, rfl, w_cons (w_c (w_nil (o_tup (by show 4 ≤ _; omega) (w_nil (o_appE (by show 12 ≤ 1000; decide) ?_)))))⟩)))))⟩)))))⟩)))))))⟩)))
  refine w_seq (w_expr (w_bm (w_v rfl ⟨o_isL, w_cons (w_arg (w_cons (w_errM (w_cons (w_v rfl (w_nil (⟨_, rfl, w_cons (w_errFM (w_cons (w_v rfl (w_nil (⟨_, rfl, w_cons (w_errFM (w_cons (w_v rfl (w_nil (⟨_, rfl, w_cons (w_c (w_nil (o_tup (by show 4 ≤ _; omega) (w_nil (o_appE (by show 13 ≤ 1000; decide) ?_)))))⟩)))))⟩)))))⟩)))))))⟩)))
  refine w_seq (w_expr (w_bm (w_v rfl ⟨o_isL, w_cons (w_arg (w_cons (w_errM (w_cons (w_v rfl (w_nil (⟨_, rfl, w_cons (w_errFM (w_cons (w_v rfl (w_nil (⟨_, rfl, w_cons (w_errFM (w_cons (w_v rfl (w_nil (⟨_, rfl, w_cons (w_c (w_nil (o_tup (by show 4 ≤ _; omega) (w_nil (o_appE (by show 14 ≤ 1000; decide) ?_)))))⟩)))))⟩)))))⟩)))))))⟩)))
  refine w_seq (w_expr (w_bm (w_v rfl ⟨o_isL, w_cons (w_arg (w_cons (w_errM (w_cons (w_v rfl (w_nil (⟨_, rfl, w_cons (w_errFM (w_cons (w_v rfl (w_nil (⟨_, rfl, w_cons (w_errFM (w_cons (w_v rfl (w_nil (⟨_, rfl, w_cons (w_c (w_nil (o_tup (by show 4 ≤ _; omega) (w_nil (o_appE (by show 15 ≤ 1000; decide) ?_)))))⟩)))))⟩)))))⟩)))))))⟩)))
  refine w_seq (w_expr (w_bm (w_v rfl ⟨o_isL, w_cons (w_arg (w_cons (w_errM (w_cons (w_v rfl (w_nil (⟨_, rfl, w_cons (w_errFM (w_cons (w_v rfl (w_nil (⟨_, rfl, w_cons (w_errFM (w_cons (w_v rfl (w_nil (⟨_, rfl, w_cons (w_c (w_nil (o_tup (by show 4 ≤ _; omega) (w_nil (o_appE (by show 16 ≤ 1000; decide) ?_)))))⟩)))))⟩)))))⟩)))))))⟩)))
  repeat wtm_at "w"
  refine h _ ?_ Pre.app1
  rw [List.getElem?_append_right (Nat.le_refl _), Nat.sub_self]
  rfl
theorem q_bare (h : ∀ s', Pre s s' → Q (.lst bareD) s') : RP Q E (m__law_bare [] s) := by
  have hz : sizeLine = 16777216 := by decide
  wtm_at "body"
  unfold b__law_bare
  refine w_seq (w_set (w_arg (w_cons (w_arg (w_cons (w_pure (w_cons (w_c (w_nil (o_tup (by show 2 ≤ _; omega) (w_cons (w_arg (w_cons (w_pure (w_cons (w_c (w_nil (o_tup (by show 2 ≤ _; omega) (w_cons (w_arg (w_cons (w_pure (w_cons (w_c (w_nil (o_tup (by show 2 ≤ _; omega) (w_nil (o_lstC (by show 3 ≤ _; omega) ?_))))))))))))))))))))))))))))
  refine w_seq (w_expr (w_bm (w_v rfl ⟨o_isL, w_cons (w_arg (w_cons (w_arg (w_cons (w_pure (w_cons (w_c (w_nil (o_tup (by show 2 ≤ _; omega) (w_cons (w_arg (w_cons (w_pure (w_cons (w_c (w_nil (o_tup (by show 2 ≤ _; omega) (w_cons (w_arg (w_cons (w_pure (w_cons (w_c (w_nil (o_tup (by show 2 ≤ _; omega) (w_cons (w_arg (w_cons (w_pure (w_cons (w_c (w_nil (o_tup (by show 2 ≤ _; omega) (w_nil (o_lst (by show 4 ≤ _; omega) (w_nil (o_extE (by show 3 ≤ 1000; decide) (by show 4 ≤ 1000; decide) ?_)))))))))))))))))))))))))))))))))))))⟩)))
  refine w_ret (w_bin (w_v rfl (w_arg (w_cons (w_arg (w_cons (w_pure (w_cons (w_c (w_nil (o_tup (by show 2 ≤ _; omega) (w_nil (o_lst (by show 1 ≤ _; omega) (o_addCL (by show 7 ≤ 1000; decide) (by show 1 ≤ 1000; decide) ?_))))))))))))))
  exact h _ Pre.app1
end
end G
set_option Elab.async false
set_option linter.all false
set_option maxRecDepth 100000
set_option maxHeartbeats 4000000
namespace G
open Mp Pl
open PySem (Str sizeLine)
local macro_rules | `(tactic| wtm_at "e") => `(tactic| first
  | with_reducible refine w_set ?_
  | with_reducible refine w_bin ?_
  | ((with_reducible refine w_v (d := ?dv) ?hv ?_); (case hv => exact rfl))
  | with_reducible refine w_c ?_
  | with_reducible refine w_cons ?_
  | with_reducible refine w_nil ?_
  | with_reducible refine w_arg ?_
  | with_reducible refine w_call ?_
  | with_reducible refine w_if ?_
  | with_reducible refine w_ret ?_
  | with_reducible refine w_skip ?_
  | with_reducible refine w_bl ?_
  | with_reducible refine w_tru ?_
  | with_reducible refine w_attr ?_
  | with_reducible refine w_meth ?_
  | with_reducible refine w_chain ?_
  | with_reducible refine w_and ?_
  | with_reducible refine w_or ?_
  | with_reducible refine w_not ?_
  | with_reducible refine w_notT ?_
  | with_reducible refine w_andT ?_
  | with_reducible refine w_orT ?_
  | with_reducible refine w_ifM ?_
  | with_reducible refine w_expr ?_
  | with_reducible refine w_un ?_
  | with_reducible refine w_par2 ?_
  | with_reducible refine w_par3 ?_
  | with_reducible refine w_asg ?_
  | with_reducible refine w_aug ?_
  | with_reducible refine w_sub ?_
  | with_reducible refine w_fld ?_
  | with_reducible refine w_raise ?_
  | with_reducible refine w_raise0 ?_
  | with_reducible refine w_try ?_
  | with_reducible refine w_make ?_
  | with_reducible refine w_tryAs ?_
  | with_reducible refine w_exn ?_
  | ((with_reducible refine o_isx (b := ?bv) ?h1 ?_); (case h1 => exact rfl))
  | with_reducible refine w_superS ?_
  | with_reducible refine w_super ?_
  | with_reducible refine w_star ?_
  | with_reducible refine w_for0 ?_
  | with_reducible refine w_lc0 ?_
  | with_reducible refine w_lc20 ?_
  | with_reducible refine w_seqJ ?_
  | with_reducible refine w_starC ?_
  | with_reducible refine w_spr ?_
  | with_reducible refine w_tryN ?_
  | ((with_reducible refine o_own0 ?hv ?_); (case hv => exact rfl))
  | ((with_reducible refine o_eqO0 ?hv ?_); (case hv => exact rfl))
  | with_reducible refine w_seqI ?_
  | with_reducible refine w_argI ?_
  | with_reducible refine w_opt ?_
  | with_reducible refine w_sli ?_
  | with_reducible refine w_pure ?_
  | with_reducible refine w_disp ?_
  | with_reducible refine w_pairs1 ?_
  | with_reducible refine w_pairs0 ?_
  | with_reducible refine w_retN ?_
  | with_reducible refine w_cnt ?_
  | with_reducible refine w_brk ?_
  | with_reducible refine o_addI ?_
  | with_reducible refine o_addI' ?_
  | with_reducible refine o_sub ?_
  | with_reducible refine o_lt ?_
  | with_reducible refine o_le ?_
  | with_reducible refine o_gt ?_
  | with_reducible refine o_ge ?_
  | with_reducible refine o_eqI ?_
  | with_reducible refine o_neI ?_
  | with_reducible refine o_eqS ?_
  | with_reducible refine o_neS ?_
  | with_reducible refine o_int ?_
  | with_reducible refine o_intB ?_
  | with_reducible refine o_neg ?_
  | with_reducible refine o_abs ?_
  | with_reducible refine o_newL ?_
  | with_reducible refine o_max2 ?_
  | with_reducible refine o_min2 ?_
  | with_reducible refine o_lenL ?_
  | with_reducible refine o_lenT ?_
  | ((with_reducible refine o_tup ?hv ?_); (case hv => first | exact Nat.le_of_ble_eq_true rfl | assumption))
  | ((with_reducible refine o_lst ?hv ?_); (case hv => first | exact Nat.le_of_ble_eq_true rfl | assumption))
  | ((with_reducible refine o_isi (t := ?tv) (b := ?bv) ?h1 ?h2 ?_); (case h1 => exact rfl); (case h2 => exact rfl))
  | ((with_reducible refine o_fld (C := ?cv) (fs := ?fv) (d := ?dv) ?h1 ?h2 ?h3 ?_); (case h1 => exact rfl); (case h2 => exact rfl); (case h3 => exact rfl))
  | ((with_reducible refine Exists.intro ?kv (And.intro ?ha ?_)); (case ha => exact rfl)))
local macro_rules | `(tactic| wtm_at "body") => `(tactic| (refine w_body rfl rfl ?_; dsimp only [List.length_cons, List.length_nil, List.drop, List.append_nil, List.map_cons, List.map_nil, List.map, List.cons_append, List.nil_append, Nat.reduceAdd, Nat.reduceSub, List.replicate]))
local macro_rules | `(tactic| wtm_at "meth") => `(tactic| refine ⟨_, _, _, rfl, rfl, rfl, ?_⟩)
local macro_rules | `(tactic| wtm_at "w") => `(tactic| first | with_reducible refine w_seq ?_ | wtm_at "e")
local macro_rules | `(tactic| wtm_at "s") => `(tactic| ((repeat wtm_at "e"); (with_reducible refine w_seq ?_)))
local macro_rules | `(tactic| wtm_at "f") => `(tactic| ((repeat wtm_at "e"); (with_reducible show FP _ _)))
/-! errors as values: the law itself -/
section
variable {s : Sto} {Q : D → Sto → Prop} {E : XT} {C : Str} {d : D}
theorem Pre.refl : Pre s s := ⟨Nat.le_refl _, fun _ _ => rfl⟩
theorem ne_s1 {K : Str} (h : PySem.PyData.strOk K = true) : neD (.lst [.str K]) (.lst [.str K]) s = .ok (.bl false) s := by
  have sh : PySem.SeqAt.shaped (.list [.str K]) = true := by
    unfold PySem.SeqAt.shaped
    rw [show PySem.PyData.canLay0 (.list [.str K]) = (PySem.PyData.strOk K && true) from rfl, h]
    rfl
  show eqG true _ _ _ = _
  unfold eqG
  dsimp only
  unfold eqG0
  rw [show toPy (.lst [.str K]) = some (.list [.str K]) from rfl]
  dsimp only
  rw [sh, if_pos (show (true && true) = true from rfl)]
  show Res.ok (D.bl (!((K == K) && true))) s = _
  simp
theorem o_countB {bs : List Bool} (h : Q (.int (bs.count true : Nat)) s) : RP Q E (countD (.lst (bs.map .bl)) [.bl true] s) := by
  have e : ∀ l : List Bool, cntB (l.map .bl) = some l := fun l => by
    induction l with
    | nil => rfl
    | cons b l ih =>
      unfold cntB at ih ⊢
      rw [List.map_cons, List.mapM_cons, ih]
      rfl
  unfold countD
  rw [show lstOf s (.lst (bs.map .bl)) = some (bs.map .bl) from rfl]
  dsimp only
  rw [e]
  exact h
theorem flat_same {x : D} (h : Flat x) (n m : Nat) : rdP s (n + 1) x = rdP s (m + 1) x := by
  rcases h with rfl | ⟨b, rfl⟩ | ⟨i, rfl, hi⟩ | ⟨z, rfl, hz⟩ <;> simp only [rdP]
theorem flats_same : ∀ (l : List D) {n m : Nat} {a b : List PySem.PyData}, (∀ d ∈ l, Flat d) → l.length < n → l.length < m → rdPs s (n + 1) l = some a → rdPs s (m + 1) l = some b → a = b
  | [], n, m, a, b, _, _, _, ha, hb => by
    simp only [rdPs] at ha hb
    cases ha
    cases hb
    rfl
  | d :: l, 0, m, a, b, _, hn, _, _, _ => by simp at hn
  | d :: l, n + 1, 0, a, b, _, _, hm, _, _ => by simp at hm
  | d :: l, n + 1, m + 1, a, b, h, hn, hm, ha, hb => by
    obtain ⟨p, e1, _⟩ := flat_rd (s := s) (h d (by simp)) n
    have e2 := (flat_same (s := s) (h d (by simp)) m n).trans e1
    obtain ⟨ps, e3, _⟩ := flats_rd (s := s) l n (fun x hx => h x (by simp [hx])) (by simpa using hn)
    obtain ⟨qs, e4, _⟩ := flats_rd (s := s) l m (fun x hx => h x (by simp [hx])) (by simpa using hm)
    have ee := flats_same l (fun x hx => h x (by simp [hx])) (by simpa using hn) (by simpa using hm) e3 e4
    subst ee
    rw [rdPs, e1, e3] at ha
    rw [rdPs, e2, e4] at hb
    cases ha
    cases hb
    rfl
theorem two_rd {p : PySem.PyData} (h : ∀ n, 50 ≤ n → rdP s n d = some p) (h1 : p.showable = true) (h2 : p.hasDict = false) (h3 : p.depth < 50) (h4 : wt p ≤ 40000) : RO s (.lst [d, d]) := by
  have e : rdPs s 98 [d, d] = some [p, p] := by
    rw [rdPs, h 97 (by decide), rdPs, h 96 (by decide), rdPs]
    rfl
  refine ro_of (p := .list [p, p]) (by simp only [rdP, e]; rfl) ?_ ?_ ?_ ?_
  · simp only [PySem.PyData.showable, PySem.PyData.showableAll, h1, Bool.and_self]
  · simp only [PySem.PyData.hasDict, PySem.PyData.hasDictAll, h2, Bool.or_self]
  · simp only [PySem.PyData.depth, PySem.PyData.depthAll]
    omega
  · simp only [wt, wtAll]
    omega
theorem Th.two (h : Th s d) : RO s (.lst [d, d]) := by
  cases h with
  | flat h => exact ro_lst (flats2 h h) (by show 2 ≤ 50; decide)
  | @tup l h hl =>
    obtain ⟨ps, e, h1, h2, h3, h4⟩ := flats_rd (s := s) l 40 h (by omega)
    have key : ∀ n, 50 ≤ n → rdP s n (.tup l) = some (.tuple ps) := fun n hn => by
      obtain ⟨m, rfl⟩ : ∃ m, n = m + 2 := ⟨n - 2, by omega⟩
      obtain ⟨ps2, e2, _⟩ := flats_rd (s := s) l m h (by omega)
      have ee : ps2 = ps := flats_same l h (by omega) (by omega) e2 e
      subst ee
      simp only [rdP, e2]
      rfl
    exact two_rd key (by rw [PySem.PyData.showable]; exact h1) (by rw [PySem.PyData.hasDict]; exact h2) (by rw [PySem.PyData.depth]; omega) (by rw [wt]; omega)
  | @lst l h hl =>
    obtain ⟨ps, e, h1, h2, h3, h4⟩ := flats_rd (s := s) l 40 h (by omega)
    have key : ∀ n, 50 ≤ n → rdP s n (.lst l) = some (.list ps) := fun n hn => by
      obtain ⟨m, rfl⟩ : ∃ m, n = m + 2 := ⟨n - 2, by omega⟩
      obtain ⟨ps2, e2, _⟩ := flats_rd (s := s) l m h (by omega)
      have ee : ps2 = ps := flats_same l h (by omega) (by omega) e2 e
      subst ee
      simp only [rdP, e2]
      rfl
    exact two_rd key (by rw [PySem.PyData.showable]; exact h1) (by rw [PySem.PyData.hasDict]; exact h2) (by rw [PySem.PyData.depth]; omega) (by rw [wt]; omega)
  | d0 h =>
    refine ⟨.list [.dict [], .dict []], ?_, by decide +kernel, by decide +kernel, by decide +kernel⟩
    simp only [rdP, h, List.map_nil, rdPs]
    rfl
  | d1 h =>
    refine ⟨.list [.dict [(.str "a", .int 1)], .dict [(.str "a", .int 1)]], ?_, by decide +kernel, by decide +kernel, by decide +kernel⟩
    simp only [rdP, h, List.map_cons, List.map_nil, rdPs]
    rfl
theorem law_ok {ns : List Int} : ∃ s', m_law [.rol (ns.map .int)] [] = .ok (.bl true) s' := by
  suffices hw : RP (fun d _ => d = .bl true) noX (m_law [.rol (ns.map .int)] []) by
    obtain ⟨d, s', e, rfl⟩ := hw.ex
    exact ⟨s', e⟩
  wtm_at "body"
  unfold b_law
  wtm_at "s"
  repeat wtm_at "e"
  refine q_pen fun c s0 pen0 _ => ?_
  wtm_at "s"
  repeat wtm_at "e"
  refine RP.of (a := .int ((ns.map D.int).length : Nat)) rfl ?_
  repeat wtm_at "e"
  generalize hN : (3 + if ((ns.map D.int).length : Int) < 3 then ((ns.map D.int).length : Int) else 3) = N
  have hN1 : 0 ≤ N ∧ N ≤ 6 := by
    rw [← hN]
    split <;> omega
  refine w_range1 (by omega) (by omega) ?_
  refine w_for (fun i r s' => Pen s' 0 (10 * (i : Nat)) ∧ ∃ x2 x3 x4 x5 x6 x7 : Option D, r = [some (.rol (ns.map .int)), some (.cel 0), x2, x3, x4, x5, x6, x7]) rfl ⟨pen0.mono (by omega), _, _, _, _, _, _, rfl⟩ ?_ ?_
  · rintro i d r s hd ⟨pen, x2, x3, x4, x5, x6, x7, rfl⟩
    obtain ⟨hi, rfl⟩ := intL_get hd
    have hi6 : i < 6 := by omega
    refine ⟨_, rfl, ?_⟩
    wtm_at "s"
    repeat wtm_at "e"
    refine q_odd pen (by omega) fun d s1 hd1 pen1 _ _ => ?_
    have ht := hd1.th
    repeat wtm_at "e"
    refine q_filled fun s2 hc p2 => ?_
    refine ⟨⟨rowsD d, some s1.length⟩, by unfold srcD; dsimp only; rw [hc], ?_⟩
    refine w_forC (c := ⟨rowsD d, some s1.length⟩) (fun j r s' => Pre s2 s' ∧ ∃ x4 x5 x6 x7 : Option D, r = [some (.rol (ns.map .int)), some (.cel 0), some (.int (0 + (i : Nat))), some d, x4, x5, x6, x7]) (fun j r s' h => h.1.at hc) ⟨Pre.refl, _, _, _, _, rfl⟩ ?_ ?_
    · rintro j e r s3 hd ⟨p3, x4, x5, x6, x7, rfl⟩
      have hd : (rowsF.map fun q => D.tup [.err q.1, d, d, .str q.2])[j]? = some e := hd
      rw [List.getElem?_map] at hd
      cases eq : rowsF[j]? with
      | none => rw [eq] at hd; cases hd
      | some q =>
        rw [eq] at hd
        cases hd
        obtain ⟨C, K⟩ := q
        obtain ⟨h1, h2, h3, h4⟩ := rows_ok _ (List.mem_append_left _ (List.mem_of_getElem? eq))
        have h2 : kindsL C = [K] := h2
        have h3 : (classL C).count true = 1 := h3
        refine ⟨_, rfl, ?_⟩
        have ht3 : Th s3 d := (ht.pre p2).pre p3
        wtm_at "f"
        with_reducible refine w_mid (fun r s' => Pre s2 s' ∧ r = [some (.rol (ns.map .int)), some (.cel 0), some (.int (0 + (i : Nat))), some d, some (.err C), some (.str K), some d, some d]) ?_ ?_
        · repeat wtm_at "e"
          refine o_reprX ht3.two ?_
          repeat wtm_at "e"
          refine o_reprX ht3.two ?_
          repeat wtm_at "e"
          refine ⟨fun _ => ?_, fun z => (by simp at z)⟩
          repeat wtm_at "e"
          refine q_kinds h1 fun s4 p4 => ?_
          rw [h2]
          repeat wtm_at "e"
          refine RP.of (ne_s1 h4) ?_
          repeat wtm_at "e"
          refine ⟨fun z => (by cases z), fun _ => ?_⟩
          repeat wtm_at "e"
          exact ⟨p3.trans p4, rfl⟩
        · rintro r s4 ⟨p4, rfl⟩
          repeat wtm_at "e"
          refine w_bm ?_
          repeat wtm_at "e"
          refine q_classes h1 fun s5 p5 => ?_
          refine ⟨rfl, ?_⟩
          repeat wtm_at "e"
          refine o_countB ?_
          rw [h3]
          repeat wtm_at "e"
          refine ⟨fun z => (by cases z), fun _ => ?_⟩
          repeat wtm_at "e"
          exact ⟨p4.trans p5, _, _, _, _, rfl⟩
    · rintro r s3 ⟨p3, x4, x5, x6, x7, rfl⟩
      exact ⟨(pen_pre pen1 (p2.trans p3)).mono (by omega), _, _, _, _, _, _, rfl⟩
  · rintro r s' ⟨pen, x2, x3, x4, x5, x6, x7, rfl⟩
    wtm_at "s"
    repeat wtm_at "e"
    refine q_bare fun s1 p1 => ?_
    repeat wtm_at "e"
    refine w_for (c := ⟨bareD, none⟩) (fun j r s' => ∃ x2 x3 x4 x5 x6 x7 : Option D, r = [some (.rol (ns.map .int)), some (.cel 0), x2, x3, x4, x5, x6, x7]) rfl ⟨_, _, _, _, _, _, rfl⟩ ?_ ?_
    · rintro j e r s3 hd ⟨x2, x3, x4, x5, x6, x7, rfl⟩
      have hd : (rowsB.map fun q => D.tup [.err q.1, .str q.2])[j]? = some e := hd
      rw [List.getElem?_map] at hd
      cases eq : rowsB[j]? with
      | none => rw [eq] at hd; cases hd
      | some q =>
        rw [eq] at hd
        cases hd
        obtain ⟨C, K⟩ := q
        obtain ⟨h1, h2, h3, h4⟩ := rows_ok _ (List.mem_append_right _ (List.mem_of_getElem? eq))
        have h2 : kindsL C = [K] := h2
        have h3 : (classL C).count true = 1 := h3
        refine ⟨_, rfl, ?_⟩
        repeat wtm_at "e"
        refine q_kinds h1 fun s4 p4 => ?_
        rw [h2]
        repeat wtm_at "e"
        refine RP.of (ne_s1 h4) ?_
        repeat wtm_at "e"
        refine ⟨fun _ => ?_, fun z => (by cases z)⟩
        repeat wtm_at "e"
        refine w_bm ?_
        repeat wtm_at "e"
        refine q_classes h1 fun s5 p5 => ?_
        refine ⟨rfl, ?_⟩
        repeat wtm_at "e"
        refine o_countB ?_
        rw [h3]
        repeat wtm_at "e"
        refine ⟨fun z => (by cases z), fun _ => ?_⟩
        repeat wtm_at "e"
        exact ⟨_, _, _, _, _, _, rfl⟩
    · rintro r s3 ⟨x2, x3, x4, x5, x6, x7, rfl⟩
      repeat wtm_at "e"
      rfl
end
end G
set_option Elab.async false
set_option linter.all false
set_option maxRecDepth 100000
set_option maxHeartbeats 0
open PySem PySem.W PySem.Calls PyProof.Rows
theorem PySem.Challenge.cw_firstanswers_k00_errors_holds : PySem.Challenge.rw_firstanswers_k00_errors.Holds := by
  w_on; o_law
  refine HandSHeadRun.head_any (r := OpenLaw.row PySem.Challenge.rw_firstanswers_k00_errors) (q := view (OpenLaw.row PySem.Challenge.rw_firstanswers_k00_errors).prog [35]) (H := G.hk) (ob := G.ob) (M := 20000) (loose := G.loose) (d := HandSHeadRun.topDef (OpenLaw.row PySem.Challenge.rw_firstanswers_k00_errors).prog 35) (kwd := []) G.ob_eq
    (by kernel_rfl) (fun s => by kernel_rfl) G.run (by kernel_rfl) (by kernel_rfl) (by kernel_rfl) (by rfl) (by first | assumption | decide +kernel) (by decide +kernel) ⟨rfl, rfl, rfl, rfl, rfl, by decide +kernel⟩ ?hw ?hc
  case hw => w_witness2
  case hc =>
    refine Mp.walk_end (l := PySem.Challenge.rw_firstanswers_k00_errors) (n := 63) (k := 4) (m := G.m_law) rfl (by decide) (by kernel_rfl) ⟨⟨rfl, by decide, by decide⟩, rfl⟩ ?F (fun ns _ _ => G.law_ok)
    intro w mg fa h Y N hmg0
    obtain ⟨K, KX, c⟩ := Y
    have hmg : mg ("law" : PySem.Str) = some (.ref fa) := by
      have e : (HandSHeadRun.topDef (OpenLaw.row PySem.Challenge.rw_firstanswers_k00_errors).prog 35).name = ("law" : PySem.Str) := by kernel_rfl
      rw [← e]
      exact hmg0
    have Z : G.FX K mg := ⟨c, h, KX, N⟩
    have e := hmg.symm.trans (G.z168 Z)
    cases e
    exact ⟨K, KX, fun base _ _ => G.f_law Z⟩
